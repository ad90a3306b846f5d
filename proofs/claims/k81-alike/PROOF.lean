import PyProof.Rows.All
import Wide.All
import OpenK.AllK
import Wide.FinOn
import KE.KFromBytes
import KE.KExcSuper
import HandS.Base
import HandS.Call
import HandS.List
import HandS.Exc
import HandS.ExcInit
import HandS.ExcSuper
import HandS.Nested
import HandS.WordsExc
import HandS.ForMost
import HandS.More
import HandS.Defaults
import HandS.Flow
import HandS.Style
import HandS.TupAny
import HandS.TupMul
import HandS.Deep
import HandS.Zip
import HandS.Walk
import HandS.IsInst
import HandS.NoneIn
import HandS.Wide
import HandS.HeadHook1
import HandS.Text
import HandS.Flt
import HandS.Conv
import HandS.TryOnly
import HandS.ExcOwn
import HandS.Codes
import HandS.HeadEnd
import HandS.HeadHook2
import HandS.Head0
import HandS.Head1
import HandS.Head2
import PySem.Challenge.RW_pathsmilled_k81_whole_plans_alike
set_option Elab.async false
set_option linter.all false
set_option maxRecDepth 100000
set_option maxHeartbeats 4000000
/-! An own exception over a class over ValueError, whose __init__ says super().__init__(text + str(x)) and self.x = x: kept as a def. -/
namespace PV
open PySem PySem.Spec PyProof.Rows L2 NdefX PySem.W
section
variable {prog : Program} {w : World} {A : Around} {E : Value → Shared → Prop} {h : Heap} {g : Array GenState} {d : Drawn} {t : Nat} {os : OsState}
variable {nm q : Str} {C N : Addr} {bs bm bmB : List Value} {hdct : Bool} {sn : List Str} {sub : List Value} {ab : Bool} {col : Option Bool} {dd : Option Addr} {k0 k1 k2 k3 k5 : Option Value}
/-- the wrapper called: the args are laid anew -/
theorem call_mw {u e t0 : Addr} {rest : List Value} {Q : Value → Shared → Prop} (hT : ∀ X : String, bm.contains (.type X) = bmB.contains (.type X))
    (FB : ExcBaseFacts "ValueError" "ValueError.__new__" "ValueError.__init__" bmB)
    (hC : h.get? C = some (excClassObj nm q C N bs bm hdct sn sub ab col dd k0 k1 k2 k3 k5 "ValueError.__new__")) (he : h.get? e = some (HandSPX.excO C t0)) (hu : h.get? u = some (kxs_mw "ValueError.__init__" e)) (hrest : rest.length ≤ sizeLine)
    (hq : ∀ h' t1, (∀ b o, b ≠ e → h.get? b = some o → h'.get? b = some o) → h'.get? e = some (HandSPX.excO C t1) → Q .none ⟨h', g, d, t, os⟩) :
    wpAny (model prog w) A (call (.ref u) rest) Q E ⟨h, g, d, t, os⟩ := by
  refine wpAny_call (codeAny_of_tree ?_)
  show wpAny _ A.in1 (callAny (.ref u) ⟨rest, []⟩) _ _ _
  simp only [callAny]
  refine wpAny_bind (wpAny_load hu ?_)
  simp only [kxs_mw, show (Value.type "method-wrapper" == Value.type "method" || Value.type "method-wrapper" == Value.type "builtin_function_or_method" || Value.type "method-wrapper" == Value.type "method-wrapper") = true by decide, if_true]
  refine W.KFB.if_so (by decide) ?_
  refine wpAny_bind (ESX.check_bound FB hC he rfl ?_)
  refine wpAny_bind (wpAny_pure (wpAny_pure ?_))
  refine ⟨plainId_quiet FB.init.plain _, codeAny_builtin FB.initEntry ?_⟩
  rw [Around.under_plainId FB.init.plain _]
  wp_walk
  refine hq _ h.objs.size (fun b o hb ho => ?_) ?_
  · rw [Heap.get?_update_other _ _ (Ne.symm hb)]
    exact Heap.get?_push_of_some _ ho
  · rw [Heap.get?_update_self _ (Heap.get?_push_of_some _ he) rfl]
    rfl
end
end PV
set_option maxRecDepth 100000
set_option maxHeartbeats 4000000
namespace PV
open PySem PySem.Spec PyProof.Rows L2 NdefX PySem.W
/-- super().__init__(m + str(step)); self.step = step -/
def exB (m : Str) (j : Nat) (p0 p1 p2 p3 p4 p5 p6 p7 p8 p9 q1 q2 q3 q4 : Pos) : List Stmt :=
  [.Expr (.Call (.Attribute (.Call (.Name "super" p0) [] [] p1) "__init__" p2) [.BinOp (.Constant (.str m) j p3) .Add (.Call (.Name "str" p4) [.Name "step" p5] [] p6) p7] [] p8) p9,
   .Assign [.Attribute (.Name "self" q1) "step" q2] (.Name "step" q3) q4]
theorem mth_formS {o : Expr} {apos pos : Pos} {m : Str} {e : Expr} {env : PySem.Env} (hl : (apos.endLine == pos.line) = true) (he : starEach [e] env = [(false, eval e env)]) :
    eval (.Call (.Attribute o m apos) [e] [] pos) env = (do
      let ov ← attributeBase o m env (eval o env)
      standAt apos.atName
      let (f, first) ← holding [ov] (getMethod ov m (do return (← importBound o env).getD true))
      callWith pos f first (backTo pos (starEach [e] env)) []) := by
  have e1 : eval (.Call (.Attribute o m apos) [e] [] pos) env = (do
    let ov ← attributeBase o m env (eval o env)
    standAt apos.atName
    methodCall o m apos pos env ov 1 (backTo pos (starEach [e] env)) []) := rfl
  rw [e1]
  unfold methodCall
  have hf : methodCallForm 1 (backTo pos (starEach [e] env)) [] = true := by
    rw [he]
    show methodCallForm 1 (backTo pos [(false, eval e env)]) [] = true
    rfl
  rw [hf]
  unfold methodCallPos calleeOf
  simp [hl]
theorem str_len {i : Int} (h : 0 ≤ i ∧ i ≤ 1000000000000) : (Str.ofString (toString i)).length ≤ 20 := by
  obtain ⟨n, rfl⟩ : ∃ n : Nat, i = n := ⟨i.toNat, by omega⟩
  rw [Str.ofString_eq_toList]
  show ((toString (n : Int)).toList.map Char.toNat).toArray.size ≤ 20
  rw [List.size_toArray, List.length_map, String.length_toList]
  have e : toString (n : Int) = n.repr := rfl
  rw [e]
  exact (Nat.length_repr_le_iff (by decide)).mpr (by
    have : n ≤ 1000000000000 := by omega
    exact Nat.lt_of_le_of_lt this (by decide))
/-- what the written part says of the class at C and of its __init__ at fI -/
structure ExT (prog : Program) (K : PySem.W.Frag) (mg : Str → Option Value) (C fI cc cda : Addr) (F : NF) (ps : Arguments) : Prop where
  oex : OexC K C
  noF : findIn K (.ref C) "step" = some none
  F1 : F.name = "__init__" ∧ F.params = ps ∧ F.cl = [(("__class__" : Str), cc)] ∧ F.c = cda
  hd : (ps.posonlyargs ++ ps.args).head?.map (·.arg) = some "self"
  sc : nscB ["self", "step", "__class__"] ["self", "step"] ["__class__"] F.scope = true
  scs : F.scope.names.lookup ("super" : Str) = some .globalImplicit
  sct : F.scope.names.lookup ("str" : Str) = some .globalImplicit
  bd : ∃ m j p0 p1 p2 p3 p4 p5 p6 p7 p8 p9 q1 q2 q3 q4, F.body = exB m j p0 p1 p2 p3 p4 p5 p6 p7 p8 p9 q1 q2 q3 q4 ∧ m.length ≤ 1000 ∧ (p2.endLine == p8.line) = true
  fn : ∃ (oc : Value) (od : Option Addr) (doc pm ct : Value) (an : Option Addr) (osl : Array (Option Value)), K.lookup fI = some ⟨oc, od, .func (fnX F.name F.qual F.params F.body F.scope F.cl .none .none doc pm an (.ref F.c) ct), osl⟩
  code : codeIn K (.ref cda) F.qual = true
  cell : ∃ cl cld csl, K.lookup cc = some ⟨cl, cld, .cell (some (.ref C)), csl⟩
  file : ∃ ccl cdd vs ccs fl tf, K.lookup cda = some ⟨ccl, cdd, .fields vs, ccs⟩ ∧ vs[2]? = some (.str fl tf) ∧ ((prog.main.file : Str) == fl) = true
  cls : ∃ cd, clsIn K C = some cd ∧ alongIn K "__init__" ((cd.mro.dropWhile (· != .ref C)).drop 1) = some (some (.builtin "ValueError.__init__"))
  mro : mroIn K C (.ref C) = some true
  vsub : subIn K (.ref C) (.type "ValueError") = some true
  opq : nsIn K cStatics "thirdparty.any" = some none
  msup : mg "super" = none
  mstr : mg "str" = none
  top : (prog.main.scope.names.lookup ("super" : Str)).isSome = false
/-- the promise of __init__ -/
def spX (K : PySem.W.Frag) (C : Addr) : Sp := fun vs H Q _ => ∃ (a : Addr) (i : Int), vs = [.ref a, .int i] ∧ (0 ≤ i ∧ i ≤ 1000000000000) ∧ H a = some (exo a C none) ∧
  ∀ dx, H dx = none → dx ≠ a → Q .non (upd (upd H dx (exd dx [("step", .int i)])) a (exo a C (some dx)))
section
variable {P : Program} {w : World} {K : PySem.W.Frag} {mg : Str → Option Value} {base : Heap} {CX : CXT} {k : Nat} {C fI cc cda : Addr} {F : NF} {ps : Arguments}
theorem exc_ok (T : ExT P K mg C fI cc cda F ps) {doc pm ct : Value} {an : Option Addr} (hfd : ∃ oc od osl, K.lookup fI = some ⟨oc, od, .func (fnX F.name F.qual F.params F.body F.scope F.cl .none .none doc pm an (.ref F.c) ct), osl⟩) :
    FnOk P w K mg base CX (k + 1) fI (fnX F.name F.qual F.params F.body F.scope F.cl .none .none doc pm an (.ref F.c) ct) ["self", "step"] (spX K C) := by
  refine ⟨fun vs H Q E ⟨a, i, e, _⟩ => by rw [e]; rfl, fun A outer s H args us vs Q E hr e0 hb r hsp => ?_⟩
  obtain ⟨a, i, rfl, hi, ea, hq⟩ := hsp
  obtain ⟨oc, od, osl, lf⟩ := hfd
  obtain ⟨hF1, hF2, hF3, hF4⟩ := T.F1
  have S := nscope_by T.sc
  have KX : K.In s.heap := e0.mod.kin.keeps fun b o e => (e0.bs b o e).1
  have lim : s.heap.NoLimit := e0.mod.nolimit.keeps fun b o e => (e0.bs b o e).1
  have hcode := T.code
  rw [← hF4] at hcode
  cases r with
  | cons r1 r2 =>
    rename_i u0 ur
    obtain rfl : u0 = Value.ref a := r1
    cases r2 with
    | cons r3 r4 =>
      rename_i u1 ur2
      cases r4
      have r : Vals [V.ref a, V.int i] [Value.ref a, u1] := .cons rfl (.cons r3 .nil)
      refine ks_codeAny_call_defAt (fd := fnX F.name F.qual F.params F.body F.scope F.cl .none .none doc pm an (.ref F.c) ct) (body := F.body) (binds := (["self", "step"] : List Str).zip [Value.ref a, u1]) hr.depth (KX _ _ lf) rfl lim (codeRec_of KX hcode) rfl hb
        (fun y hy => S.nocell y hy) (fun y hy => S.par y.1 (List.of_mem_zip hy).1) (fun h₁ hns hk₁ => ?_) S.co S.gen S.kind
      obtain ⟨cl, cld, csl, lc⟩ := T.cell
      have hcc : H cc = none := by
        have := e0.mod.kin _ _ lc
        exact (e0.bs _ _ this).2
      have C0 : CellsAt F.cl ["__class__"] [some (.ref C)] s.heap H := by
        rw [hF3]
        refine ⟨rfl, fun y c e => ?_, fun x y c e1 e2 => ?_, fun j y e => ?_⟩
        · have : y = "__class__" ∧ c = cc := by
            unfold List.lookup at e
            split at e
            · rename_i hy; cases e; exact ⟨by simpa using hy, rfl⟩
            · cases e
          obtain ⟨_, rfl⟩ := this
          exact ⟨hcc, _, ⟨_, KX _ _ lc, rfl⟩⟩
        · unfold List.lookup at e1 e2
          split at e1
          · rename_i hx
            split at e2
            · rename_i hy
              rw [(by simpa using hx : x = "__class__"), (by simpa using hy : y = "__class__")]
            · cases e2
          · cases e1
        · cases j with
          | zero =>
            have : y = "__class__" := by simpa using e.symm
            subst this
            exact ⟨cc, by simp [List.lookup], fun v hv => by
              have : v = .ref C := by simpa using hv.symm
              subst this
              exact ⟨.ref C, rfl, _, KX _ _ lc, rfl⟩⟩
          | succ j => simp at e
      have I : Inv (ncx CX P w K mg base ["self", "step", "__class__"] F fI A outer s H E) [] (startF ["self", "step", "__class__"] [V.ref a, V.int i] [some (.ref C)]) H { s with heap := h₁, toks := s.toks + 2 } :=
        inv_startN (ps := ["self", "step"]) (fr := ["__class__"]) S hr.hd e0 rfl r C0 hns hk₁
      obtain ⟨m, j, p0, p1, p2, p3, p4, p5, p6, p7, p8, p9, q1, q2, q3, q4, hbd, hm, hpos⟩ := T.bd
      obtain ⟨ar, har, hself⟩ : ∃ ar, (F.params.posonlyargs ++ F.params.args).head? = some ar ∧ ar.arg = "self" := by
        rw [hF2]
        exact Option.map_eq_some_iff.mp T.hd
      obtain ⟨ccl, cdd, vs, ccs, fl, tf, lcd, hvs, hfile⟩ := T.file
      rw [← hF4] at lcd
      obtain ⟨cd, hcd, hal⟩ := T.cls
      obtain ⟨nm, q, N, bs, bm, sn, sub, ab, col, dd, k0, k1, k2, k3, k5, hC, hbm⟩ := T.oex.cls
      have fin : ∀ {pins : List (Addr × Obj)} {σ' : L2.St} {H' : Hp} {v : V} {u : Value} {s' : Shared}, Inv (ncx CX P w K mg base ["self", "step", "__class__"] F fI A outer s H E) pins σ' H' s' → RelV v u → Q v H' → CE outer P w H s Q u s' :=
        fun {pins σ' H' v u s'} J rv q => ⟨v, H', J.os, J.bare, J.base, J.hok, rv, q⟩
      show _root_.PySem.wpAt (model P w) (A.deeper (envF F fI s.heap.objs.size)) (.func F.body (envF F fI s.heap.objs.size)) (execs F.body (envF F fI s.heap.objs.size)) _ _ _
      generalize hBB : F.body = BB
      rw [hbd] at hBB
      subst hBB
      refine ks_wpAt_execs_cons (ks_wpAt_Expr_any (ks_wpAt_MethodCall ?_ (mth_formS hpos rfl)) ?_ ?_)
      · obtain ⟨mb, hb1, hb2⟩ := I.mod.blt
        have hD1 := KX.keeps hk₁ _ _ hC
        refine ks_wpAt_super_base (env := envF F fI s.heap.objs.size) T.scs (S.frk _ (by simp)) rfl rfl (KX.keeps hk₁ _ _ lf) rfl har rfl (KX.keeps hk₁ _ _ lcd) rfl hvs hfile T.top ?_
        refine ks_loadName_global S.kind T.scs (Calls.loadGlobal_builtin (env := envF F fI s.heap.objs.size) (I.mod.glob.keeps I.bk) T.msup (hb1.keeps I.bk) ((hb2 "super" (by decide)).trans (by first | boot_by_name | rfl | kernel_rfl)) ⟨rfl, ?_⟩)
        refine wpAny_loadName_free S.kind (S.frk _ (by simp)) (by show List.lookup _ F.cl = _; rw [hF3]; simp [List.lookup]) ⟨_, KX.keeps hk₁ _ _ lc, rfl⟩ ?_
        rw [hself]
        refine wpAny_loadName_local S.kind (S.par _ (by simp)) hns (v := .ref a) (zip_look (i := 0) (by decide) rfl rfl) ?_
        refine ks_wpAny_isType_cls hD1 rfl ⟨rfl, ?_⟩
        obtain ⟨t1, hoe⟩ := exo_at I.hok ea
        refine ks_wpAny_call_super hD1 rfl hoe rfl (fun c e => by cases e) (looks_mroIn (KX.keeps hk₁) T.mro) (fun h₂ e k => ?_)
        have I2 : Inv (ncx CX P w K mg base ["self", "step", "__class__"] F fI A outer s H E) [] (startF ["self", "step", "__class__"] [V.ref a, V.int i] [some (.ref C)]) H { s with heap := h₂, toks := s.toks + 2 } := I.kept (t' := s.toks + 2) k
        have I2k : K.In h₂ := I2.kIn
        have J2 : W.InstAt h₂ a { cls := .ref C, dict := none, data := .fields #[.ref t1, .none, .none, .none, .bool false, .none] } C none := ⟨k _ _ hoe, rfl, rfl, trivial⟩
        refine kxs_getMethod kxs_ValueError e (looks_opaque I2k T.opq) (l₀ := cd.mro) (fun A Q E s k q => wpAny_bind ((looks_clsIn I2k hcd) A _ E s k (wpAny_pure q))) rfl I2k hal (J2.type.andThen (looks_subIn I2k T.vsub)) (ks_ne I2k J2 hcd) rfl ?_
        have kp : ∀ b o, h₂.get? b = some o → (h₂.push (kxs_mw "ValueError.__init__" a)).get? b = some o := fun b o e => Heap.get?_push_of_some _ e
        have hu : (h₂.push (kxs_mw "ValueError.__init__" a)).get? h₂.objs.size = some (kxs_mw "ValueError.__init__" a) := Heap.get?_push_at rfl rfl
        have I3 : Inv (ncx CX P w K mg base ["self", "step", "__class__"] F fI A outer s H E) [] (startF ["self", "step", "__class__"] [V.ref a, V.int i] [some (.ref C)]) H { s with heap := h₂.push (kxs_mw "ValueError.__init__" a), toks := s.toks + 2 + 1 } := I2.kept (t' := s.toks + 2 + 1) kp
        have I4 : Inv (ncx CX P w K mg base ["self", "step", "__class__"] F fI A outer s H E) [(h₂.objs.size, kxs_mw "ValueError.__init__" a)] (startF ["self", "step", "__class__"] [V.ref a, V.int i] [some (.ref C)]) H { s with heap := h₂.push (kxs_mw "ValueError.__init__" a), toks := s.toks + 2 + 1 } := I3.pins_of fun p hp => by
          rw [List.mem_singleton] at hp
          subst hp
          exact ⟨hu, I2.hok.fresh (Nat.le_refl _), fun z => absurd I2.lt (by rw [← z]; exact Nat.lt_irrefl _), I2.nofs (Nat.le_refl _), fun v e => by cases e⟩
        refine kxs_callWith (i := "ValueError.__init__") (x := a) rfl ?_
        have hpa : PA (ncx CX P w K mg base ["self", "step", "__class__"] F fI A outer s H E) [.BinOp (.Constant (.str m) j p3) .Add (.Call (.Name "str" p4) [.Name "step" p5] [] p6) p7] (tCons (tOp _ (tC (.str m)) (tCB _ (tCons (tVar 1) tNil))) tNil) :=
          pa_cons (pe_op op_add_str pe_str (pe_callTy call_str_int T.sct T.mstr (by first | boot_by_name | rfl | kernel_rfl) (pa_cons (pe_var (i := 1) rfl (.inl (S.par _ (by simp)))) pa_nil))) pa_nil
        refine Calls.evalArgs_plain (thn (hpa.run p8 [(h₂.objs.size, kxs_mw "ValueError.__init__" a)] _ _ H (fun vs H1 => H = H1 ∧ ∃ x, vs = [V.str x]) I4 ?_) fun us s4 hh => ?_)
        · refine ⟨_, rfl, i, rfl, ?_, m, _, rfl, rfl, ?_, rfl, _, rfl⟩
          · have h1 : i.natAbs < 2 ^ 40 := by
              have : i.natAbs ≤ 1000000000000 := by omega
              exact Nat.lt_of_le_of_lt this (by decide)
            by_cases z : i.natAbs = 0
            · rw [z]; decide
            · exact (Nat.log2_lt z).mpr (Nat.lt_of_lt_of_le h1 (Nat.pow_le_pow_right (by decide) (by decide)))
          · have := str_len (i := i) hi
            rw [sizeLine_eq]
            have h2 : (toString i : Str).length ≤ 20 := this
            omega
        · obtain ⟨vs4, H4, I5, r5, rfl, x5, rfl⟩ := hh
          obtain ⟨hp4, g4, d4, t4, os4⟩ := s4
          obtain ⟨t5, ho5⟩ := exo_at I5.hok ea
          have hu5 := (I5.pin _ (List.mem_append_right _ (List.mem_singleton.mpr rfl))).1
          refine ⟨hu5, call_mw (fun X => HandSPX.refsVE_contains X bm hbm) PySem.F.excBase_ValueError (I5.kIn _ _ hC) ho5 hu5 ?_ fun h' t6 k hx => ?_⟩
          · have : us.length = 1 := by rw [← r5.length]; rfl
            show ([] ++ us).length ≤ sizeLine
            rw [List.nil_append, this, sizeLine_eq]; decide
          · have J := I5.write (t' := t4) (x := a) (e := a) (o := exo a C none) (by rw [ea]; exact True.intro) (.inl rfl) k ⟨_, hx⟩ (exo_ok hx)
            have eu : upd H a (exo a C none) = H := by
              funext b
              by_cases hb : b = a
              · rw [hb, upd_same, ea]
              · rw [upd_ne hb]
            rw [eu] at J
            refine wpAt_of_wpAny ?_
            have ps : PSs (ncx CX P w K mg base ["self", "step", "__class__"] F fI A outer s H E) [.Assign [.Attribute (.Name "self" q1) "step" q2] (.Name "step" q3) q4] (tOst K "step" (tVar 0) (tVar 1)) :=
              pss_one (ps_ost (pe_var (i := 0) rfl (.inl (S.par _ (by simp)))) (pe_var (i := 1) rfl (.inl (S.par _ (by simp)))))
            refine wpAny_mono (ps.run _ _ _ H { nx := fun _ H' => Q .non H', rt := Q } J ⟨.int i, rfl, .ref a, rfl, a, C, rfl, T.oex, T.noF, .inl ⟨ea, hq⟩⟩) (fun fl s' hs => ?_) fun e s' hs => hs
            cases fl with
            | ret u =>
              obtain ⟨v, σ', H', J, rv, q⟩ := hs
              exact fin J rv q
            | next =>
              obtain ⟨σ', H', J, q⟩ := hs
              exact fin (v := V.non) (u := Value.none) J rfl q
            | brk =>
              obtain ⟨_, _, _, q⟩ := hs
              exact False.elim q
            | cont =>
              obtain ⟨_, _, _, q⟩ := hs
              exact False.elim q
      · show (F.scope.kind == .module && _) = false
        rw [S.kind]; rfl
      · rfl
end
end PV
set_option maxRecDepth 100000
/-! The evaluator: deep values, code by slots, outcomes. -/
namespace PV
open PySem

/-- deep values -/
inductive D where
  | non | bl (b : Bool) | int (i : Int) | str (x : Str) | tup (xs : List D) | lst (xs : List D) | rol (xs : List D) | loc (n : Nat)
instance : Inhabited D := ⟨.non⟩
/-- an object of the store -/
inductive SO where
  | lst (xs : List D) | obj (x : Str) (fs : List (Str × D))
abbrev Sto := List SO
/-- a slot: a value, or a list of the frame's own -/
inductive SV where
  | val (d : D) | own (xs : List D)
abbrev Env := List (Option SV)
inductive Out (α : Type) where
  | ok (a : α) (s : Sto) | err
def Out.bind {α β : Type} (o : Out α) (f : α → Sto → Out β) : Out β := match o with
  | .ok a s => f a s
  | .err => .err
def lift {α : Type} (o : Option α) (s : Sto) : Out α := match o with
  | some a => .ok a s
  | none => .err
abbrev LINE : Nat := 16777216

/-! ### operations on values -/
mutual
def toPy : D → PyData
  | .non => .none
  | .bl b => .bool b
  | .int i => .int i
  | .str x => .str x
  | .tup xs => .tuple (toPys xs)
  | .lst xs => .list (toPys xs)
  | .rol _ => .none
  | .loc _ => .none
def toPys : List D → List PyData
  | [] => []
  | d :: ds => toPy d :: toPys ds
end
mutual
/-- no object of the store within -/
def pure? : D → Bool
  | .tup xs => pures? xs
  | .lst xs => pures? xs
  | .rol _ => false
  | .loc _ => false
  | _ => true
def pures? : List D → Bool
  | [] => true
  | d :: ds => pure? d && pures? ds
end
mutual
/-- no list within -/
def nolst? : D → Bool
  | .tup xs => nolsts? xs
  | .lst _ => false
  | .rol _ => false
  | _ => true
def nolsts? : List D → Bool
  | [] => true
  | d :: ds => nolst? d && nolsts? ds
end
def nolstS? : Sto → Bool
  | [] => true
  | .lst xs :: r => nolsts? xs && nolstS? r
  | .obj _ fs :: r => nolsts? (fs.map (·.2)) && nolstS? r
def shp (d : D) : Bool := pure? d && SeqAt.shaped (toPy d)
def eqD (a b : D) : Option Bool := if shp a = true ∧ shp b = true then some (PyData.eqv (toPy a) (toPy b)) else none
def addD : D → D → Option D
  | .int i, .int j => some (.int (i + j))
  | .str x, .str y => if x.length + y.length ≤ LINE then some (.str (x ++ y)) else none
  | .tup xs, .tup ys => if xs.length + ys.length ≤ LINE then some (.tup (xs ++ ys)) else none
  | .lst xs, .lst ys => if xs.length + ys.length ≤ LINE then some (.lst (xs ++ ys)) else none
  | _, _ => none
def subD : D → D → Option D
  | .int i, .int j => some (.int (i - j))
  | _, _ => none
def mulD : D → D → Option D
  | .tup xs, .int k => if k = 1 then some (.tup xs) else if 2 ≤ k ∧ k ≤ 1000 ∧ xs.length ≤ 1000 ∧ xs.isEmpty = false then some (.tup (List.replicate k.toNat xs).flatten) else none
  | .int i, .int j => if (-18446744073709551616 < i ∧ i < 18446744073709551616) ∨ (-18446744073709551616 < j ∧ j < 18446744073709551616) then some (.int (i * j)) else none
  | _, _ => none
def modD : D → D → Option D
  | .int i, .int j => if 0 < j then some (.int (i % j)) else none
  | _, _ => none
def divD : D → D → Option D
  | .int i, .int j => if 0 < j ∧ j < 1073741824 then some (.int (i / j)) else none
  | _, _ => none
inductive BOp where
  | add | sub | mul | mod | div
  deriving DecidableEq
def binD : BOp → D → D → Option D
  | .add => addD
  | .sub => subD
  | .mul => mulD
  | .mod => modD
  | .div => divD
def BOp.py : BOp → Operator
  | .add => .Add
  | .sub => .Sub
  | .mul => .Mult
  | .mod => .Mod
  | .div => .FloorDiv
inductive COp where
  | eq | ne | lt | le | gt | ge | is | isn | inn | nin
  deriving DecidableEq
def COp.py : COp → CmpOp
  | .eq => .Eq
  | .ne => .NotEq
  | .lt => .Lt
  | .le => .LtE
  | .gt => .Gt
  | .ge => .GtE
  | .is => .Is
  | .isn => .IsNot
  | .inn => .In
  | .nin => .NotIn
def isNonD : D → Bool
  | .non => true
  | _ => false
def isD : D → D → Option Bool
  | x, .non => some (isNonD x)
  | .bl a, .bl b => some (decide (a = b))
  | _, _ => none
def icmp (g : Int → Int → Bool) : D → D → Option Bool
  | .int i, .int j => some (g i j)
  | _, _ => none
def ltD : D → D → Option Bool
  | .int i, .int j => some (decide (i < j))
  | .str i, .str j => some (decide (i.cps.toList < j.cps.toList))
  | _, _ => none
/-- x in y: a sign or a text in a text; data in a list, a tuple -/
def inD (x : D) : D → Option Bool
  | .str z => match x with
    | .str y => some (!(Builtin.Str.occurrences z y 0 z.length 1).isEmpty)
    | _ => none
  | .lst ds => if shp x = true ∧ shp (.lst ds) = true then some ((toPys ds).any fun z => PyData.eqv z (toPy x)) else none
  | .tup ds => if shp x = true ∧ shp (.tup ds) = true then some ((toPys ds).any fun z => PyData.eqv z (toPy x)) else none
  | _ => none
def cmpD : COp → D → D → Option Bool
  | .eq => eqD
  | .ne => fun a b => (eqD a b).map (!·)
  | .lt => ltD
  | .le => icmp fun i j => decide (i ≤ j)
  | .gt => icmp fun i j => decide (j < i)
  | .ge => icmp fun i j => decide (j ≤ i)
  | .is => isD
  | .isn => fun a b => (isD a b).map (!·)
  | .inn => inD
  | .nin => fun a b => (inD a b).map (!·)
def truthD : D → Option Bool
  | .non => some false
  | .bl b => some b
  | .int i => some (i != 0)
  | .str x => if x.length ≤ LINE then some ((x.length : Int) != 0) else none
  | .tup xs => some (!xs.isEmpty)
  | .lst xs => some (!xs.isEmpty)
  | .rol _ => none
  | .loc _ => none
def idxD : D → D → Option D
  | .lst xs, .int i => L2.atI xs i
  | .tup xs, .int i => L2.atI xs i
  | .str z, .int i => if z.length ≤ LINE then (L2.atI z.cps.toList i).map fun c => .str ⟨#[c]⟩ else none
  | _, _ => none
def cut {α : Type} (xs : List α) (lo hi : Option Int) : List α := (xs.drop (HT.sIx xs.length 0 lo)).take (HT.sIx xs.length xs.length hi - HT.sIx xs.length 0 lo)
def slcD (d : D) (lo hi : Option Int) : Option D := match d with
  | .lst xs => some (.lst (cut xs lo hi))
  | .rol xs => some (.lst (cut xs lo hi))
  | .tup xs => some (.tup (cut xs lo hi))
  | _ => none
def revD : D → Option D
  | .lst xs => some (.lst xs.reverse)
  | _ => none
def lenD : D → Option D
  | .lst xs => some (.int xs.length)
  | .rol xs => some (.int xs.length)
  | .tup xs => some (.int xs.length)
  | .str x => if x.length ≤ LINE then some (.int x.length) else none
  | _ => none
inductive Ty where
  | int | bool | str | tup | lst
  deriving DecidableEq
def Ty.name : Ty → String
  | .int => "int"
  | .bool => "bool"
  | .str => "str"
  | .tup => "tuple"
  | .lst => "list"
def isiD : D → Ty → Option Bool
  | .non, _ => some false
  | .bl _, t => some (t == .bool || t == .int)
  | .int _, t => some (t == .int)
  | .str _, t => some (t == .str)
  | .tup _, t => some (t == .tup)
  | .lst _, t => some (t == .lst)
  | .rol _, _ => none
  | .loc _, _ => none
inductive Blt where
  | len | int | abs | max | min | sum | any | all | tup
  deriving DecidableEq
def Blt.name : Blt → String
  | .len => "len"
  | .int => "int"
  | .abs => "abs"
  | .max => "max"
  | .min => "min"
  | .sum => "sum"
  | .any => "any"
  | .all => "all"
  | .tup => "tuple"
def ints? : List D → Option (List Int)
  | [] => some []
  | .int i :: r => (ints? r).map (i :: ·)
  | _ :: _ => none
def bools? : List D → Option (List Bool)
  | [] => some []
  | .bl i :: r => (bools? r).map (i :: ·)
  | _ :: _ => none
def maxI : List Int → Int
  | [] => 0
  | [x] => x
  | x :: r => max x (maxI r)
def minI : List Int → Int
  | [] => 0
  | [x] => x
  | x :: r => min x (minI r)
def fLen : List D → Option D
  | [d] => lenD d
  | _ => none
def fInt : List D → Option D
  | [.int i] => some (.int i)
  | _ => none
def fAbs : List D → Option D
  | [.int i] => some (.int (if i < 0 then -i else i))
  | _ => none
def fMax : List D → Option D
  | [.int i, .int j] => some (.int (if j > i then j else i))
  | [.lst ds] => match ints? ds with
    | some (x :: r) => some (.int (maxI (x :: r)))
    | _ => none
  | _ => none
def fMin : List D → Option D
  | [.int i, .int j] => some (.int (if j < i then j else i))
  | [.int i, .int j, .int l] => some (.int (if l < (if j < i then j else i) then l else (if j < i then j else i)))
  | [.lst ds] => match ints? ds with
    | some (x :: r) => some (.int (minI (x :: r)))
    | _ => none
  | _ => none
def fSum : List D → Option D
  | [.lst ds] => (ints? ds).map fun l => .int l.sum
  | _ => none
def fAny : List D → Option D
  | [.lst ds] => (bools? ds).map fun l => .bl (l.any id)
  | _ => none
def fAll : List D → Option D
  | [.lst ds] => (bools? ds).map fun l => .bl (l.all id)
  | _ => none
def fTup : List D → Option D
  | [.lst ds] => some (.tup ds)
  | [.tup ds] => some (.tup ds)
  | _ => none
def bltD : Blt → List D → Option D
  | .len => fLen
  | .int => fInt
  | .abs => fAbs
  | .max => fMax
  | .min => fMin
  | .sum => fSum
  | .any => fAny
  | .all => fAll
  | .tup => fTup
def deref (s : Sto) : D → D
  | .loc n => match s[n]? with
    | some (.lst ds) => .lst ds
    | _ => .loc n
  | d => d

/-! ### code -/
mutual
inductive Tg where
  | nm (i : Nat) | tp (ts : Tgs)
inductive Tgs where
  | nil | c (t : Tg) (ts : Tgs)
end
mutual
inductive Ex where
  | var (i : Nat) | int (i : Int) | str (x : Str) | bl (b : Bool) | non | gl (k : Nat)
  | tup (es : Exs) | fz (f : Fx) | alloc (f : Fx)
  | bin (op : BOp) (a b : Ex) | neg (a : Ex) | not (a : Ex)
  | cmp (op : COp) (a b : Ex) | chn (op op' : COp) (a b c : Ex)
  | bop (and : Bool) (es : Exs) | ite (c a b : Ex)
  | idx (a i : Ex) | slc (a : Ex) (lo hi : OEx) | rev (a : Ex)
  | call (f : Nat) (es : Exs) | blt (b : Blt) (es : Exs) | isi (e : Ex) (t : Ty)
  | popL (i : Nat) (e : OEx)
  | fld (e : Ex) (f : Str) | mth (x : Str) (e : Ex) (m : Str) (k : Nat) (es : Exs) | new (x : Str) (k : Nat) (es : Exs)
inductive Exs where
  | nil | c (e : Ex) (es : Exs)
inductive OEx where
  | n | s (e : Ex)
inductive Fx where
  | dsp (es : Exs) | cp1 (elt : Ex) (tg : Tg) (it : Src) (cond : OEx) (vs : List Nat)
  | cp2 (elt : Ex) (tg : Tg) (it : Src) (cond : OEx) (tg1 : Tg) (it1 : Src) (cond1 : OEx) (vs vs1 : List Nat)
  | lof (e : Ex) | lrg (a : Ex)
inductive Src where
  | seq (e : Ex) | rg1 (a : Ex) | rg2 (a b : Ex) | rg3 (a b c : Ex) | enm (e : Ex) | zip (a b : Ex)
end
mutual
inductive Sm where
  | asg (tg : Tg) (e : Ex) | own (i : Nat) (f : Fx) | par (is : List Nat) (ps : Pxs)
  | ite (c : Ex) (a b : Sms) | for (tg : Tg) (it : Src) (b : Sms) | whl (c : Ex) (b : Sms)
  | ret (e : Ex) | retN | pass | brk | cnt | ex (e : Ex)
  | app (i : Nat) (e : Ex) | ext (i : Nat) (e : Ex) | setV (i : Nat) (k e : Ex) | augV (i : Nat) (k : Ex) (op : BOp) (e : Ex)
  | pop (tg : Tg) (i : Nat) (e : OEx) | aug (i : Nat) (op : BOp) (e : Ex) | setF (i : Nat) (x : Str) (fs : List Str) (es : Exs) | never
  | setE (a k e : Ex) | raise (x : Str) (e : Ex) | exM (x : Str) (o : Ex) (m : Str) (k : Nat) (es : Exs) | tryR (x : Str) (f : Nat) (es : Exs)
inductive Sms where
  | nil | c (s : Sm) (ss : Sms)
inductive Pxs where
  | nil | v (e : Ex) (ps : Pxs) | o (f : Fx) (ps : Pxs)
end

/-! ### evaluation -/
def truthS (s : Sto) (d : D) : Out Bool := lift (truthD (deref s d)) s
mutual
def bindT : Tg → D → Env → Option Env
  | .nm i, d, env => some (env.set i (some (.val d)))
  | .tp ts, .tup ds, env => bindTs ts ds env
  | .tp _, _, _ => none
def bindTs : Tgs → List D → Env → Option Env
  | .nil, [], env => some env
  | .c t ts, d :: ds, env => match bindT t d env with
    | some env' => bindTs ts ds env'
    | none => none
  | _, _, _ => none
end
def noOwn (env : Env) : Env := env.map fun
  | some (.own _) => none
  | x => x
def wipeE (env : Env) : List Nat → Env
  | [] => env
  | v :: vs => (wipeE env vs).set v none
/-- the lists that f gives, one behind the other -/
def flatF (f : D → Sto → Out (List D)) : List D → Sto → Out (List D)
  | [], s => .ok [] s
  | d :: ds, s => (f d s).bind fun xs s1 => (flatF f ds s1).bind fun ys s2 => .ok (xs ++ ys) s2
def isOwn (env : Env) : Ex → Bool
  | .var i => match env[i]? with
    | some (some (.own _)) => true
    | _ => false
  | .bop _ _ => true
  | _ => false
def borrows (env : Env) : Exs → Bool
  | .nil => false
  | .c e es => isOwn env e || borrows env es
def rangeL (lo c : Int) (n : Nat) : List D := (List.range n).map fun i => D.int (lo + (i : Nat) * c)
def rng1? : D → Option (List D)
  | .int j => if -4611686018427387904 ≤ j ∧ j < 4611686018427387904 then some (rangeL 0 1 j.toNat) else none
  | _ => none
def rng2? : D → D → Option (List D)
  | .int i, .int j => if -4611686018427387904 ≤ i ∧ i < 4611686018427387904 ∧ -4611686018427387904 ≤ j ∧ j < 4611686018427387904 then some (rangeL i 1 (j - i).toNat) else none
  | _, _ => none
def rng3? : D → D → D → Option (List D)
  | _, _, _ => none
/-- the list of a range -/
def rngL? : D → Option (List D)
  | .int j => if -1000000 ≤ j ∧ j ≤ 1000000 then some (rangeL 0 1 j.toNat) else none
  | _ => none
def items? : D → Option (List D)
  | .lst ds => some ds
  | .tup ds => some ds
  | .str x => some (x.cps.toList.map fun c => .str ⟨#[c]⟩)
  | _ => none
def enum? : D → Option (List D)
  | .lst ds => some ((List.range ds.length).zipWith (fun (i : Nat) d => D.tup [.int i, d]) ds)
  | .tup ds => some ((List.range ds.length).zipWith (fun (i : Nat) d => D.tup [.int i, d]) ds)
  | _ => none
def zip? : D → D → Option (List D)
  | .lst xs, .lst ys => some (xs.zipWith (fun a b => D.tup [a, b]) ys)
  | .tup xs, .tup ys => some (xs.zipWith (fun a b => D.tup [a, b]) ys)
  | _, _ => none
def isL (s : Sto) (n : Nat) : Bool := match s[n]? with
  | some (.lst _) => true
  | _ => false
/-- the list that slot i holds -/
def getL (env : Env) (i : Nat) (s : Sto) : Option (List D) := match env[i]? with
  | some (some (.own ds)) => some ds
  | some (some (.val (.loc n))) => (match s[n]? with
    | some (.lst ds) => some ds
    | _ => none)
  | _ => none
section
variable (cf : Nat → List D → Sto → Out D) (gs : List D)
mutual
def ev (o : Bool) : Ex → Env → Sto → Out D
  | .var i, env, s => match env[i]? with
    | some (some (.val d)) => .ok d s
    | some (some (.own ds)) => if o = true then .ok (.lst ds) s else .err
    | _ => .err
  | .int i, _, s => .ok (.int i) s
  | .str x, _, s => .ok (.str x) s
  | .bl b, _, s => .ok (.bl b) s
  | .non, _, s => .ok .non s
  | .gl k, _, s => lift gs[k]? s
  | .tup es, env, s => (evL false es env s).bind fun ds s => .ok (.tup ds) s
  | .fz f, env, s => (evF f env s).bind fun ds s => .ok (.lst ds) s
  | .alloc f, env, s => (evF f env s).bind fun ds s => .ok (.loc s.length) (s ++ [.lst ds])
  | .bin op a b, env, s => (ev true a env s).bind fun x s => (ev true b env s).bind fun y s => lift (binD op (deref s x) (deref s y)) s
  | .neg a, env, s => (ev true a env s).bind fun x s => match x with
    | .int i => .ok (.int (-i)) s
    | _ => .err
  | .not a, env, s => (ev true a env s).bind fun x s => (truthS s x).bind fun b s => .ok (.bl (!b)) s
  | .cmp op a b, env, s => (ev true a env s).bind fun x s => (ev true b env s).bind fun y s => (lift (cmpD op (deref s x) (deref s y)) s).bind fun b s => .ok (.bl b) s
  | .chn op op' a b c, env, s => (ev true a env s).bind fun x s => (ev true b env s).bind fun y s => (lift (cmpD op (deref s x) (deref s y)) s).bind fun t s =>
    if t = true then (ev true c env s).bind fun z s => (lift (cmpD op' (deref s y) (deref s z)) s).bind fun b s => .ok (.bl b) s else .ok (.bl false) s
  | .bop and es, env, s => evB o and es env s
  | .ite c a b, env, s => (ev true c env s).bind fun x s => (truthS s x).bind fun t s => if t = true then ev false a env s else ev false b env s
  | .idx a i, env, s => (ev true a env s).bind fun x s => (ev true i env s).bind fun y s => lift (idxD (deref s x) y) s
  | .slc a lo hi, env, s => (ev true a env s).bind fun x s => (evO lo env s).bind fun l s => (evO hi env s).bind fun h s => lift (slcD (deref s x) l h) s
  | .rev a, env, s => (ev true a env s).bind fun x s => lift (revD (deref s x)) s
  | .call f es, env, s => (evL true es env s).bind fun ds s => (cf f ds s).bind fun d s =>
    if borrows env es = true then (if nolst? d = true ∧ nolstS? s = true then .ok d s else .err) else .ok d s
  | .blt b es, env, s => (evL true es env s).bind fun ds s => lift (bltD b (ds.map (deref s))) s
  | .isi e t, env, s => (ev true e env s).bind fun x s => (lift (isiD (deref s x) t) s).bind fun b s => .ok (.bl b) s
  | .popL i e, env, s => match env[i]? with
    | some (some (.val (.loc n))) => if isL s n = false then .err else (evO e env s).bind fun k s => match s[n]? with
      | some (.lst ds) => (match k with
        | none => (match ds[ds.length - 1]? with
          | some d => .ok d (s.set n (.lst ds.dropLast))
          | none => .err)
        | some k => if -9223372036854775808 ≤ k ∧ k < 9223372036854775808 then (match L2.ixN ds.length k with
          | some j => (match ds[j]? with
            | some d => .ok d (s.set n (.lst (ds.eraseIdx j)))
            | none => .err)
          | none => .err) else .err)
      | _ => .err
    | _ => .err
  | .fld e f, env, s => (ev true e env s).bind fun x s => match x with
    | .loc n => (match s[n]? with
      | some (.obj _ fs) => lift (fs.lookup f) s
      | _ => .err)
    | _ => .err
  | .mth x e m k es, env, s => (ev true e env s).bind fun o s => match o with
    | .loc n => (match s[n]? with
      | some (.obj x' fs) => if x' = x ∧ (fs.lookup m).isNone = true then (evL false es env s).bind fun ds s => cf k (.loc n :: ds) s else .err
      | _ => .err)
    | _ => .err
  | .new x k es, env, s => (evL false es env s).bind fun ds s => (cf k (.loc s.length :: ds) (s ++ [.obj x []])).bind fun r s' => match r with
    | .non => .ok (.loc s.length) s'
    | _ => .err
def evL (o : Bool) : Exs → Env → Sto → Out (List D)
  | .nil, _, s => .ok [] s
  | .c e es, env, s => (ev o e env s).bind fun d s => (evL o es env s).bind fun ds s => .ok (d :: ds) s
def evB (o and : Bool) : Exs → Env → Sto → Out D
  | .nil, _, _ => .err
  | .c e .nil, env, s => ev o e env s
  | .c e (.c e' es), env, s => (ev o e env s).bind fun x s => (truthS s x).bind fun t s => if t = and then evB o and (.c e' es) env s else .ok x s
def evO : OEx → Env → Sto → Out (Option Int)
  | .n, _, s => .ok none s
  | .s e, env, s => (ev true e env s).bind fun x s => match x with
    | .int i => .ok (some i) s
    | _ => .err
def evC : OEx → Env → Sto → Out Bool
  | .n, _, s => .ok true s
  | .s e, env, s => (ev true e env s).bind fun x s => truthS s x
def evF : Fx → Env → Sto → Out (List D)
  | .dsp es, env, s => evL false es env s
  | .cp1 elt tg it cond vs, env, s => (evI true it env s).bind fun xs s => (flatF (fun d s => match bindT tg d (wipeE (noOwn env) vs) with
    | none => .err
    | some env1 => (evC cond env1 s).bind fun t s => if t = true then (ev false elt env1 s).bind fun y s => .ok [y] s else .ok [] s) xs s).bind fun ys s =>
      if ys.length ≤ LINE then .ok ys s else .err
  | .cp2 elt tg it cond tg1 it1 cond1 vs vs1, env, s => (evI true it env s).bind fun xs s => (flatF (fun d s => match bindT tg d (wipeE (noOwn env) vs) with
    | none => .err
    | some env1 => (evC cond env1 s).bind fun t s => if t = true then (evI false it1 env1 s).bind fun zs s => flatF (fun d s => match bindT tg1 d (wipeE env1 vs1) with
      | none => .err
      | some env2 => (evC cond1 env2 s).bind fun t s => if t = true then (ev false elt env2 s).bind fun y s => .ok [y] s else .ok [] s) zs s else .ok [] s) xs s).bind fun ys s =>
      if ys.length ≤ LINE then .ok ys s else .err
  | .lof e, env, s => (ev true e env s).bind fun x s => match deref s x with
    | .lst ds => .ok ds s
    | .tup ds => .ok ds s
    | _ => .err
  | .lrg a, env, s => (ev true a env s).bind fun x s => lift (rngL? x) s
def evI (o : Bool) : Src → Env → Sto → Out (List D)
  | .seq e, env, s => (ev o e env s).bind fun x s => lift (items? x) s
  | .rg1 a, env, s => (ev true a env s).bind fun x s => lift (rng1? x) s
  | .rg2 a b, env, s => (ev true a env s).bind fun x s => (ev true b env s).bind fun y s => lift (rng2? x y) s
  | .rg3 a b c, env, s => (ev true a env s).bind fun x s => (ev true b env s).bind fun y s => (ev true c env s).bind fun z s => lift (rng3? x y z) s
  | .enm e, env, s => (ev o e env s).bind fun x s => lift (enum? x) s
  | .zip a b, env, s => (ev o a env s).bind fun x s => (ev o b env s).bind fun y s => lift (zip? x y) s
end

/-! ### statements -/
inductive Flow where
  | nx (env : Env) | ret (d : D) | bk (env : Env) | ct (env : Env) | rs (x : Str) (d : D)
def frz : Option SV → Option SV
  | some (.own ds) => some (.val (.lst ds))
  | x => x
def frzAt (env : Env) (i : Nat) : Env := match env[i]? with
  | some (some (.own ds)) => env.set i (some (.val (.lst ds)))
  | _ => env
def frzE (env : Env) : Ex → Env
  | .var i => frzAt env i
  | _ => env
def frzI (env : Env) : Src → Env
  | .seq e => frzE env e
  | .enm e => frzE env e
  | .zip a b => frzE (frzE env a) b
  | _ => env
def frzRs : Env → Exs → Env
  | env, .nil => env
  | env, .c (.var i) es => frzRs (frzAt env i) es
  | env, .c _ es => frzRs env es
def frzR (env : Env) : Ex → Env
  | .var i => frzAt env i
  | .tup es => frzRs env es
  | _ => env
def forF (f : D → Env → Sto → Out Flow) : List D → Env → Sto → Out Flow
  | [], env, s => .ok (.nx env) s
  | d :: ds, env, s => (f d env s).bind fun fl s => match fl with
    | .nx env' => forF f ds env' s
    | .ct env' => forF f ds env' s
    | .bk env' => .ok (.nx env') s
    | .ret d => .ok (.ret d) s
    | .rs x d => .ok (.rs x d) s
def whileN (c : Env → Sto → Out Bool) (b : Env → Sto → Out Flow) : Nat → Env → Sto → Out Flow
  | 0, _, _ => .err
  | n + 1, env, s => (c env s).bind fun t s => if t = true then (b env s).bind fun fl s => (match fl with
    | .nx env' => whileN c b n env' s
    | .ct env' => whileN c b n env' s
    | .bk env' => .ok (.nx env') s
    | .ret d => .ok (.ret d) s
    | .rs x d => .ok (.rs x d) s) else .ok (.nx env) s
open Classical in
noncomputable def whileF (c : Env → Sto → Out Bool) (b : Env → Sto → Out Flow) (env : Env) (s : Sto) : Out Flow :=
  if h : ∃ n, whileN c b n env s ≠ .err then whileN c b (Classical.choose h) env s else .err
def setAll (env : Env) : List Nat → List SV → Option Env
  | [], [] => some env
  | i :: is, v :: vs => setAll (env.set i (some v)) is vs
  | _, _ => none
def evP : Pxs → Env → Sto → Out (List SV)
  | .nil, _, s => .ok [] s
  | .v e ps, env, s => (ev cf gs false e env s).bind fun d s => (evP ps env s).bind fun r s => .ok (.val d :: r) s
  | .o f ps, env, s => (evF cf gs f env s).bind fun d s => (evP ps env s).bind fun r s => .ok (.own d :: r) s
/-- a list that slot i holds changes -/
def chg (env : Env) (i : Nat) (s : Sto) (f : List D → Option (List D)) : Out Flow := match env[i]? with
  | some (some (.own ds)) => (match f ds with
    | some ds' => .ok (.nx (env.set i (some (.own ds')))) s
    | none => .err)
  | some (some (.val (.loc n))) => (match s[n]? with
    | some (.lst ds) => (match f ds with
      | some ds' => .ok (.nx env) (s.set n (.lst ds'))
      | none => .err)
    | _ => .err)
  | _ => .err
def putD (f : Str) (y : D) : List (Str × D) → List (Str × D)
  | [] => [(f, y)]
  | (g, z) :: r => if g = f then (g, y) :: r else (g, z) :: putD f y r
def putDs (fs : List (Str × D)) : List (Str × D) → List (Str × D)
  | [] => fs
  | (f, y) :: r => putDs (putD f y fs) r
/-- a def's index, where it is asked for what it raises -/
def RX : Nat := 1000000
def exC (env : Env) : Out D → Out D → Out Flow
  | .ok _ s', _ => .ok (.nx env) s'
  | .err, .ok (.tup [.str x, d]) s' => .ok (.rs x d) s'
  | .err, _ => .err
def tryC (x : Str) : Out D → Out D → Out Flow
  | .ok d s', _ => .ok (.ret d) s'
  | .err, .ok (.tup [.str y, _]) s' => if y = x then .ok (.ret .non) s' else .err
  | .err, _ => .err
def augI : BOp → Int → Int → Option Int
  | .add, a, b => some (a + b)
  | .sub, a, b => some (a - b)
  | _, _, _ => none
mutual
noncomputable def exec : Sm → Env → Sto → Out Flow
  | .asg tg e, env, s => (ev cf gs false e env s).bind fun d s => match bindT tg d env with
    | some env' => .ok (.nx env') s
    | none => .err
  | .own i f, env, s => (evF cf gs f env s).bind fun ds s => .ok (.nx (env.set i (some (.own ds)))) s
  | .par is ps, env, s => (evP cf gs ps env s).bind fun vs s => match setAll env is vs with
    | some env' => .ok (.nx env') s
    | none => .err
  | .ite c a b, env, s => (ev cf gs true c env s).bind fun x s => (truthS s x).bind fun t s => if t = true then execs a env s else execs b env s
  | .for tg it b, env, s => (evI cf gs false it (frzI env it) s).bind fun xs s => forF (fun d env s => match bindT tg d env with
    | some env1 => execs b env1 s
    | none => .err) xs (frzI env it) s
  | .whl c b, env, s => whileF (fun env s => (ev cf gs true c env s).bind fun x s => truthS s x) (fun env s => execs b env s) env s
  | .ret e, env, s => (ev cf gs false e (frzR env e) s).bind fun d s => .ok (.ret d) s
  | .retN, _, s => .ok (.ret .non) s
  | .pass, env, s => .ok (.nx env) s
  | .brk, env, s => .ok (.bk env) s
  | .cnt, env, s => .ok (.ct env) s
  | .ex e, env, s => (ev cf gs false e env s).bind fun _ s => .ok (.nx env) s
  | .app i e, env, s => if (getL env i s).isNone = true then .err else (ev cf gs false e env s).bind fun d s => chg env i s fun ds => if ds.length < LINE then some (ds ++ [d]) else none
  | .ext i e, env, s => if (getL env i s).isNone = true then .err else (ev cf gs true e env s).bind fun d s => (match d with
    | .lst zs => chg env i s fun ds => if ds.length + zs.length ≤ LINE then some (ds ++ zs) else none
    | _ => .err)
  | .setV i k e, env, s => if (getL env i s).isNone = true then .err else (ev cf gs false e env s).bind fun d s => (ev cf gs true k env s).bind fun x s => (match x with
    | .int k => chg env i s fun ds => (L2.ixN ds.length k).map fun j => ds.set j d
    | _ => .err)
  | .augV i k op e, env, s => (ev cf gs true k env s).bind fun x s => (match x with
    | .int k => (match getL env i s with
      | some ds => (match L2.atI ds k with
        | some (.int a) => (ev cf gs true e env s).bind fun y s => (match y with
          | .int b => (match augI op a b with
            | some c => chg env i s fun ds => (L2.ixN ds.length k).map fun j => ds.set j (.int c)
            | none => .err)
          | _ => .err)
        | _ => .err)
      | none => .err)
    | _ => .err)
  | .pop tg i e, env, s => .err
  | .aug i op e, env, s => (match env[i]? with
    | some (some (.val (.int a))) => (ev cf gs true e env s).bind fun y s => (match y with
      | .int b => (match augI op a b with
        | some c => .ok (.nx (env.set i (some (.val (.int c))))) s
        | none => .err)
      | _ => .err)
    | _ => .err)
  | .setF i x fs es, env, s => (evL cf gs false es env s).bind fun ds s => (match env[i]? with
    | some (some (.val (.loc n))) => (match s[n]? with
      | some (.obj x' f0) => if x' = x ∧ fs.length = ds.length ∧ f0.length + fs.length < 1000 then .ok (.nx env) (s.set n (.obj x (putDs f0 (fs.zip ds)))) else .err
      | _ => .err)
    | _ => .err)
  | .never, _, _ => .err
  | .setE a k e, env, s => (ev cf gs false e env s).bind fun d s => (ev cf gs true a env s).bind fun o s => (ev cf gs true k env s).bind fun x s => (match o, x with
    | .loc n, .int i => (match s[n]? with
      | some (.lst ds) => (match L2.ixN ds.length i with
        | some j => .ok (.nx env) (s.set n (.lst (ds.set j d)))
        | none => .err)
      | _ => .err)
    | _, _ => .err)
  | .raise x e, env, s => (ev cf gs false e env s).bind fun d s => (match d with
    | .int i => if 0 ≤ i ∧ i ≤ 1000000000000 then .ok (.rs x (.int i)) s else .err
    | _ => .err)
  | .exM x o m k es, env, s => (ev cf gs true o env s).bind fun o s => (match o with
    | .loc n => (match s[n]? with
      | some (.obj x' fs) => if x' = x ∧ (fs.lookup m).isNone = true then (evL cf gs false es env s).bind fun ds s => exC env (cf k (.loc n :: ds) s) (cf (RX + k) (.loc n :: ds) s) else .err
      | _ => .err)
    | _ => .err)
  | .tryR x f es, env, s => if borrows env es = true then .err else (evL cf gs true es env s).bind fun ds s => tryC x (cf f ds s) (cf (RX + f) ds s)
noncomputable def execs : Sms → Env → Sto → Out Flow
  | .nil, env, s => .ok (.nx env) s
  | .c st r, env, s => (exec st env s).bind fun fl s => match fl with
    | .nx env' => execs r env' s
    | .ret d => .ok (.ret d) s
    | .bk env' => .ok (.bk env') s
    | .ct env' => .ok (.ct env') s
    | .rs x d => .ok (.rs x d) s
end
end
/-- a def: the slots, the parameters, the body -/
structure Fn where
  N : List Str
  ps : List Str
  body : Sms
def startE (n : Nat) (ds : List D) : Env := ds.map (fun d => some (.val d)) ++ List.replicate (n - ds.length) none
def retOf : Out Flow → Out D
  | .ok (.ret d) s => .ok d s
  | .ok (.nx _) s => .ok .non s
  | _ => .err
def excOf : Out Flow → Out D
  | .ok (.rs x d) s => .ok (.tup [.str x, d]) s
  | _ => .err
/-- the program's defs, by levels of calls -/
noncomputable def callF (fs : List Fn) (gs : List D) : Nat → Nat → List D → Sto → Out D
  | 0, _, _, _ => .err
  | n + 1, i, ds, s => match fs[i]? with
    | some f => if ds.length = f.ps.length then retOf (execs (callF fs gs n) gs f.body (startE f.N.length ds) s) else .err
    | none => if i < RX then .err else match fs[i - RX]? with
      | some f => if ds.length = f.ps.length then excOf (execs (callF fs gs n) gs f.body (startE f.N.length ds) s) else .err
      | none => .err
end PV
set_option maxRecDepth 100000
/-! How deep values lie in the abstract heap. -/
namespace PV
open PySem PySem.Spec PyProof.Rows L2

/-- a tuple, a list of the written part -/
def KT (K : PySem.W.Frag) (a : Addr) (xs : List V) : Prop :=
  ∃ (o : Obj) (its : Array Value) (n : Nat), K.lookup a = some o ∧ o.cls = .type "tuple" ∧ o.data = .seq its n ∧ its.size ≤ sizeLine ∧ Vals xs its.toList
def KL (K : PySem.W.Frag) (a : Addr) (xs : List V) : Prop :=
  ∃ (o : Obj) (its : Array Value) (n : Nat), K.lookup a = some o ∧ o.cls = .type "list" ∧ o.dict = none ∧ o.data = .seq its n ∧ its.size ≤ sizeLine ∧ Vals xs its.toList
def Tp (K : PySem.W.Frag) (S : Addr → Prop) (H : Hp) (a : Addr) (xs : List V) : Prop := (S a ∧ H a = some (.tup xs)) ∨ KT K a xs
def Rl (K : PySem.W.Frag) (S : Addr → Prop) (H : Hp) (a : Addr) (xs : List V) : Prop := (S a ∧ Rd H a (.lst xs)) ∨ KL K a xs
mutual
inductive Rep (K : PySem.W.Frag) (S : Addr → Prop) (φ : List Addr) (H : Hp) : V → D → Prop
  | non : Rep K S φ H .non .non
  | bl (b : Bool) : Rep K S φ H (.bl b) (.bl b)
  | int (i : Int) : Rep K S φ H (.int i) (.int i)
  | str (x : Str) : Rep K S φ H (.str x) (.str x)
  | tup {a : Addr} {xs : List V} {ds : List D} : Tp K S H a xs → RepL K S φ H xs ds → Rep K S φ H (.ref a) (.tup ds)
  | lst {a : Addr} {xs : List V} {ds : List D} : S a → H a = some (.lst xs) → RepL K S φ H xs ds → Rep K S φ H (.ref a) (.lst ds)
  | rol {a : Addr} {xs : List V} {ds : List D} : Rl K S H a xs → RepL K S φ H xs ds → Rep K S φ H (.ref a) (.rol ds)
  | loc {a : Addr} {n : Nat} : φ[n]? = some a → Rep K S φ H (.ref a) (.loc n)
inductive RepL (K : PySem.W.Frag) (S : Addr → Prop) (φ : List Addr) (H : Hp) : List V → List D → Prop
  | nil : RepL K S φ H [] []
  | cons {v : V} {vs : List V} {d : D} {ds : List D} : Rep K S φ H v d → RepL K S φ H vs ds → RepL K S φ H (v :: vs) (d :: ds)
end
section
variable {K : PySem.W.Frag} {S S' S2 : Addr → Prop} {φ φ' φ2 : List Addr} {H H' H2 : Hp} {v : V} {d : D} {vs ws : List V} {ds es : List D}
theorem Tp.sq {a : Addr} (h : Tp K S H a vs) : SqT K H a vs := by
  rcases h with ⟨_, h⟩ | h
  · exact .inl (.inl h)
  · exact .inr h
theorem Rl.sq {a : Addr} (h : Rl K S H a vs) : SqL K H a vs := by
  rcases h with ⟨_, h⟩ | h
  · exact .inl h
  · exact .inr h
theorem RepL.length (h : RepL K S φ H vs ds) : vs.length = ds.length := by
  induction vs generalizing ds with
  | nil => cases h; rfl
  | cons v vs ih => cases h with
    | cons _ h2 => simp [ih h2]
theorem RepL.get {i : Nat} (h : RepL K S φ H vs ds) {d : D} (e : ds[i]? = some d) : ∃ v, vs[i]? = some v ∧ Rep K S φ H v d := by
  induction vs generalizing ds i with
  | nil => cases h; simp at e
  | cons v vs ih => cases h with
    | cons h1 h2 =>
      cases i with
      | zero => simp at e; subst e; exact ⟨v, rfl, h1⟩
      | succ i => simp at e; obtain ⟨v', e', r⟩ := ih h2 e; exact ⟨v', by simpa using e', r⟩
theorem RepL.append (h : RepL K S φ H vs ds) (h' : RepL K S φ H ws es) : RepL K S φ H (vs ++ ws) (ds ++ es) := by
  induction vs generalizing ds with
  | nil => cases h; exact h'
  | cons v vs ih => cases h with
    | cons h1 h2 => exact .cons h1 (ih h2)
theorem RepL.take (n : Nat) (h : RepL K S φ H vs ds) : RepL K S φ H (vs.take n) (ds.take n) := by
  induction vs generalizing ds n with
  | nil => cases h; simp; exact .nil
  | cons v vs ih => cases h with
    | cons h1 h2 =>
      cases n with
      | zero => exact .nil
      | succ n => exact .cons h1 (ih n h2)
theorem RepL.drop (n : Nat) (h : RepL K S φ H vs ds) : RepL K S φ H (vs.drop n) (ds.drop n) := by
  induction vs generalizing ds n with
  | nil => cases h; simp; exact .nil
  | cons v vs ih => cases h with
    | cons h1 h2 =>
      cases n with
      | zero => exact .cons h1 h2
      | succ n => exact ih n h2
theorem RepL.reverse (h : RepL K S φ H vs ds) : RepL K S φ H vs.reverse ds.reverse := by
  induction vs generalizing ds with
  | nil => cases h; exact .nil
  | cons v vs ih => cases h with
    | cons h1 h2 => simp only [List.reverse_cons]; exact (ih h2).append (.cons h1 .nil)
theorem RepL.dropLast (h : RepL K S φ H vs ds) : RepL K S φ H vs.dropLast ds.dropLast := by
  rw [List.dropLast_eq_take, List.dropLast_eq_take, h.length]; exact h.take _
theorem RepL.eraseIdx (n : Nat) (h : RepL K S φ H vs ds) : RepL K S φ H (vs.eraseIdx n) (ds.eraseIdx n) := by
  rw [List.eraseIdx_eq_take_drop_succ, List.eraseIdx_eq_take_drop_succ]; exact (h.take n).append (h.drop (n + 1))
theorem RepL.set (n : Nat) (h : RepL K S φ H vs ds) (r : Rep K S φ H v d) : RepL K S φ H (vs.set n v) (ds.set n d) := by
  induction vs generalizing ds n with
  | nil => cases h; exact .nil
  | cons v vs ih => cases h with
    | cons h1 h2 =>
      cases n with
      | zero => exact .cons r h2
      | succ n => exact .cons h1 (ih n h2)

/-- from one state to a later one: what stood stands, but the store's objects; what is stable now was so, or is new -/
structure Stp (S : Addr → Prop) (φ : List Addr) (H : Hp) (S' : Addr → Prop) (φ' : List Addr) (H' : Hp) : Prop where
  keep : ∀ a o, H a = some o → a ∉ φ → H' a = some o
  some : ∀ a, H a ≠ none → H' a ≠ none
  sub : ∀ a, S a → S' a
  new : ∀ a, S' a → S a ∨ H a = none
  phi : ∃ ψ, φ' = φ ++ ψ ∧ ∀ a ∈ ψ, H a = none
theorem Stp.refl : Stp S φ H S φ H := ⟨fun _ _ h _ => h, fun _ h => h, fun _ h => h, fun _ h => .inl h, [], by simp⟩
theorem Stp.free (x : Stp S φ H S' φ' H') {a : Addr} (h : H' a = none) : H a = none := by
  cases e : H a with
  | none => rfl
  | some o => exact absurd h (x.some a (by rw [e]; simp))
theorem Stp.trans (x : Stp S φ H S' φ' H') (y : Stp S' φ' H' S2 φ2 H2) : Stp S φ H S2 φ2 H2 := by
  obtain ⟨ψ, e, hf⟩ := x.phi
  obtain ⟨ψ2, e2, hf2⟩ := y.phi
  subst e
  refine ⟨fun a o h ha => ?_, fun a h => y.some a (x.some a h), fun a h => y.sub a (x.sub a h), fun a h => ?_, ψ ++ ψ2, by rw [e2, List.append_assoc], fun a ha => ?_⟩
  · refine y.keep a o (x.keep a o h ha) fun hm => ?_
    rcases List.mem_append.mp hm with q | q
    · exact ha q
    · have := hf a q; rw [h] at this; cases this
  · rcases y.new a h with q | q
    · exact x.new a q
    · exact .inr (x.free q)
  · rcases List.mem_append.mp ha with q | q
    · exact hf a q
    · exact x.free (hf2 a q)
/-- an object of the store: a list, an instance -/
def ORep (K : PySem.W.Frag) (S : Addr → Prop) (φ : List Addr) (H : Hp) (a : Addr) : SO → Prop
  | .lst ds => ∃ vs, H a = some (.lst vs) ∧ RepL K S φ H vs ds
  | .obj x fs => ∃ dx us, H a = some (.ins (He.ga K x) dx us) ∧ us.map (·.1) = fs.map (·.1) ∧ RepL K S φ H (us.map (·.2)) (fs.map (·.2)) ∧ Cls K (He.ga K x) ∧ ∀ q ∈ fs, NoAttr K (He.ga K x) q.1
theorem ORep.some {a : Addr} {o : SO} (h : ORep K S φ H a o) : H a ≠ none := by
  cases o with
  | lst ds => obtain ⟨vs, e, _⟩ := h; rw [e]; simp
  | obj x fs => obtain ⟨dx, us, e, _⟩ := h; rw [e]; simp
/-- a state -/
structure SI (K : PySem.W.Frag) (S : Addr → Prop) (φ : List Addr) (H : Hp) (st : Sto) : Prop where
  dom : ∀ a, S a → H a ≠ none
  dis : ∀ a ∈ φ, ¬ S a
  len : φ.length = st.length
  nd : φ.Nodup
  obj : ∀ (n : Nat) a o, φ[n]? = some a → st[n]? = some o → ORep K S φ H a o
mutual
theorem Rep.tr (hS : ∀ a, S a → H' a = H a) (sub : ∀ a, S a → S' a) (hφ : ∃ ψ, φ' = φ ++ ψ) : ∀ {v : V} {d : D}, Rep K S φ H v d → Rep K S' φ' H' v d
  | _, _, .non => .non
  | _, _, .bl b => .bl b
  | _, _, .int i => .int i
  | _, _, .str z => .str z
  | _, _, .tup h r => .tup (by
      rcases h with ⟨hs, h⟩ | h
      · exact .inl ⟨sub _ hs, (hS _ hs).trans h⟩
      · exact .inr h) (RepL.tr hS sub hφ r)
  | _, _, .lst hs h r => .lst (sub _ hs) ((hS _ hs).trans h) (RepL.tr hS sub hφ r)
  | _, _, .rol h r => .rol (by
      rcases h with ⟨hs, h | ⟨o, h⟩⟩ | h
      · exact .inl ⟨sub _ hs, .inl ((hS _ hs).trans h)⟩
      · exact .inl ⟨sub _ hs, .inr ⟨o, (hS _ hs).trans h⟩⟩
      · exact .inr h) (RepL.tr hS sub hφ r)
  | _, _, .loc h => .loc (by
      obtain ⟨ψ, e⟩ := hφ
      rw [e, List.getElem?_append_left (List.getElem?_eq_some_iff.mp h).1]; exact h)
theorem RepL.tr (hS : ∀ a, S a → H' a = H a) (sub : ∀ a, S a → S' a) (hφ : ∃ ψ, φ' = φ ++ ψ) : ∀ {vs : List V} {ds : List D}, RepL K S φ H vs ds → RepL K S' φ' H' vs ds
  | _, _, .nil => .nil
  | _, _, .cons h1 h2 => .cons (Rep.tr hS sub hφ h1) (RepL.tr hS sub hφ h2)
end
theorem ORep.tr (hS : ∀ a, S a → H' a = H a) (sub : ∀ a, S a → S' a) (hφ : ∃ ψ, φ' = φ ++ ψ) {a : Addr} {o : SO} (e : H' a = H a) (h : ORep K S φ H a o) : ORep K S' φ' H' a o := by
  cases o with
  | lst ds => obtain ⟨vs, e1, r⟩ := h; exact ⟨vs, e.trans e1, r.tr hS sub hφ⟩
  | obj x fs => obtain ⟨dx, us, e1, e2, r, c⟩ := h; exact ⟨dx, us, e.trans e1, e2, r.tr hS sub hφ, c⟩
theorem Stp.same (x : Stp S φ H S' φ' H') (dom : ∀ a, S a → H a ≠ none) (dj : ∀ a ∈ φ, ¬ S a) : ∀ a, S a → H' a = H a := fun a h => by
  cases e : H a with
  | none => exact absurd e (dom a h)
  | some o => exact x.keep a o e fun q => dj a q h
theorem Rep.mono (x : Stp S φ H S' φ' H') {st : Sto} (I : SI K S φ H st) (r : Rep K S φ H v d) : Rep K S' φ' H' v d :=
  r.tr (x.same I.dom I.dis) x.sub (let ⟨ψ, e, _⟩ := x.phi; ⟨ψ, e⟩)
theorem ORep.mono (x : Stp S φ H S' φ' H') {st : Sto} (I : SI K S φ H st) {a : Addr} {o : SO} (e : H' a = H a) (h : ORep K S φ H a o) : ORep K S' φ' H' a o :=
  h.tr (x.same I.dom I.dis) x.sub (let ⟨ψ, e, _⟩ := x.phi; ⟨ψ, e⟩) e
theorem RepL.mono (x : Stp S φ H S' φ' H') {st : Sto} (I : SI K S φ H st) (r : RepL K S φ H vs ds) : RepL K S' φ' H' vs ds :=
  r.tr (x.same I.dom I.dis) x.sub (let ⟨ψ, e, _⟩ := x.phi; ⟨ψ, e⟩)
mutual
/-- what stands in the written part alone stands everywhere -/
theorem Rep.ofK : ∀ {v : V} {d : D}, Rep K (fun _ => False) [] (fun _ => none) v d → Rep K S φ H v d
  | _, _, .non => .non
  | _, _, .bl b => .bl b
  | _, _, .int i => .int i
  | _, _, .str z => .str z
  | _, _, .tup h r => .tup (by
      rcases h with ⟨hs, _⟩ | h
      · exact hs.elim
      · exact .inr h) (RepL.ofK r)
  | _, _, .lst hs _ _ => hs.elim
  | _, _, .rol h r => .rol (by
      rcases h with ⟨hs, _⟩ | h
      · exact hs.elim
      · exact .inr h) (RepL.ofK r)
  | _, _, .loc h => by simp at h
theorem RepL.ofK : ∀ {vs : List V} {ds : List D}, RepL K (fun _ => False) [] (fun _ => none) vs ds → RepL K S φ H vs ds
  | _, _, .nil => .nil
  | _, _, .cons h1 h2 => .cons (Rep.ofK h1) (RepL.ofK h2)
end
/-- a value, or (where o) a tracked list that need not be stable -/
def RepM (o : Bool) (K : PySem.W.Frag) (S : Addr → Prop) (φ : List Addr) (H : Hp) (v : V) (d : D) : Prop :=
  Rep K S φ H v d ∨ (o = true ∧ ∃ a vs ds, v = .ref a ∧ d = .lst ds ∧ a ∉ φ ∧ H a = some (.lst vs) ∧ RepL K S φ H vs ds)
theorem RepM.of (h : Rep K S φ H v d) {o : Bool} : RepM o K S φ H v d := .inl h
theorem RepM.val (h : RepM false K S φ H v d) : Rep K S φ H v d := by
  rcases h with h | ⟨e, _⟩
  · exact h
  · cases e
theorem RepM.up {o : Bool} (h : RepM o K S φ H v d) : RepM true K S φ H v d := by
  rcases h with h | ⟨_, h⟩
  · exact .inl h
  · exact .inr ⟨rfl, h⟩
theorem RepM.mono {o : Bool} (x : Stp S φ H S' φ' H') {st : Sto} (I : SI K S φ H st) (h : RepM o K S φ H v d) : RepM o K S' φ' H' v d := by
  rcases h with h | ⟨e, a, vs, ds, e1, e2, ha, hh, r⟩
  · exact .inl (h.mono x I)
  · refine .inr ⟨e, a, vs, ds, e1, e2, fun q => ?_, x.keep a _ hh ha, r.mono x I⟩
    obtain ⟨ψ, eψ, hf⟩ := x.phi
    rw [eψ] at q
    rcases List.mem_append.mp q with q | q
    · exact ha q
    · have := hf a q; rw [hh] at this; cases this
/-- a value to be read: its lists need not be stable at the outermost -/
def RepD (K : PySem.W.Frag) (S : Addr → Prop) (φ : List Addr) (H : Hp) (v : V) (d : D) : Prop :=
  Rep K S φ H v d ∨ ∃ a vs ds, v = .ref a ∧ d = .lst ds ∧ H a = some (.lst vs) ∧ RepL K S φ H vs ds
theorem RepM.rd {o : Bool} {st : Sto} (I : SI K S φ H st) (h : RepM o K S φ H v d) : RepD K S φ H v (deref st d) := by
  rcases h with h | ⟨_, a, vs, ds, e1, e2, ha, hh, r⟩
  · cases h with
    | non => exact .inl .non
    | bl b => exact .inl (.bl b)
    | int i => exact .inl (.int i)
    | str z => exact .inl (.str z)
    | tup h r => exact .inl (.tup h r)
    | lst hs h r => exact .inl (.lst hs h r)
    | rol h r => exact .inl (.rol h r)
    | @loc a n h =>
      cases e : st[n]? with
      | none =>
        have q : deref st (.loc n) = .loc n := by simp only [deref, e]
        rw [q]; exact .inl (.loc h)
      | some o =>
        cases o with
        | lst ds =>
          have q : deref st (.loc n) = .lst ds := by simp only [deref, e]
          obtain ⟨vs, hv, r⟩ := I.obj n a (.lst ds) h e
          exact .inr ⟨a, vs, ds, rfl, q, hv, r⟩
        | obj x fs =>
          have q : deref st (.loc n) = .loc n := by simp only [deref, e]
          rw [q]; exact .inl (.loc h)
  · subst e2
    exact .inr ⟨a, vs, ds, e1, rfl, hh, r⟩
theorem RepM.rd0 {o : Bool} (h : RepM o K S φ H v d) : RepD K S φ H v d := by
  rcases h with h | ⟨_, a, vs, ds, e1, e2, ha, hh, r⟩
  · exact .inl h
  · exact .inr ⟨a, vs, ds, e1, e2, hh, r⟩
theorem RepD.int {i : Int} (h : RepD K S φ H v (.int i)) : v = .int i := by
  rcases h with h | ⟨_, _, _, _, e, _⟩
  · cases h; rfl
  · cases e
theorem RepD.bl {b : Bool} (h : RepD K S φ H v (.bl b)) : v = .bl b := by
  rcases h with h | ⟨_, _, _, _, e, _⟩
  · cases h; rfl
  · cases e
theorem RepD.str {b : Str} (h : RepD K S φ H v (.str b)) : v = .str b := by
  rcases h with h | ⟨_, _, _, _, e, _⟩
  · cases h; rfl
  · cases e
theorem RepD.non (h : RepD K S φ H v .non) : v = .non := by
  rcases h with h | ⟨_, _, _, _, e, _⟩
  · cases h; rfl
  · cases e
theorem RepD.tup (h : RepD K S φ H v (.tup ds)) : ∃ a vs, v = .ref a ∧ SqT K H a vs ∧ RepL K S φ H vs ds ∧ Rep K S φ H v (.tup ds) := by
  rcases h with h | ⟨_, _, _, _, e, _⟩
  · cases h with
    | tup h r => exact ⟨_, _, rfl, h.sq, r, .tup h r⟩
  · cases e
theorem RepD.lst (h : RepD K S φ H v (.lst ds)) : ∃ a vs, v = .ref a ∧ H a = some (.lst vs) ∧ RepL K S φ H vs ds := by
  rcases h with h | ⟨a, vs, _, e1, e, h, r⟩
  · cases h with
    | lst hs h r => exact ⟨_, _, rfl, h, r⟩
  · cases e; exact ⟨a, vs, e1, h, r⟩
theorem RepD.rol (h : RepD K S φ H v (.rol ds)) : ∃ a vs, v = .ref a ∧ SqL K H a vs ∧ RepL K S φ H vs ds := by
  rcases h with h | ⟨a, vs, _, e1, e, h, r⟩
  · cases h with
    | rol h r => exact ⟨_, _, rfl, h.sq, r⟩
  · cases e

/-! ### new objects -/
def add (S : Addr → Prop) (p : Addr) : Addr → Prop := fun a => S a ∨ a = p
section
variable {st : Sto}
theorem SI.fresh (I : SI K S φ H st) {p : Addr} (h : H p = none) : ¬ S p ∧ p ∉ φ := by
  refine ⟨fun q => I.dom p q h, fun q => ?_⟩
  obtain ⟨n, hn, e⟩ := List.getElem_of_mem q
  have hs : n < st.length := by rw [← I.len]; exact hn
  exact (I.obj n p st[n] (by rw [List.getElem?_eq_getElem hn, e]) (List.getElem?_eq_getElem hs)).some h
theorem Stp.alloc {p : Addr} {o : HO} (h : H p = none) : Stp S φ H (add S p) φ (upd H p o) := by
  refine ⟨fun a o' e _ => ?_, fun a e => ?_, fun a e => .inl e, fun a e => ?_, [], by simp⟩
  · rw [upd_ne (ne_of_none e h)]; exact e
  · by_cases q : a = p
    · rw [q, upd_same]; simp
    · rw [upd_ne q]; exact e
  · rcases e with e | e
    · exact .inl e
    · exact .inr (by rw [e]; exact h)
theorem SI.alloc (I : SI K S φ H st) {p : Addr} {o : HO} (h : H p = none) : SI K (add S p) φ (upd H p o) st := by
  have x : Stp S φ H (add S p) φ (upd H p o) := Stp.alloc h
  obtain ⟨_, hp⟩ := I.fresh h
  refine ⟨fun a e => ?_, fun a e q => ?_, I.len, I.nd, fun n a ds e1 e2 => ?_⟩
  · rcases e with e | e
    · exact x.some a (I.dom a e)
    · rw [e, upd_same]; simp
  · rcases q with q | q
    · exact I.dis a e q
    · exact hp (q ▸ e)
  · have o := I.obj n a ds e1 e2
    exact o.mono x I (upd_ne fun q => o.some (by rw [q]; exact h))
/-- .. not stable -/
theorem Stp.alloc0 {p : Addr} {o : HO} (h : H p = none) : Stp S φ H S φ (upd H p o) := by
  refine ⟨fun a o' e _ => ?_, fun a e => ?_, fun a e => e, fun a e => .inl e, [], by simp⟩
  · rw [upd_ne (ne_of_none e h)]; exact e
  · by_cases q : a = p
    · rw [q, upd_same]; simp
    · rw [upd_ne q]; exact e
theorem SI.alloc0 (I : SI K S φ H st) {p : Addr} {o : HO} (h : H p = none) : SI K S φ (upd H p o) st := by
  have x : Stp S φ H S φ (upd H p o) := Stp.alloc0 h
  refine ⟨fun a e => x.some a (I.dom a e), I.dis, I.len, I.nd, fun n a ds e1 e2 => ?_⟩
  have o := I.obj n a ds e1 e2
  exact o.mono x I (upd_ne fun q => o.some (by rw [q]; exact h))
/-- a new tuple, a new list as a value -/
theorem rep_tup {p : Addr} {vs : List V} (I : SI K S φ H st) (h : H p = none) (r : RepL K S φ H vs ds) : Rep K (add S p) φ (upd H p (.tup vs)) (.ref p) (.tup ds) :=
  .tup (.inl ⟨.inr rfl, upd_same⟩) (r.mono (Stp.alloc h) I)
theorem rep_lst {p : Addr} {vs : List V} (I : SI K S φ H st) (h : H p = none) (r : RepL K S φ H vs ds) : Rep K (add S p) φ (upd H p (.lst vs)) (.ref p) (.lst ds) :=
  .lst (.inr rfl) upd_same (r.mono (Stp.alloc h) I)
end

/-! ### the frame -/
structure EI (K : PySem.W.Frag) (S : Addr → Prop) (φ : List Addr) (H : Hp) (σ : L2.St) (env : Env) : Prop where
  len : env.length = σ.length
  val : ∀ (i : Nat) d, env[i]? = some (some (.val d)) → ∃ v, σ[i]? = some (some v) ∧ Rep K S φ H v d
  own : ∀ (i : Nat) ds, env[i]? = some (some (.own ds)) → ∃ a vs, σ[i]? = some (some (.ref a)) ∧ H a = some (.lst vs) ∧ ¬ S a ∧ a ∉ φ ∧ RepL K S φ H vs ds
  inj : ∀ (i j : Nat) ds es a, env[i]? = some (some (.own ds)) → env[j]? = some (some (.own es)) → σ[i]? = some (some (.ref a)) → σ[j]? = some (some (.ref a)) → i = j
theorem EI.mono {σ : L2.St} {env : Env} (E : EI K S φ H σ env) (x : Stp S φ H S' φ' H') {st : Sto} (I : SI K S φ H st) : EI K S' φ' H' σ env := by
  refine ⟨E.len, fun i d e => ?_, fun i ds e => ?_, E.inj⟩
  · obtain ⟨v, h1, h2⟩ := E.val i d e
    exact ⟨v, h1, h2.mono x I⟩
  · obtain ⟨a, vs, h1, h2, h3, h4, h5⟩ := E.own i ds e
    refine ⟨a, vs, h1, x.keep a _ h2 h4, fun q => ?_, fun q => ?_, h5.mono x I⟩
    · rcases x.new a q with q | q
      · exact h3 q
      · rw [h2] at q; cases q
    · obtain ⟨ψ, eψ, hf⟩ := x.phi
      rw [eψ] at q
      rcases List.mem_append.mp q with q | q
      · exact h4 q
      · have := hf a q; rw [h2] at this; cases this
end

/-! ### outcomes -/
def FinE (K : PySem.W.Frag) (o : Bool) (S : Addr → Prop) (φ : List Addr) (H : Hp) (Q : VK) : Out D → Prop
  | .ok d st' => ∀ v H' S' φ', Stp S φ H S' φ' H' → SI K S' φ' H' st' → RepM o K S' φ' H' v d → Q v H'
  | .err => False
def FinL (K : PySem.W.Frag) (o : Bool) (S : Addr → Prop) (φ : List Addr) (H : Hp) (Q : List V → Hp → Prop) : Out (List D) → Prop
  | .ok ds st' => ∀ vs H' S' φ', Stp S φ H S' φ' H' → SI K S' φ' H' st' → Paired (RepM o K S' φ' H') vs ds → Q vs H'
  | .err => False
def FinB {α : Type} (K : PySem.W.Frag) (S : Addr → Prop) (φ : List Addr) (H : Hp) (Q : α → Hp → Prop) : Out α → Prop
  | .ok b st' => ∀ H' S' φ', Stp S φ H S' φ' H' → SI K S' φ' H' st' → Q b H'
  | .err => False
section
variable {K : PySem.W.Frag} {S S' : Addr → Prop} {φ φ' : List Addr} {H H' : Hp}
theorem FinE.mono {o : Bool} {Q Q' : VK} {m : Out D} (h : FinE K o S φ H Q m) (hq : ∀ v H, Q v H → Q' v H) : FinE K o S φ H Q' m := by
  cases m with
  | ok d st => exact fun v H' S' φ' a b c => hq v H' (h v H' S' φ' a b c)
  | err => exact h
theorem FinE.stp {o : Bool} {Q : VK} {m : Out D} (x : Stp S φ H S' φ' H') (h : FinE K o S φ H Q m) : FinE K o S' φ' H' Q m := by
  cases m with
  | ok d st => exact fun v H2 S2 φ2 a b c => h v H2 S2 φ2 (x.trans a) b c
  | err => exact h
theorem FinL.stp {o : Bool} {Q : List V → Hp → Prop} {m : Out (List D)} (x : Stp S φ H S' φ' H') (h : FinL K o S φ H Q m) : FinL K o S' φ' H' Q m := by
  cases m with
  | ok d st => exact fun v H2 S2 φ2 a b c => h v H2 S2 φ2 (x.trans a) b c
  | err => exact h
theorem FinB.stp {α : Type} {Q : α → Hp → Prop} {m : Out α} (x : Stp S φ H S' φ' H') (h : FinB K S φ H Q m) : FinB K S' φ' H' Q m := by
  cases m with
  | ok d st => exact fun H2 S2 φ2 a b => h H2 S2 φ2 (x.trans a) b
  | err => exact h
end
end PV
set_option maxRecDepth 100000
set_option maxHeartbeats 4000000
/-! enumerate of a tuple; what a for walks where a list or a tuple may come. -/
namespace PV
open PySem PySem.Spec PyProof.Rows L2
open PySem.AutoSeq1 (wpAny_loadPart')
theorem meets_enumerate_newT (l : Addr) (items : Array Value) (n : Nat) (dct : Option Addr) (sl : Array (Option Value)) :
    Meets (Builtin.«enumerate.__new__» ⟨[.type "enumerate", .ref l], []⟩) (fun _ R s => s.heap.get? l = some { cls := .type "tuple", dict := dct, data := .seq items n, slots := sl } ∧
      R (.ok (.ret (.ref (s.heap.push { cls := .type "tuple_iterator", data := .fields #[.ref l, .int 0 0] }).objs.size)))
        { s with heap := (s.heap.push { cls := .type "tuple_iterator", data := .fields #[.ref l, .int 0 0] }).push { cls := .type "enumerate", data := .fields #[.none, .bool false, .ref s.heap.objs.size, rawInt 0, .none, .none] } }) :=
  .of_wp fun prog w A R s h => by
    obtain ⟨hp, g, d, tk, os⟩ := s; obtain ⟨hl, h⟩ := h
    have hsub := sub_enumerate
    have hL : Heap.IsTuple (Shared.heap ⟨hp, g, d, tk, os⟩) l items := ⟨_, hl, rfl, n, rfl⟩
    wp_walk using wpAny_loadPart' hl
    refine wpAny_stack_any fun st => wpAny_pure ?_
    split
    · rename_i c _ _ _ _ _
      cases (c == Value.type "enumerate")
      · wp_walk using wpAny_loadPart' hl, wpAny_pyIter_tuple hL
        exact ⟨_, rfl, h⟩
      · wp_walk using wpAny_loadPart' hl, wpAny_pyIter_tuple hL
        exact ⟨_, rfl, h⟩
    · wp_walk using wpAny_loadPart' hl, wpAny_pyIter_tuple hL
      exact ⟨_, rfl, h⟩
section
variable {prog : Program} {w : World} {A : Around} {E : Value → Shared → Prop} {s : Shared}
theorem call_enumerate_tuple {l : Addr} {items : Array Value} {Q : Value → Shared → Prop} (hL : s.heap.IsTuple l items)
    (h : ∀ h', IsEnum h' (s.heap.objs.size + 1) s.heap.objs.size 0 .none → h'.IsTupleIter s.heap.objs.size l 0 → h'.objs.size = s.heap.objs.size + 2 →
      (∀ b o, s.heap.get? b = some o → h'.get? b = some o) → Q (.ref (s.heap.objs.size + 1)) { s with heap := h' }) :
    wpAny (model prog w) A (call (.type "enumerate") [.ref l]) Q E s := by
  obtain ⟨⟨c, dct, dt, sl⟩, hl, hc, n, hd⟩ := hL
  replace hc : c = .type "tuple" := hc
  replace hd : dt = .seq items n := hd
  subst hc hd
  refine callType_new F.called_enumerate (by decide) (F.typeCall_enumerate_1 _) (F.newCall_enumerate_1 _) (fun obj => F.args_object_init_2 obj _) F.entry_enumerate_new
    (meets_enumerate_newT l items n dct sl) ⟨hl, ?_⟩
  have hz : (s.heap.push { cls := .type "tuple_iterator", data := .fields #[.ref l, .int 0 0] }).objs.size = s.heap.objs.size + 1 := Heap.size_push ..
  show _ ∧ _
  rw [hz]
  have he : IsEnum ((s.heap.push { cls := .type "tuple_iterator", data := .fields #[.ref l, .int 0 0] }).push
      { cls := .type "enumerate", data := .fields #[.none, .bool false, .ref s.heap.objs.size, rawInt 0, .none, .none] }) (s.heap.objs.size + 1) s.heap.objs.size 0 .none := by
    have := Heap.get?_push_size (s.heap.push { cls := .type "tuple_iterator", data := .fields #[.ref l, .int 0 0] })
      (o := { cls := .type "enumerate", data := .fields #[.none, .bool false, .ref s.heap.objs.size, rawInt 0, .none, .none] }) rfl
    rw [hz] at this; exact this
  refine ⟨⟨_, he, rfl⟩, h _ he ⟨_, Heap.get?_push_of_some _ (Heap.get?_push_size _ rfl), rfl, rfl⟩ (by rw [Heap.size_push, hz]) fun b o x => Heap.get?_push_of_some _ (Heap.get?_push_of_some _ x)⟩
theorem draws_tuple (hh : A.handled = none) (it l : Addr) (items : Array Value) (hne : it ≠ l) : Draws prog w A.in1 it [it, l] items.size (fun i x => items[i]? = some x) (fun i h => h.IsTupleIter it l i ∧ h.IsTuple l items) where
  live := fun i h st => let ⟨⟨o, e, _⟩, _⟩ := st; ⟨o, e⟩
  frame := fun i h h' st k => ⟨st.1.at fun o e => k it (by simp) o e, let ⟨o, e, r⟩ := st.2; ⟨o, k l (by simp) o e, r⟩⟩
  item := fun i s Q E hi st h => by
    refine RZ.nextOf_tuple_item (x := items[i]) st.1 st.2 (by simp [hi]) fun h' it' sb => ?_
    exact h items[i] h' s.toks (by simp [hi]) ⟨it', let ⟨o, e, r⟩ := st.2; ⟨o, (sb.2 l (Ne.symm hne)).trans e, r⟩⟩ sb
  done := fun s Q E st h => RZ.nextOf_tuple_end hh st.1 st.2 (by simp) h
end
/-- the tuple at a, each item in a new pair -/
def IteT (K : PySem.W.Frag) (a : Addr) : It :=
  ⟨fun i H => ∃ (xs : List V) (x : V), SqT K H a xs ∧ xs[i]? = some x, fun i H v H' => ∃ T x, v = .ref T ∧ H T = none ∧ H' = upd H T (.tup [.int (i : Nat), x]) ∧ ∀ xs, SqT K H a xs → xs[i]? = some x, fun i H => ∃ xs : List V, SqT K H a xs ∧ xs.length = i⟩
theorem turn_enumT {P : Program} {w : World} {K : PySem.W.Frag} {elts : List Expr} {kk : Nat} {tpos : Pos} (a e it : Addr) :
    Turn P w K (.Tuple elts kk tpos) (IteT K a) [e, it] e (fun i h => (∃ old, IsEnum h e it ((i : Nat) : Int) old) ∧ h.IsTupleIter it a i ∧ e ≠ it ∧ e ≠ a ∧ it ≠ a) where
  mem := by simp
  obj := fun i h st b hb => by
    obtain ⟨⟨old, he⟩, ⟨o, ho, hc, hd⟩, _⟩ := st
    have e' : b = e ∨ b = it := by simpa using hb
    rcases e' with z | z
    · rw [z]; exact ⟨_, he, fun v q => nomatch q⟩
    · rw [z]; exact ⟨o, ho, fun v q => by rw [hd] at q; cases q⟩
  keep := fun i h h' st k => let ⟨⟨old, he⟩, hi, hne⟩ := st; ⟨⟨old, k e (by simp) _ he⟩, hi.at fun o q => k it (by simp) o q, hne⟩
  item := by
    intro X hP hw hK hc i pins s σ H E I hf st hg
    subst hP hw hK
    obtain ⟨⟨old, he⟩, hit, hne, hea, hia⟩ := st
    obtain ⟨xs, x, hq, hx⟩ := hg
    obtain ⟨its, rv, p, hz⟩ := I.tuple hq
    obtain ⟨u, hu, ru⟩ := rv.get hx
    have hel : e < s.heap.objs.size := Heap.lt_size he
    have hil : it < s.heap.objs.size := by obtain ⟨_, q, _⟩ := hit; exact Heap.lt_size q
    have hlt : i < its.toArray.size := by
      have := (List.getElem?_eq_some_iff.mp hu).1
      simpa using this
    refine wpAny_pyNext_enum_itemD (draws_tuple (I.ok.hd hc) it a its.toArray hia) he ⟨hit, p⟩ hlt hne (by simp [hne, hea]) fun y h' tk hP ho hs' hT hsz hk => ?_
    have ey : y = u := by
      have q : its.toArray[i]? = some u := by simpa using hu
      rw [q] at hP; exact (Option.some.inj hP).symm
    subst ey
    refine ⟨_, rfl, wpAny_letOwnedTupleGo_enum (s := { s with heap := h', toks := tk + 1 }) ho fun h'' he' sb => ?_⟩
    have hT2 : h''.get? s.heap.objs.size = some { cls := .type "tuple", data := .seq #[.int i tk, y] } := (sb.2 _ (Nat.ne_of_gt hel)).trans hT
    have new : ObjOk X.prog X.w (upd H s.heap.objs.size (.tup [.int (i : Nat), x])) h'' s.heap.objs.size (.tup [.int (i : Nat), x]) :=
      ⟨by show 2 ≤ sizeLine; decide, [.int i tk, y], .cons ⟨_, rfl⟩ (.cons ru .nil), ⟨_, hT2, rfl, _, rfl⟩⟩
    have I1 : Inv X pins σ (upd H s.heap.objs.size (.tup [.int (i : Nat), x])) { s with heap := h'', toks := tk + 1 } :=
      I.turnedNew (ch := [e, it]) (fun b ob hb q => (sb.2 b (fun z => hb (by simp [z]))).trans (hk b ob (fun z => hb (by simp [z])) (fun z => hb (by simp [z])) q)) hf (Nat.le_refl _) new
    refine ⟨.ref s.heap.objs.size, _, I1, rfl, ⟨_, x, rfl, I.hok.fresh (Nat.le_refl _), rfl, fun ys hy => by rw [I.tuple_inj hy hq]; exact hx⟩, ⟨⟨y, ?_⟩, hs'.1.at fun o q => (sb.2 it (Ne.symm hne)).trans q, hne, hea, hia⟩, fun b hb => ?_⟩
    · have e1 : ((i + 1 : Nat) : Int) = (i : Int) + 1 := by omega
      rw [e1]; exact he'
    · have hb' : b < s.heap.objs.size := by
        have e' : b = e ∨ b = it := by simpa using hb
        rcases e' with z | z
        · rw [z]; exact hel
        · rw [z]; exact hil
      rw [upd_ne (Nat.ne_of_lt hb')]
      exact (hf b hb).1
  done := by
    intro X hP hw hK hc i pins s σ H E I hf st hg
    subst hP hw hK
    obtain ⟨⟨old, he⟩, hit, hne, hea, hia⟩ := st
    obtain ⟨xs, hq, hx⟩ := hg
    obtain ⟨its, rv, p, hz⟩ := I.tuple hq
    obtain ⟨f0, f1, f2, f3, f4, f5⟩ := hf it (by simp)
    have hl := rv.length
    have hi : its.toArray.size = i := by simp; omega
    subst hi
    exact wpAny_pyNext_enum_endD (draws_tuple (I.ok.hd hc) it a its.toArray hia) he ⟨hit, p⟩ fun h' eb => ⟨rfl, I.turned (t' := s.toks) (fun b o hb q => eb b o hb q) f0 f1 f3 f4 f5⟩
  self := fun A i s Q E st h => let ⟨⟨_, he⟩, _⟩ := st; wpAny_pyIter_enum he h
section
variable {X : Cx}
def iEnumA (K : PySem.W.Frag) (ta : TA) : TI := fun σ H R => ta σ H fun vs H1 => ∃ a xs, vs = [.ref a] ∧ ((SqL K H1 a xs ∧ R (Ite K a) H1) ∨ (SqT K H1 a xs ∧ R (IteT K a) H1))
theorem pi_enumA {e : Expr} {ta : TA} {p pos tpos : Pos} {elts : List Expr} {kk : Nat} (hg : Gl X "enumerate") (hm : X.mg "enumerate" = none) (ha : PA X [e] ta) (hs : starEach [e] X.env = [(false, eval e X.env)] := by rfl) :
    PI X (.Tuple elts kk tpos) (.Call (.Name "enumerate" p) [e] [] pos) (iEnumA X.K ta) := by
  refine ⟨fun pins s σ H R I h => ?_⟩
  refine Call_ (ld_blt I hg hm boot_enumerate (PyProof.Rows.callWith_type1 (thn (ha.run pos pins s σ H _ I h) fun us s1 ⟨vs, H1, I1, r1, q1⟩ => ?_) hs rfl))
  obtain ⟨a, xs, ex, q⟩ := q1
  subst ex
  cases r1 with
  | cons r rr =>
    cases rr
    cases r
    have fr : ∀ b ∈ [s1.heap.objs.size + 1, s1.heap.objs.size], FpOk X pins H1 b := fun b hb => by
      have e' : b = s1.heap.objs.size + 1 ∨ b = s1.heap.objs.size := by simpa using hb
      have hle : s1.heap.objs.size ≤ b := by
        rcases e' with z | z
        · rw [z]; exact Nat.le_add_right _ _
        · rw [z]; exact Nat.le_refl _
      exact I1.fpOk hle (I1.hok.fresh hle)
    rcases q with ⟨hq, q⟩ | ⟨hq, q⟩
    · obtain ⟨its, rv, p', hz⟩ := I1.list hq
      refine call_enumerate_list p'.isList fun h' he hit hsz hk => wpAny_pyIter_enum he ?_
      have I2 : Inv X pins σ H1 { s1 with heap := h' } := I1.kept (t' := s1.toks) hk
      exact ⟨s1.heap.objs.size + 1, [s1.heap.objs.size + 1, s1.heap.objs.size], _, _, H1, rfl, I2, turn_enum a (s1.heap.objs.size + 1) s1.heap.objs.size, ⟨⟨.none, he⟩, hit, Nat.succ_ne_self _⟩, fr, q⟩
    · obtain ⟨its, rv, p', hz⟩ := I1.tuple hq
      have hal : a < s1.heap.objs.size := p'.lt
      refine call_enumerate_tuple (show s1.heap.IsTuple a its.toArray from p') fun h' he hit hsz hk => wpAny_pyIter_enum he ?_
      have I2 : Inv X pins σ H1 { s1 with heap := h' } := I1.kept (t' := s1.toks) hk
      exact ⟨s1.heap.objs.size + 1, [s1.heap.objs.size + 1, s1.heap.objs.size], _, _, H1, rfl, I2, turn_enumT a (s1.heap.objs.size + 1) s1.heap.objs.size, ⟨⟨.none, he⟩, hit, Nat.succ_ne_self _, Nat.ne_of_gt (Nat.lt_succ_of_lt hal), Nat.ne_of_gt hal⟩, fr, q⟩
/-- a list, a tuple or a text walked -/
def iSeq (K : PySem.W.Frag) (tl : TE) : TI := fun σ H R => tl σ H fun x H1 => (∃ a, x = .ref a ∧ ((∃ xs, SqL K H1 a xs ∧ R (Itl K a) H1) ∨ (∃ xs, SqT K H1 a xs ∧ R (Itt K a) H1))) ∨ ∃ z, x = .str z ∧ R (Its z) H1
theorem pi_seq {tg l : Expr} {tl : TE} (hl : PE X l tl) : PI X tg l (iSeq X.K tl) := by
  refine ⟨fun pins s σ H R I h => ?_⟩
  refine thn (hl.run pins s σ H _ I h) fun v s1 ⟨x, H1, I1, r1, q1⟩ => ?_
  rcases q1 with ⟨a, e, ⟨xs, hq, q⟩ | ⟨xs, hq, q⟩⟩ | ⟨z, e, q⟩
  · subst e
    cases r1
    obtain ⟨its, rv, p, hz⟩ := I1.list hq
    refine wpAny_pyIter_list p.isList ?_
    refine ⟨s1.heap.objs.size, [s1.heap.objs.size], _, _, H1, rfl, I1.kept (t' := s1.toks) fun b o e => Heap.get?_push_of_some _ e, turn_list a _, ⟨_, Heap.get?_push_size _ rfl, rfl, rfl⟩, fun b hb => ?_, q⟩
    have e : b = s1.heap.objs.size := by simpa using hb
    subst e
    exact I1.fpOk (Nat.le_refl _) (I1.hok.fresh (Nat.le_refl _))
  · subst e
    cases r1
    obtain ⟨its, rv, p, hz⟩ := I1.tuple hq
    refine wpAny_pyIter_tuple (show s1.heap.IsTuple a its.toArray from p) ?_
    refine ⟨s1.heap.objs.size, [s1.heap.objs.size], _, _, H1, rfl, I1.kept (t' := s1.toks) fun b o e => Heap.get?_push_of_some _ e, turn_tuple a _, ⟨_, Heap.get?_push_size _ rfl, rfl, rfl⟩, fun b hb => ?_, q⟩
    have e : b = s1.heap.objs.size := by simpa using hb
    subst e
    exact I1.fpOk (Nat.le_refl _) (I1.hok.fresh (Nat.le_refl _))
  · subst e
    have r2 : RelV (.str z) v := r1
    obtain ⟨t, rfl⟩ := r2
    cases ha : z.cps.all (· < 128)
    · exact wpAny_pyIter_wide ha (pi_one (tk := s1.toks) I1 _ (turn_str _ z t "str_iterator" (.inr rfl)) ⟨_, Heap.get?_push_size _ rfl, rfl, rfl⟩ q)
    · exact wpAny_pyIter_ascii ha (pi_one (tk := s1.toks) I1 _ (turn_str _ z t "str_ascii_iterator" (.inl rfl)) ⟨_, Heap.get?_push_size _ rfl, rfl, rfl⟩ q)
end
end PV
set_option maxRecDepth 100000
set_option maxHeartbeats 4000000
/-! tuple * 1; x in a tuple of data; a list's item, by values. -/
namespace PV
open PySem PySem.Spec PyProof.Rows L2
theorem tuple_mul1 (l : Addr) (items : Array Value) (n : Nat) (dd : Option Addr) (sl : Array (Option Value)) (u : Tok) :
    Meets (Builtin.«tuple.__mul__» ⟨[.ref l, .int 1 u], []⟩) (fun _ R s => s.heap.get? l = some { cls := .type "tuple", dict := dd, data := .seq items n, slots := sl } ∧ R (.ok (.ret (Value.ref l))) s) :=
  .of_wp fun prog w A R s h => by
    obtain ⟨hp, g, d, tk, os⟩ := s
    obtain ⟨hl, h⟩ := h
    have f1 := AutoSeq1.idx_int
    have c1 : (items.isEmpty || (1 : Int) == 1) = true := by simp
    wp_walk using wpAny_loadPart' hl
    exact ⟨_, rfl, h⟩
def rRepT1 (K : PySem.W.Frag) : R2 := fun x y H Q => ∃ l xs, x = .ref l ∧ y = .int 1 ∧ SqT K H l xs ∧ Q (.ref l) H
section
variable {X : Cx}
theorem op_repT1 : OpR X (binaryOp .Mult) (rRepT1 X.K) := by
  intro pins s σ H x y v u Q I rx ry h
  obtain ⟨l, xs, rfl, rfl, hT, q⟩ := h
  cases rx
  obtain ⟨t, rfl⟩ := ry
  obtain ⟨its, r, ⟨⟨cls, dd, data, sl⟩, ho, hc, n, hd⟩, hs⟩ := I.tuple hT
  simp only at hc hd
  subst hc hd
  refine wpAny_binaryOp_repeat_ref (T := "tuple") (U := "int") (by decide) ⟨_, ho, rfl⟩ (fun s' => typeIs_int s' 1 t) noFill_tuple_mul F.fills_int_mul F.slot_int_rmul repeat_tuple F.slot_int_index.lookup
    (call_meets F.slot_int_rmul (typeIs_int s 1 t) F.entry_int_rmul (F.args_int_rmul_2 _ _) (int_rmul_tuple 1 t l its.toArray n dd sl)
      ⟨ho, rfl, ⟨_, ho, rfl⟩, call_meets F.slot_tuple_mul ⟨_, ho, rfl⟩ F.entry_tuple_mul (F.args_tuple_mul_2 _ _) (tuple_mul1 l its.toArray n dd sl t) ⟨ho, ?_⟩⟩)
  exact ⟨.ref l, H, I, rfl, q⟩
def rInDT (K : PySem.W.Frag) : R2 := fun x y H Q => ∃ d ds, Dp K H x d ∧ Dp K H y (.tuple ds) ∧ SeqAt.shaped d = true ∧ SeqAt.shaped (.tuple ds) = true ∧ Q (.bl (ds.any fun z => PyData.eqv z d)) H
def rNotInDT (K : PySem.W.Frag) : R2 := fun x y H Q => ∃ d ds, Dp K H x d ∧ Dp K H y (.tuple ds) ∧ SeqAt.shaped d = true ∧ SeqAt.shaped (.tuple ds) = true ∧ Q (.bl (!ds.any fun z => PyData.eqv z d)) H
theorem op_inDT (hu : X.A.units + 65 < cLine) : OpR X (compareOp .In) (rInDT X.K) := by
  intro pins s σ H x y v u Q I rx ry h
  obtain ⟨d, ds, hd, he, sd, se, q⟩ := h
  obtain ⟨as, r1⟩ := Dp.reads I d x v hd rx
  obtain ⟨bs, r2⟩ := Dp.reads I (.tuple ds) y u he ry
  exact SeqAt.in_tuple_reads r2 r1 (SeqAt.canLay_of_shaped se) (SeqAt.canLay_of_shaped sd) (room_in_shaped sd hu) ⟨.bl _, H, I, rfl, q⟩
theorem op_notInDT (hu : X.A.units + 65 < cLine) : OpR X (compareOp .NotIn) (rNotInDT X.K) := by
  intro pins s σ H x y v u Q I rx ry h
  obtain ⟨d, ds, hd, he, sd, se, q⟩ := h
  obtain ⟨as, r1⟩ := Dp.reads I d x v hd rx
  obtain ⟨bs, r2⟩ := Dp.reads I (.tuple ds) y u he ry
  exact SeqAt.notIn_tuple_reads r2 r1 (SeqAt.canLay_of_shaped se) (SeqAt.canLay_of_shaped sd) (room_in_shaped sd hu) ⟨.bl _, H, I, rfl, q⟩
def rGetL : V → V → Hp → VK → Prop := fun o i H Q => ∃ p xs k y, o = .ref p ∧ i = .int k ∧ H p = some (.lst xs) ∧ atI xs k = some y ∧ Q y H
theorem get_list : PGet X rGetL := by
  intro pins s σ H o i ov iv Q I ro ri h
  obtain ⟨p, xs, k, z, rfl, rfl, hq, he, q⟩ := h
  cases ro
  obtain ⟨t, rfl⟩ := ri
  obtain ⟨its, r, pl, hz⟩ := I.list (xs := xs) (a := p) (.inl (.inl hq))
  obtain ⟨j, h1, h2, h3, h4, h5⟩ := atI_get he
  obtain ⟨w, ew, rw'⟩ := r.get h2
  have hl := r.length
  have hn := line63
  have fin : EP X pins σ Q w s := ⟨z, H, I, rw', q⟩
  by_cases h0 : 0 ≤ k
  · have hj : k.toNat = j := by
      rw [seqIndex_of h0 h5] at h1
      exact Option.some.inj h1
    exact wpAny_getItem_list pl.isList h0 (by omega) (by rw [hj]; simpa using ew) fin
  · have hj : (k + (its.toArray.size : Int)).toNat = j := by
      rw [seqIndex_neg (by omega) h4] at h1
      rw [List.size_toArray, ← hl]
      exact Option.some.inj h1
    exact wpAny_getItem_list_neg pl.isList (by omega) (by rw [List.size_toArray] <;> omega) (by omega) (by rw [hj]; simpa using ew) fin
end
end PV
set_option maxRecDepth 100000
set_option maxHeartbeats 4000000
/-! The operations by deep values. -/
namespace PV
open PySem PySem.Spec PyProof.Rows L2
theorem line_eq : (sizeLine : Nat) = LINE := sizeLine_eq
section
variable {K : PySem.W.Frag} {S S' : Addr → Prop} {φ φ' : List Addr} {H H' : Hp} {v : V} {d : D} {vs : List V} {ds : List D}
mutual
theorem Rep.dp : ∀ {v : V} {d : D}, Rep K S φ H v d → pure? d = true → Dp K H v (toPy d)
  | _, _, .non, _ => .non
  | _, _, .bl b, _ => .bl b
  | _, _, .int i, _ => .int i
  | _, _, .str z, _ => .str z
  | _, _, .tup h r, p => .tup h.sq (RepL.dp r p)
  | _, _, .lst _ h r, p => .lst (.inl (.inl h)) (RepL.dp r p)
  | _, _, .rol _ _, p => by cases p
  | _, _, .loc _, p => by cases p
theorem RepL.dp : ∀ {vs : List V} {ds : List D}, RepL K S φ H vs ds → pures? ds = true → DpAll K H vs (toPys ds)
  | _, _, .nil, _ => .nil
  | _, _, .cons h1 h2, p => by
    have p' := Bool.and_eq_true_iff.mp (show (pure? _ && pures? _) = true from p)
    exact .cons (Rep.dp h1 p'.1) (RepL.dp h2 p'.2)
end
theorem RepD.dp (h : RepD K S φ H v d) (p : pure? d = true) : Dp K H v (toPy d) := by
  rcases h with h | ⟨a, vs, ds, e1, e2, h, r⟩
  · exact h.dp p
  · subst e1 e2
    exact .lst (.inl (.inl h)) (r.dp p)

/-- a reading of a two-place operation answers as f does -/
def OpS (K : PySem.W.Frag) (r : R2) (f : D → D → Option D) : Prop :=
  ∀ (S : Addr → Prop) (φ : List Addr) (H : Hp) (st : Sto) (x y : V) (dx dy d : D) (Q : VK), SI K S φ H st → RepD K S φ H x dx → RepD K S φ H y dy → f dx dy = some d →
    (∀ v H' S', Stp S φ H S' φ H' → SI K S' φ H' st → Rep K S' φ H' v d → Q v H') → r x y H Q
/-- what the rules ask of the surroundings -/
structure Rm (X : Cx) : Prop where
  calm : X.calm = true
  un : X.A.units + 150 < cLine
def rAdd (K : PySem.W.Frag) : R2 := fun x y H Q => rI0 (fun i j => .int (i + j)) x y H Q ∨ (∃ i j, x = .str i ∧ y = .str j ∧ i.length + j.length ≤ sizeLine ∧ Q (.str (i ++ j)) H) ∨ rCatA K x y H Q ∨ rCat x y H Q
theorem or_add {X : Cx} : OpR X (binaryOp .Add) (rAdd X.K) := op_add.or (op_add_str.or (op_catA.or op_cat))
theorem os_add : OpS K (rAdd K) addD := by
  intro S φ H st x y dx dy d Q I rx ry e q
  cases dx with
  | int i => cases dy with
    | int j => cases e; cases rx.int; cases ry.int; exact .inl ⟨i, j, rfl, rfl, q _ _ _ .refl I (.int _)⟩
    | _ => cases e
  | str i => cases dy with
    | str j =>
      have e' : (if i.length + j.length ≤ LINE then some (D.str (i ++ j)) else none) = some d := e
      split at e'
      · cases e'; cases rx.str; cases ry.str
        rename_i h
        exact .inr (.inl ⟨i, j, rfl, rfl, by rw [line_eq]; exact h, q _ _ _ .refl I (.str _)⟩)
      · cases e'
    | _ => cases e
  | tup xs => cases dy with
    | tup ys =>
      have e' : (if xs.length + ys.length ≤ LINE then some (D.tup (xs ++ ys)) else none) = some d := e
      split at e'
      · cases e'
        rename_i h
        obtain ⟨a, us, rfl, ha, ra, pa⟩ := rx.tup
        obtain ⟨b, ws, rfl, hb, rb, pb⟩ := ry.tup
        refine .inr (.inr (.inl ⟨a, b, us, ws, rfl, rfl, ha, hb, by rw [line_eq, ra.length, rb.length]; exact h, fun z => ?_, fun _ z => ?_, fun _ _ p hp => ?_⟩))
        · subst z; cases ra; exact q _ _ _ .refl I pb
        · subst z; cases rb; rw [List.append_nil] at q; exact q _ _ _ .refl I pa
        · exact q _ _ _ (Stp.alloc hp) (I.alloc hp) (rep_tup I hp (ra.append rb))
      · cases e'
    | _ => cases e
  | lst xs => cases dy with
    | lst ys =>
      have e' : (if xs.length + ys.length ≤ LINE then some (D.lst (xs ++ ys)) else none) = some d := e
      split at e'
      · cases e'
        rename_i h
        obtain ⟨a, us, rfl, ha, ra⟩ := rx.lst
        obtain ⟨b, ws, rfl, hb, rb⟩ := ry.lst
        exact .inr (.inr (.inr ⟨a, b, us, ws, rfl, rfl, ha, hb, by rw [line_eq, ra.length, rb.length]; exact h, fun p hp => q _ _ _ (Stp.alloc hp) (I.alloc hp) (rep_lst I hp (ra.append rb))⟩))
      · cases e'
    | _ => cases e
  | _ => cases e
theorem os_int {g : Int → Int → Int} {C : Int → Int → Prop} {f : D → D → Option D} (h : ∀ dx dy d, f dx dy = some d → ∃ i j, dx = .int i ∧ dy = .int j ∧ C i j ∧ d = .int (g i j)) : OpS K (rI C fun i j => .int (g i j)) f := by
  intro S φ H st x y dx dy d Q I rx ry e q
  obtain ⟨i, j, rfl, rfl, c, rfl⟩ := h dx dy d e
  cases rx.int; cases ry.int
  exact ⟨i, j, rfl, rfl, c, q _ _ _ .refl I (.int _)⟩
theorem or_sub {X : Cx} : OpR X (binaryOp .Sub) (rI (fun _ _ => True) fun i j => .int (i - j)) := fun pins s σ H x y v u Q I rx ry ⟨i, j, a, b, _, q⟩ => op_sub pins s σ H x y v u Q I rx ry ⟨i, j, a, b, q⟩
theorem os_sub : OpS K (rI (fun _ _ => True) fun i j => .int (i - j)) subD := os_int fun dx dy d e => by
  unfold subD at e
  split at e
  · cases e; exact ⟨_, _, rfl, rfl, trivial, rfl⟩
  · cases e
def rMulA (K : PySem.W.Frag) : R2 := fun x y H Q => (rI CMul fun i j => .int (i * j)) x y H Q ∨ (rRepT K x y H Q ∨ rRepT1 K x y H Q)
theorem or_mul {X : Cx} : OpR X (binaryOp .Mult) (rMulA X.K) := op_mul.or (op_repT.or op_repT1)
theorem RepL.rep (n : Nat) {vs : List V} {ds : List D} (h : RepL K S φ H vs ds) : RepL K S φ H (List.replicate n vs).flatten (List.replicate n ds).flatten := by
  induction n with
  | zero => exact .nil
  | succ n ih => rw [List.replicate_succ, List.replicate_succ, List.flatten_cons, List.flatten_cons]; exact h.append ih
theorem os_mul : OpS K (rMulA K) mulD := by
  intro S φ H st x y dx dy d Q I rx ry e q
  unfold mulD at e
  split at e
  · rename_i xs k
    obtain ⟨a, vs, rfl, h1, r, rv⟩ := rx.tup
    cases ry.int
    by_cases hk : k = 1
    · rw [if_pos hk] at e; cases e; subst hk
      exact .inr (.inr ⟨a, vs, rfl, rfl, h1, q _ H S .refl I rv⟩)
    · rw [if_neg hk] at e
      split at e
      · cases e
        rename_i h
        refine .inr (.inl ⟨a, k, vs, rfl, rfl, h1, ?_, h.1, h.2.1, by rw [r.length]; exact h.2.2.1, fun p hp => q _ _ _ (Stp.alloc hp) (I.alloc hp) (rep_tup I hp (r.rep k.toNat))⟩)
        intro e
        subst e
        cases r
        cases h.2.2.2
      · cases e
  · split at e
    · cases e; rename_i h
      cases rx.int; cases ry.int
      exact .inl ⟨_, _, rfl, rfl, by unfold CMul; omega, q _ H S .refl I (.int _)⟩
    · cases e
  · cases e
theorem os_mod : OpS K (rI (fun _ j => 0 < j) fun i j => .int (i % j)) modD := os_int fun dx dy d e => by
  unfold modD at e
  split at e
  · split at e
    · cases e; rename_i h; exact ⟨_, _, rfl, rfl, h, rfl⟩
    · cases e
  · cases e
theorem os_div : OpS K (rI CDiv fun i j => .int (i / j)) divD := os_int fun dx dy d e => by
  unfold divD at e
  split at e
  · split at e
    · cases e; rename_i h; exact ⟨_, _, rfl, rfl, h, rfl⟩
    · cases e
  · cases e
/-- each operator has a rule -/
theorem bin_rule (op : BOp) (K : PySem.W.Frag) : ∃ r : R2, (∀ X : Cx, X.K = K → Rm X → OpR X (binaryOp op.py) r) ∧ OpS K r (binD op) := by
  cases op with
  | add => exact ⟨rAdd K, fun X e _ => by subst e; exact or_add, os_add⟩
  | sub => exact ⟨_, fun X e _ => or_sub, os_sub⟩
  | mul => exact ⟨rMulA K, fun X e _ => by subst e; exact or_mul, os_mul⟩
  | mod => exact ⟨_, fun X e _ => op_mod, os_mod⟩
  | div => exact ⟨_, fun X e _ => op_fdiv, os_div⟩

/-! ### comparisons: a bool -/
def CmS (K : PySem.W.Frag) (r : R2) (f : D → D → Option Bool) : Prop :=
  ∀ (S : Addr → Prop) (φ : List Addr) (H : Hp) (x y : V) (dx dy : D) (b : Bool) (Q : VK), RepD K S φ H x dx → RepD K S φ H y dy → f dx dy = some b → Q (.bl b) H → r x y H Q
theorem cs_int {g : Int → Int → Bool} {f : D → D → Option Bool} (h : ∀ dx dy b, f dx dy = some b → ∃ i j, dx = .int i ∧ dy = .int j ∧ b = g i j) : CmS K (rI0 fun i j => .bl (g i j)) f := by
  intro S φ H x y dx dy b Q rx ry e q
  obtain ⟨i, j, rfl, rfl, rfl⟩ := h dx dy b e
  cases rx.int; cases ry.int
  exact ⟨i, j, rfl, rfl, q⟩
theorem cs_eq : CmS K (rEqD K) eqD := by
  intro S φ H x y dx dy b Q rx ry e q
  unfold eqD at e
  split at e
  · rename_i h
    cases e
    obtain ⟨h1, h2⟩ := h
    unfold shp at h1 h2
    obtain ⟨p1, s1⟩ := Bool.and_eq_true_iff.mp h1
    obtain ⟨p2, s2⟩ := Bool.and_eq_true_iff.mp h2
    exact ⟨_, _, rx.dp p1, ry.dp p2, s1, s2, q⟩
  · cases e
theorem cs_ne : CmS K (rNeD K) (cmpD .ne) := by
  intro S φ H x y dx dy b Q rx ry e q
  have e' : (eqD dx dy).map (!·) = some b := e
  unfold eqD at e'
  split at e'
  · rename_i h
    cases e'
    obtain ⟨h1, h2⟩ := h
    unfold shp at h1 h2
    obtain ⟨p1, s1⟩ := Bool.and_eq_true_iff.mp h1
    obtain ⟨p2, s2⟩ := Bool.and_eq_true_iff.mp h2
    exact ⟨_, _, rx.dp p1, ry.dp p2, s1, s2, q⟩
  · cases e'
theorem isNon_of (h : RepD K S φ H v d) : decide (v = .non) = isNonD d := by
  rcases h with h | ⟨a, vs, ds, e1, e2, h, r⟩
  · cases h <;> simp [isNonD]
  · subst e1 e2; simp [isNonD]
def rIs : R2 := fun x y H Q => (y = .non ∧ Q (.bl (decide (x = .non))) H) ∨ rIsB x y H Q
def rIsn : R2 := fun x y H Q => (y = .non ∧ Q (.bl (!decide (x = .non))) H) ∨ rNotB x y H Q
theorem isD_cases {dx dy : D} {b : Bool} (h : isD dx dy = some b) : (dy = .non ∧ b = isNonD dx) ∨ ∃ p q, dx = .bl p ∧ dy = .bl q ∧ b = decide (p = q) := by
  unfold isD at h
  split at h
  · cases h; exact .inl ⟨rfl, rfl⟩
  · cases h; exact .inr ⟨_, _, rfl, rfl, rfl⟩
  · cases h
theorem cs_is : CmS K rIs (cmpD .is) := by
  intro S φ H x y dx dy b Q rx ry e q
  rcases isD_cases (show isD dx dy = some b from e) with ⟨rfl, rfl⟩ | ⟨p, r, rfl, rfl, rfl⟩
  · cases ry.non; exact .inl ⟨rfl, by rw [isNon_of rx]; exact q⟩
  · cases rx.bl; cases ry.bl; exact .inr ⟨p, r, rfl, rfl, q⟩
theorem cs_isn : CmS K rIsn (cmpD .isn) := by
  intro S φ H x y dx dy b Q rx ry e q
  have e' : (isD dx dy).map (!·) = some b := e
  cases h : isD dx dy with
  | none => rw [h] at e'; cases e'
  | some c =>
    rw [h] at e'
    cases e'
    rcases isD_cases h with ⟨rfl, rfl⟩ | ⟨p, r, rfl, rfl, rfl⟩
    · cases ry.non; exact .inl ⟨rfl, by rw [isNon_of rx]; exact q⟩
    · cases rx.bl; cases ry.bl; exact .inr ⟨p, r, rfl, rfl, q⟩
theorem cs_icmp {g : Int → Int → Bool} : CmS K (rI0 fun i j => .bl (g i j)) (icmp g) := cs_int fun dx dy b e => by
  unfold icmp at e
  split at e
  · cases e; exact ⟨_, _, rfl, rfl, rfl⟩
  · cases e
def rLtS : R2 := fun x y H Q => ∃ i j, x = .str i ∧ y = .str j ∧ Q (.bl (decide (i.cps.toList < j.cps.toList))) H
def rLtA : R2 := fun x y H Q => (rI0 fun i j => .bl (decide (i < j))) x y H Q ∨ rLtS x y H Q
theorem or_lt {X : Cx} : OpR X (compareOp .Lt) rLtA := op_lt.or op_lt_str
theorem cs_lt : CmS K rLtA ltD := by
  intro S φ H x y dx dy b Q rx ry e q
  unfold ltD at e
  split at e
  · cases e; cases rx.int; cases ry.int; exact .inl ⟨_, _, rfl, rfl, q⟩
  · cases e; cases rx.str; cases ry.str; exact .inr ⟨_, _, rfl, rfl, q⟩
  · cases e
def rInS1 : R2 := fun x y H Q => ∃ i j, x = .str i ∧ y = .str j ∧ Q (.bl (!(Builtin.Str.occurrences j i 0 j.length 1).isEmpty)) H
def rInA (K : PySem.W.Frag) : R2 := fun x y H Q => rInS1 x y H Q ∨ (rInD K x y H Q ∨ rInDT K x y H Q)
theorem or_in {X : Cx} (hu : X.A.units + 65 < cLine) : OpR X (compareOp .In) (rInA X.K) := op_in_str.or ((op_inD hu).or (op_inDT hu))
theorem cs_in : CmS K (rInA K) inD := by
  intro S φ H x y dx dy b Q rx ry e q
  unfold inD at e
  split at e
  · split at e
    · cases e; cases rx.str; cases ry.str; exact .inl ⟨_, _, rfl, rfl, q⟩
    · cases e
  · split at e
    · rename_i h
      cases e
      obtain ⟨h1, h2⟩ := h
      unfold shp at h1 h2
      obtain ⟨p1, s1⟩ := Bool.and_eq_true_iff.mp h1
      obtain ⟨p2, s2⟩ := Bool.and_eq_true_iff.mp h2
      exact .inr (.inl ⟨_, _, rx.dp p1, ry.dp p2, s1, s2, q⟩)
    · cases e
  · split at e
    · rename_i h
      cases e
      obtain ⟨h1, h2⟩ := h
      unfold shp at h1 h2
      obtain ⟨p1, s1⟩ := Bool.and_eq_true_iff.mp h1
      obtain ⟨p2, s2⟩ := Bool.and_eq_true_iff.mp h2
      exact .inr (.inr ⟨_, _, rx.dp p1, ry.dp p2, s1, s2, q⟩)
    · cases e
  · cases e
def rNinS1 : R2 := fun x y H Q => ∃ i j, x = .str i ∧ y = .str j ∧ Q (.bl (!(!(Builtin.Str.occurrences j i 0 j.length 1).isEmpty))) H
def rNinA (K : PySem.W.Frag) : R2 := fun x y H Q => rNinS1 x y H Q ∨ (rNotInD K x y H Q ∨ rNotInDT K x y H Q)
theorem or_nin {X : Cx} (hu : X.A.units + 65 < cLine) : OpR X (compareOp .NotIn) (rNinA X.K) := op_notin_str.or ((op_notInD hu).or (op_notInDT hu))
theorem cs_nin : CmS K (rNinA K) (cmpD .nin) := by
  intro S φ H x y dx dy b Q rx ry e q
  have e' : (inD dx dy).map (!·) = some b := e
  unfold inD at e'
  split at e'
  · split at e'
    · cases e'; cases rx.str; cases ry.str; exact .inl ⟨_, _, rfl, rfl, q⟩
    · cases e'
  · split at e'
    · rename_i h
      cases e'
      obtain ⟨h1, h2⟩ := h
      unfold shp at h1 h2
      obtain ⟨p1, s1⟩ := Bool.and_eq_true_iff.mp h1
      obtain ⟨p2, s2⟩ := Bool.and_eq_true_iff.mp h2
      exact .inr (.inl ⟨_, _, rx.dp p1, ry.dp p2, s1, s2, q⟩)
    · cases e'
  · split at e'
    · rename_i h
      cases e'
      obtain ⟨h1, h2⟩ := h
      unfold shp at h1 h2
      obtain ⟨p1, s1⟩ := Bool.and_eq_true_iff.mp h1
      obtain ⟨p2, s2⟩ := Bool.and_eq_true_iff.mp h2
      exact .inr (.inr ⟨_, _, rx.dp p1, ry.dp p2, s1, s2, q⟩)
    · cases e'
  · cases e'
theorem cmp_rule (op : COp) (K : PySem.W.Frag) : ∃ r : R2, (∀ X : Cx, X.K = K → Rm X → OpR X (compareOp op.py) r) ∧ CmS K r (cmpD op) := by
  cases op with
  | eq => exact ⟨rEqD K, fun X e m => by subst e; exact op_eqD (by have := m.un; omega), cs_eq⟩
  | ne => exact ⟨rNeD K, fun X e m => by subst e; exact op_neD (by have := m.un; omega), cs_ne⟩
  | lt => exact ⟨rLtA, fun X e m => or_lt, cs_lt⟩
  | le => exact ⟨_, fun X e m => op_le, cs_icmp⟩
  | gt => exact ⟨_, fun X e m => op_gt, cs_icmp⟩
  | ge => exact ⟨_, fun X e m => op_ge, cs_icmp⟩
  | is => exact ⟨rIs, fun X e m => op_isN.or op_isBl, cs_is⟩
  | isn => exact ⟨rIsn, fun X e m => op_notN.or op_notBl, cs_isn⟩
  | inn => exact ⟨rInA K, fun X e m => by subst e; exact or_in (by have := m.un; omega), cs_in⟩
  | nin => exact ⟨rNinA K, fun X e m => by subst e; exact or_nin (by have := m.un; omega), cs_nin⟩

/-! ### truth -/
theorem truV {k : Bool} (h : RepD K S φ H v d) (e : truthD d = some k) : TruV K v H k := by
  cases d with
  | non => cases h.non; cases e; exact rfl
  | bl b => cases h.bl; cases e; exact rfl
  | int i => cases h.int; cases e; exact rfl
  | str x =>
    cases h.str
    have e' : (if x.length ≤ LINE then some ((x.length : Int) != 0) else none) = some k := e
    split at e'
    · cases e'; rename_i z; exact ⟨by rw [line_eq]; exact z, rfl⟩
    · cases e'
  | tup xs =>
    obtain ⟨a, vs, rfl, h1, r, _⟩ := h.tup
    cases e
    refine .inr (.inl ⟨vs, h1, ?_⟩)
    cases r <;> rfl
  | lst xs =>
    obtain ⟨a, vs, rfl, h1, r⟩ := h.lst
    cases e
    refine .inl ⟨vs, .inl (.inl h1), ?_⟩
    cases r <;> rfl
  | rol xs => cases e
  | loc n => cases e

/-! ### subscripts -/
theorem RepL.atI {i : Int} (r : RepL K S φ H vs ds) (e : L2.atI ds i = some d) : ∃ v, L2.atI vs i = some v ∧ Rep K S φ H v d := by
  unfold L2.atI at e ⊢
  rw [r.length]
  cases q : ixN ds.length i with
  | none => rw [q] at e; cases e
  | some j =>
    rw [q] at e
    exact r.get (show ds[j]? = some d from e)
def IxS (K : PySem.W.Frag) (r : R2) : Prop :=
  ∀ (S : Addr → Prop) (φ : List Addr) (H : Hp) (x y : V) (dx dy d : D) (Q : VK), RepD K S φ H x dx → RepD K S φ H y dy → idxD dx dy = some d → (∀ v, Rep K S φ H v d → Q v H) → r x y H Q
theorem is_idx : IxS K (rIx K) := by
  intro S φ H x y dx dy d Q rx ry e q
  unfold idxD at e
  split at e
  · obtain ⟨a, vs, rfl, h1, r⟩ := rx.lst
    cases ry.int
    obtain ⟨v, hv, rv⟩ := r.atI e
    exact .inl ⟨a, vs, _, v, rfl, rfl, .inl (.inl h1), hv, q v rv⟩
  · obtain ⟨a, vs, rfl, h1, r, _⟩ := rx.tup
    cases ry.int
    obtain ⟨v, hv, rv⟩ := r.atI e
    exact .inr (.inl ⟨a, vs, _, v, rfl, rfl, h1, hv, q v rv⟩)
  · cases rx.str
    cases ry.int
    split at e
    · rename_i z i hz
      cases hc : L2.atI z.cps.toList i with
      | none => rw [hc] at e; cases e
      | some c => rw [hc] at e; cases e; exact .inr (.inr ⟨z, i, c, rfl, rfl, by rw [line_eq]; exact hz, hc, q _ (.str _)⟩)
    · cases e
  · cases e
def rSl (K : PySem.W.Frag) : V → Option Int → Option Int → Hp → VK → Prop := fun x lo hi H Q => rSlL K x lo hi H Q ∨ rSlA K x lo hi H Q
theorem RepL.cut {lo hi : Option Int} (r : RepL K S φ H vs ds) : RepL K S φ H (cutV vs lo hi) (PV.cut ds lo hi) := by
  unfold cutV PV.cut
  rw [r.length]
  exact (r.drop _).take _
theorem cut_whole {α : Type} {xs : List α} {lo hi : Option Int} (h : HT.sIx xs.length 0 lo = 0 ∧ HT.sIx xs.length xs.length hi = xs.length) : PV.cut xs lo hi = xs := by
  unfold PV.cut
  rw [h.1, h.2]
  simp
def SlS (K : PySem.W.Frag) (r : V → Option Int → Option Int → Hp → VK → Prop) : Prop :=
  ∀ (S : Addr → Prop) (φ : List Addr) (H : Hp) (st : Sto) (x : V) (dx d : D) (lo hi : Option Int) (Q : VK), SI K S φ H st → RepD K S φ H x dx → slcD dx lo hi = some d →
    (∀ v H' S', Stp S φ H S' φ H' → SI K S' φ H' st → Rep K S' φ H' v d → Q v H') → r x lo hi H Q
theorem ss_slc : SlS K (rSl K) := by
  intro S φ H st x dx d lo hi Q I rx e q
  unfold slcD at e
  split at e
  · cases e
    obtain ⟨a, vs, rfl, h1, r⟩ := rx.lst
    exact .inl ⟨a, vs, rfl, .inl (.inl h1), fun p hp => q _ _ _ (Stp.alloc hp) (I.alloc hp) (rep_lst I hp r.cut)⟩
  · cases e
    obtain ⟨a, vs, rfl, h1, r⟩ := rx.rol
    exact .inl ⟨a, vs, rfl, h1, fun p hp => q _ _ _ (Stp.alloc hp) (I.alloc hp) (rep_lst I hp r.cut)⟩
  · cases e
    obtain ⟨a, vs, rfl, h1, r, rr⟩ := rx.tup
    refine .inr ⟨a, vs, rfl, h1, fun z => ?_, fun _ p hp => q _ _ _ (Stp.alloc hp) (I.alloc hp) (rep_tup I hp r.cut)⟩
    rw [r.length] at z
    rw [cut_whole z] at q
    exact q _ _ _ .refl I rr
  · cases e

/-! ### built-ins -/
theorem ints_of : ∀ {vs : List V} {ds : List D} {l : List Int}, RepL K S φ H vs ds → ints? ds = some l → vs = l.map V.int
  | _, _, _, .nil, e => by cases e; rfl
  | _, _, _, .cons (d := d) h1 h2, e => by
    cases d with
    | int i =>
      cases h1
      have e' : (ints? _).map (i :: ·) = some _ := e
      cases q : ints? _ with
      | none => rw [q] at e'; cases e'
      | some l => rw [q] at e'; cases e'; rw [ints_of h2 q]; rfl
    | _ => cases e
theorem bools_of : ∀ {vs : List V} {ds : List D} {l : List Bool}, RepL K S φ H vs ds → bools? ds = some l → vs = l.map V.bl
  | _, _, _, .nil, e => by cases e; rfl
  | _, _, _, .cons (d := d) h1 h2, e => by
    cases d with
    | bl i =>
      cases h1
      have e' : (bools? _).map (i :: ·) = some _ := e
      cases q : bools? _ with
      | none => rw [q] at e'; cases e'
      | some l => rw [q] at e'; cases e'; rw [bools_of h2 q]; rfl
    | _ => cases e
theorem maxI_spec : ∀ (l : List Int), l ≠ [] → maxI l ∈ l ∧ ∀ y ∈ l, y ≤ maxI l
  | [], h => absurd rfl h
  | [x], _ => by simp [maxI]
  | x :: y :: r, _ => by
    obtain ⟨h1, h2⟩ := maxI_spec (y :: r) (by simp)
    have e : maxI (x :: y :: r) = max x (maxI (y :: r)) := rfl
    rw [e]
    refine ⟨?_, fun z hz => ?_⟩
    · by_cases hx : x ≤ maxI (y :: r)
      · rw [Int.max_eq_right hx]; exact List.mem_cons_of_mem _ h1
      · rw [Int.max_eq_left (by omega)]; exact List.mem_cons_self
    · rcases List.mem_cons.mp hz with q | q
      · subst q; exact Int.le_max_left _ _
      · exact Int.le_trans (h2 z q) (Int.le_max_right _ _)
theorem minI_spec : ∀ (l : List Int), l ≠ [] → minI l ∈ l ∧ ∀ y ∈ l, minI l ≤ y
  | [], h => absurd rfl h
  | [x], _ => by simp [minI]
  | x :: y :: r, _ => by
    obtain ⟨h1, h2⟩ := minI_spec (y :: r) (by simp)
    have e : minI (x :: y :: r) = min x (minI (y :: r)) := rfl
    rw [e]
    refine ⟨?_, fun z hz => ?_⟩
    · by_cases hx : x ≤ minI (y :: r)
      · rw [Int.min_eq_left hx]; exact List.mem_cons_self
      · rw [Int.min_eq_right (by omega)]; exact List.mem_cons_of_mem _ h1
    · rcases List.mem_cons.mp hz with q | q
      · subst q; exact Int.min_le_left _ _
      · exact Int.le_trans (Int.min_le_right _ _) (h2 z q)
theorem CallR.or {X : Cx} {f : Value} {r r' : List V → Hp → VK → Prop} (h : CallR X f r) (h' : CallR X f r') : CallR X f fun xs H Q => r xs H Q ∨ r' xs H Q := by
  intro pins s σ H xs us Q I rx q
  rcases q with q | q
  · exact h pins s σ H xs us Q I rx q
  · exact h' pins s σ H xs us Q I rx q
def ClS (K : PySem.W.Frag) (r : List V → Hp → VK → Prop) (f : List D → Option D) : Prop :=
  ∀ (S : Addr → Prop) (φ : List Addr) (H : Hp) (st : Sto) (xs : List V) (ds : List D) (d : D) (Q : VK), SI K S φ H st → Paired (RepD K S φ H) xs ds → f ds = some d →
    (∀ v H' S', Stp S φ H S' φ H' → SI K S' φ H' st → Rep K S' φ H' v d → Q v H') → r xs H Q
theorem pd1 {R : V → D → Prop} {xs : List V} {d : D} (h : Paired R xs [d]) : ∃ x, xs = [x] ∧ R x d := by
  cases h with
  | cons a b => cases b; exact ⟨_, rfl, a⟩
theorem pd2 {R : V → D → Prop} {xs : List V} {d d' : D} (h : Paired R xs [d, d']) : ∃ x y, xs = [x, y] ∧ R x d ∧ R y d' := by
  cases h with
  | cons a b =>
    cases b with
    | cons c e => cases e; exact ⟨_, _, rfl, a, c⟩
theorem cl_len : ClS K (rLen K) fLen := by
  intro S φ H st xs ds d Q I r e q
  unfold fLen at e
  split at e
  · rename_i d0
    obtain ⟨x, rfl, rx⟩ := pd1 r
    unfold lenD at e
    split at e
    · cases e; obtain ⟨a, vs, rfl, h1, rr⟩ := rx.lst
      exact ⟨_, vs.length, rfl, .inl ⟨vs, .inl (.inl h1), rfl⟩, by rw [rr.length]; exact q _ _ _ .refl I (.int _)⟩
    · cases e; obtain ⟨a, vs, rfl, h1, rr⟩ := rx.rol
      exact ⟨_, vs.length, rfl, .inl ⟨vs, h1, rfl⟩, by rw [rr.length]; exact q _ _ _ .refl I (.int _)⟩
    · cases e; obtain ⟨a, vs, rfl, h1, rr, _⟩ := rx.tup
      exact ⟨_, vs.length, rfl, .inr ⟨vs, h1, rfl⟩, by rw [rr.length]; exact q _ _ _ .refl I (.int _)⟩
    · split at e
      · cases e; cases rx.str; rename_i z hz; exact ⟨_, _, rfl, ⟨by rw [line_eq]; exact hz, rfl⟩, q _ _ _ .refl I (.int _)⟩
      · cases e
    · cases e
  · cases e
def rInt : List V → Hp → VK → Prop := fun xs H Q => (∃ i, xs = [.int i] ∧ Q (.int i) H) ∨ ∃ k, xs = [.bl k] ∧ Q (.int (if k then 1 else 0)) H
theorem cl_int : ClS K rInt fInt := by
  intro S φ H st xs ds d Q I r e q
  unfold fInt at e
  split at e
  · cases e; obtain ⟨x, rfl, rx⟩ := pd1 r; cases rx.int; exact .inl ⟨_, rfl, q _ _ _ .refl I (.int _)⟩
  · cases e
theorem cl_abs : ClS K (fun xs H Q => ∃ i, xs = [.int i] ∧ Q (.int (if i < 0 then -i else i)) H) fAbs := by
  intro S φ H st xs ds d Q I r e q
  unfold fAbs at e
  split at e
  · cases e; obtain ⟨x, rfl, rx⟩ := pd1 r; cases rx.int; exact ⟨_, rfl, q _ _ _ .refl I (.int _)⟩
  · cases e
theorem nuMin3_int {i j l : Int} : nuMin3 (.int i) (.int j) (.int l) = some (.int (if l < (if j < i then j else i) then l else (if j < i then j else i))) := by
  by_cases h : j < i
  · by_cases h2 : l < j <;> simp [nuMin3, nuMin2, nuLt, nuCB, h, h2]
  · by_cases h2 : l < i <;> simp [nuMin3, nuMin2, nuLt, nuCB, h, h2]
def rMaxA (K : PySem.W.Frag) : List V → Hp → VK → Prop := fun xs H Q => (∃ i j, xs = [.int i, .int j] ∧ Q (.int (if j > i then j else i)) H) ∨ rMax K xs H Q
def rMinA (K : PySem.W.Frag) : List V → Hp → VK → Prop := fun xs H Q => (∃ i j, xs = [.int i, .int j] ∧ Q (.int (if j < i then j else i)) H) ∨ (rMin K xs H Q ∨ rNuC3 nuMin3 xs H Q)
theorem cl_max : ClS K (rMaxA K) fMax := by
  intro S φ H st xs ds d Q I r e q
  unfold fMax at e
  split at e
  · cases e; obtain ⟨x, y, rfl, rx, ry⟩ := pd2 r; cases rx.int; cases ry.int; exact .inl ⟨_, _, rfl, q _ _ _ .refl I (.int _)⟩
  · split at e
    · rename_i x l hl
      cases e
      obtain ⟨v, rfl, rx⟩ := pd1 r
      obtain ⟨a, vs, rfl, h1, rr⟩ := rx.lst
      cases ints_of rr hl
      obtain ⟨h2, h3⟩ := maxI_spec (x :: l) (by simp)
      refine .inr ⟨a, x :: l, rfl, .inl (.inl h1), by simp, fun m hm hle => ?_⟩
      have : m = maxI (x :: l) := Int.le_antisymm (h3 m hm) (hle _ h2)
      rw [this]; exact q _ _ _ .refl I (.int _)
    · cases e
  · cases e
theorem pd3 {K : PySem.W.Frag} {S : Addr → Prop} {φ : List Addr} {H : Hp} {xs : List V} {a b c : D} (r : Paired (RepD K S φ H) xs [a, b, c]) : ∃ x y z, xs = [x, y, z] ∧ RepD K S φ H x a ∧ RepD K S φ H y b ∧ RepD K S φ H z c := by
  cases r with
  | cons r1 r2 =>
    obtain ⟨y, z, rfl, r3, r4⟩ := pd2 r2
    exact ⟨_, y, z, rfl, r1, r3, r4⟩
theorem cl_min : ClS K (rMinA K) fMin := by
  intro S φ H st xs ds d Q I r e q
  unfold fMin at e
  split at e
  · cases e; obtain ⟨x, y, rfl, rx, ry⟩ := pd2 r; cases rx.int; cases ry.int; exact .inl ⟨_, _, rfl, q _ _ _ .refl I (.int _)⟩
  · rename_i i j l
    cases e
    obtain ⟨x, y, z, rfl, rx, ry, rz⟩ := pd3 r
    cases rx.int; cases ry.int; cases rz.int
    exact .inr (.inr ⟨_, _, _, _, rfl, nuMin3_int, q _ _ _ .refl I (.int _)⟩)
  · split at e
    · rename_i x l hl
      cases e
      obtain ⟨v, rfl, rx⟩ := pd1 r
      obtain ⟨a, vs, rfl, h1, rr⟩ := rx.lst
      cases ints_of rr hl
      obtain ⟨h2, h3⟩ := minI_spec (x :: l) (by simp)
      refine .inr (.inl ⟨a, x :: l, rfl, .inl (.inl h1), by simp, fun m hm hle => ?_⟩)
      have : m = minI (x :: l) := Int.le_antisymm (hle _ h2) (h3 m hm)
      rw [this]; exact q _ _ _ .refl I (.int _)
    · cases e
  · cases e
theorem cl_sum : ClS K (rSum K) fSum := by
  intro S φ H st xs ds d Q I r e q
  unfold fSum at e
  split at e
  · rename_i ds
    cases hl : ints? ds with
    | none => rw [hl] at e; cases e
    | some l =>
      rw [hl] at e
      cases e
      obtain ⟨v, rfl, rx⟩ := pd1 r
      obtain ⟨a, vs, rfl, h1, rr⟩ := rx.lst
      cases ints_of rr hl
      exact ⟨a, l, rfl, .inl (.inl h1), q _ _ _ .refl I (.int _)⟩
  · cases e
theorem cl_any : ClS K (rAny K) fAny := by
  intro S φ H st xs ds d Q I r e q
  unfold fAny at e
  split at e
  · rename_i ds
    cases hl : bools? ds with
    | none => rw [hl] at e; cases e
    | some l =>
      rw [hl] at e
      cases e
      obtain ⟨v, rfl, rx⟩ := pd1 r
      obtain ⟨a, vs, rfl, h1, rr⟩ := rx.lst
      cases bools_of rr hl
      exact ⟨a, l, rfl, .inl (.inl h1), q _ _ _ .refl I (.bl _)⟩
  · cases e
theorem cl_all : ClS K (rAll K) fAll := by
  intro S φ H st xs ds d Q I r e q
  unfold fAll at e
  split at e
  · rename_i ds
    cases hl : bools? ds with
    | none => rw [hl] at e; cases e
    | some l =>
      rw [hl] at e
      cases e
      obtain ⟨v, rfl, rx⟩ := pd1 r
      obtain ⟨a, vs, rfl, h1, rr⟩ := rx.lst
      cases bools_of rr hl
      exact ⟨a, l, rfl, .inl (.inl h1), q _ _ _ .refl I (.bl _)⟩
  · cases e
def rTupO (K : PySem.W.Frag) : List V → Hp → VK → Prop := fun xs H Q => ∃ p ys, xs = [.ref p] ∧ ((SqL K H p ys ∧ ∀ l, H l = none → Q (.ref l) (upd H l (.tup ys))) ∨ (SqT K H p ys ∧ Q (.ref p) H))
theorem cl_tup : ClS K (rTupO K) fTup := by
  intro S φ H st xs ds d Q I r e q
  unfold fTup at e
  split at e
  · cases e
    obtain ⟨v, rfl, rx⟩ := pd1 r
    obtain ⟨a, vs, rfl, h1, rr⟩ := rx.lst
    exact ⟨a, vs, rfl, .inl ⟨.inl (.inl h1), fun p hp => q _ _ _ (Stp.alloc hp) (I.alloc hp) (rep_tup I hp rr)⟩⟩
  · cases e
    obtain ⟨v, rfl, rx⟩ := pd1 r
    obtain ⟨a, vs, rfl, h1, rr, p⟩ := rx.tup
    exact ⟨a, vs, rfl, .inr ⟨h1, q _ _ _ .refl I p⟩⟩
  · cases e
/-- what a built-in's name stands for -/
def Blt.val : Blt → Value
  | .int => .type "int"
  | .tup => .type "tuple"
  | b => .builtin b.name
theorem Blt.boot (b : Blt) : bootBuiltins (Str.ofString b.name) = some b.val := by
  cases b <;> decide +kernel
theorem blt_rule (b : Blt) (K : PySem.W.Frag) : ∃ r, (∀ X : Cx, X.K = K → Rm X → CallR X b.val r) ∧ ClS K r (bltD b) := by
  cases b with
  | len => exact ⟨rLen K, fun X e m => by subst e; exact call_len, cl_len⟩
  | int => exact ⟨rInt, fun X e m => call_int1, cl_int⟩
  | abs => exact ⟨_, fun X e m => call_abs, cl_abs⟩
  | max => exact ⟨rMaxA K, fun X e m => by subst e; exact CallR.or (call_max2 m.calm) (cr_max m.calm), cl_max⟩
  | min => exact ⟨rMinA K, fun X e m => by subst e; exact CallR.or (call_min2 m.calm) (CallR.or (cr_min m.calm) (call_min3Nu m.calm)), cl_min⟩
  | sum => exact ⟨rSum K, fun X e m => by subst e; exact cr_sum m.calm, cl_sum⟩
  | any => exact ⟨rAny K, fun X e m => by subst e; exact cr_any m.calm, cl_any⟩
  | all => exact ⟨rAll K, fun X e m => by subst e; exact cr_all m.calm, cl_all⟩
  | tup => exact ⟨rTupO K, fun X e m => by subst e; exact call_tuple_of, cl_tup⟩

/-! ### isinstance -/
def tyOfD : D → Option String
  | .non => some "NoneType"
  | .bl _ => some "bool"
  | .int _ => some "int"
  | .str _ => some "str"
  | .tup _ => some "tuple"
  | .lst _ => some "list"
  | _ => none
theorem tyX_of {n : String} (h : RepD K S φ H v d) (e : tyOfD d = some n) : TyX K H v (.type n) := by
  rcases h with h | ⟨a, vs, ds, rfl, rfl, h, r⟩
  · cases h with
    | non => cases e; exact .base .non
    | bl b => cases e; exact .base (.bl b)
    | int i => cases e; exact .base (.int i)
    | str x => cases e; exact .base (.str x)
    | tup h r =>
      cases e
      rcases h with ⟨_, h⟩ | ⟨o, its, n, hk, hc, _⟩
      · exact .base (.tup h)
      · exact .kTuple hk hc
    | lst _ h r => cases e; exact .base (.lst h)
    | rol _ _ => cases e
    | loc _ => cases e
  · cases e; exact .base (.lst h)
theorem kit_all : ∀ (n : String) (t : Ty) (b : Bool), (n, t, b) ∈ ([("NoneType", .int, false), ("NoneType", .bool, false), ("NoneType", .str, false), ("NoneType", .tup, false), ("NoneType", .lst, false),
    ("bool", .int, true), ("bool", .bool, true), ("bool", .str, false), ("bool", .tup, false), ("bool", .lst, false),
    ("int", .int, true), ("int", .bool, false), ("int", .str, false), ("int", .tup, false), ("int", .lst, false),
    ("str", .int, false), ("str", .bool, false), ("str", .str, true), ("str", .tup, false), ("str", .lst, false),
    ("tuple", .int, false), ("tuple", .bool, false), ("tuple", .str, false), ("tuple", .tup, true), ("tuple", .lst, false),
    ("list", .int, false), ("list", .bool, false), ("list", .str, false), ("list", .tup, false), ("list", .lst, true)] : List (String × Ty × Bool)) → kitB n t.name = some b := by
  intro n t b h
  have : ([("NoneType", .int, false), ("NoneType", .bool, false), ("NoneType", .str, false), ("NoneType", .tup, false), ("NoneType", .lst, false),
    ("bool", .int, true), ("bool", .bool, true), ("bool", .str, false), ("bool", .tup, false), ("bool", .lst, false),
    ("int", .int, true), ("int", .bool, false), ("int", .str, false), ("int", .tup, false), ("int", .lst, false),
    ("str", .int, false), ("str", .bool, false), ("str", .str, true), ("str", .tup, false), ("str", .lst, false),
    ("tuple", .int, false), ("tuple", .bool, false), ("tuple", .str, false), ("tuple", .tup, true), ("tuple", .lst, false),
    ("list", .int, false), ("list", .bool, false), ("list", .str, false), ("list", .tup, false), ("list", .lst, true)] : List (String × Ty × Bool)).all (fun p => decide (kitB p.1 p.2.1.name = some p.2.2)) = true := by decide +kernel
  have q := List.all_eq_true.mp this _ h
  exact of_decide_eq_true q
theorem isi_ok {t : Ty} {b : Bool} (h : RepD K S φ H v d) (e : isiD d t = some b) : ∃ n, TyX K H v (.type n) ∧ PySem.W.kitOne K (.type n) (.type t.name) = some b := by
  have go : ∀ n, tyOfD d = some n → kitB n t.name = some b → ∃ n, TyX K H v (.type n) ∧ PySem.W.kitOne K (.type n) (.type t.name) = some b := fun n e1 e2 => ⟨n, tyX_of h e1, kit_ty e2⟩
  cases d with
  | non => cases e; exact go _ rfl (kit_all _ _ _ (by cases t <;> simp))
  | bl x => cases e; exact go _ rfl (kit_all _ _ _ (by cases t <;> simp))
  | int x => cases e; exact go _ rfl (kit_all _ _ _ (by cases t <;> simp))
  | str x => cases e; exact go _ rfl (kit_all _ _ _ (by cases t <;> simp))
  | tup x => cases e; exact go _ rfl (kit_all _ _ _ (by cases t <;> simp))
  | lst x => cases e; exact go _ rfl (kit_all _ _ _ (by cases t <;> simp))
  | rol x => cases e
  | loc x => cases e
theorem Ty.boot (t : Ty) : bootBuiltins (Str.ofString t.name) = some (.type t.name) := by
  cases t <;> decide +kernel
end
end PV
set_option maxRecDepth 100000
/-! The row's trees against the code. -/
namespace PV
open PySem L2
/-- a def's names: slots; the program's: defs with their arity, constants, built-ins that stand as they are -/
structure MC where
  N : List Str
  fs : List (Str × Nat)
  gn : List Str
  fr : List Str
  /-- methods: class, name, def, arity (without self) -/
  ms : List (Str × Str × Nat × Nat) := []
  /-- classes made: name, the def of __init__, arity -/
  cl : List (Str × Nat × Nat) := []
  /-- names that are no attributes of a class -/
  na : List (Str × Str) := []
  /-- own exceptions that are raised -/
  xs : List Str := []
def visB (sc : Scope) (x : Str) : Bool := match sc.names.lookup x with
  | some .local => true
  | some .cell => true
  | some .free => true
  | _ => false
def locB (sc : Scope) (x : Str) : Bool := match sc.names.lookup x with
  | some .local => true
  | some .cell => true
  | _ => false
def glB (sc : Scope) (x : Str) : Bool := match sc.names.lookup x with
  | some .globalImplicit => true
  | _ => false
def okN (x : Str) : Bool := !(x == ("__debug__" : Str)) && !(x == ("__classdict__" : Str)) && !(x == ("__name__" : Str))
def Exs.len : Exs → Nat
  | .nil => 0
  | .c _ es => es.len + 1
mutual
/-- what may stand as a test -/
def tstB : Ex → Bool
  | .ite _ _ _ => false
  | .fz _ => false
  | .alloc _ => false
  | .tup _ => false
  | .not a => tstB a
  | .bop _ es => tstsB es
  | _ => true
def tstsB : Exs → Bool
  | .nil => true
  | .c e es => tstB e && tstsB es
end
mutual
def tgIn (vs : List Nat) : Tg → Bool
  | .nm i => vs.contains i
  | .tp ts => tgsIn vs ts
def tgsIn (vs : List Nat) : Tgs → Bool
  | .nil => true
  | .c t ts => tgIn vs t && tgsIn vs ts
end
def ownOf (N : List Str) (vs : List Nat) : List (Str × Nat) := vs.filterMap fun i => N[i]?.map fun x => (x, i)
section
variable (m : MC)
mutual
def mT (fb : Str → Bool) (sc : Scope) : Tg → Expr → Bool
  | .nm i, e => match e with
    | .Name x _ => decide (m.N[i]? = some x) && locB sc x && (fb x || decide (sc.names.lookup x = some .local))
    | _ => false
  | .tp ts, e => match e with
    | .Tuple xs _ _ => mTs fb sc ts xs
    | _ => false
def mTs (fb : Str → Bool) (sc : Scope) : Tgs → List Expr → Bool
  | .nil, xs => match xs with
    | [] => true
    | _ => false
  | .c t ts, xs => match xs with
    | x :: xs => mT fb sc t x && mTs fb sc ts xs
    | _ => false
end
def fbC (scope : Scope) : Str → Bool := fun x => scope.names.lookup x == some .cell
def bopOf : Bool → PySem.BoolOp
  | true => .And
  | false => .Or
def isNameE : Expr → Bool
  | .Name _ _ => true
  | _ => false
def isTupE : Expr → Bool
  | .Tuple _ _ _ => true
  | _ => false
mutual
def mE : Ex → Scope → Expr → Bool
  | .var i, sc, e => match e with
    | .Name x _ => decide (m.N[i]? = some x) && visB sc x && okN x
    | _ => false
  | .int i, _, e => match e with
    | .Constant (.int j) _ _ => decide (i = j)
    | _ => false
  | .str x, _, e => match e with
    | .Constant (.str y) _ _ => decide (x = y)
    | _ => false
  | .bl b, _, e => match e with
    | .Constant (.bool c) _ _ => decide (b = c)
    | _ => false
  | .non, _, e => match e with
    | .Constant .none _ _ => true
    | _ => false
  | .gl k, sc, e => match e with
    | .Name x _ => decide (m.gn[k]? = some x) && glB sc x && okN x
    | _ => false
  | .tup es, sc, e => match e with
    | .Tuple xs _ _ => mEs es sc xs && decide (es.len ≤ 1000)
    | _ => false
  | .fz f, sc, e => mF f sc e
  | .alloc f, sc, e => mF f sc e
  | .bin op a b, sc, e => match e with
    | .BinOp x p y _ => decide (op.py = p) && mE a sc x && mE b sc y
    | _ => false
  | .neg a, sc, e => match e with
    | .UnaryOp .USub x _ => mE a sc x
    | _ => false
  | .not a, sc, e => match e with
    | .UnaryOp .Not x _ => mE a sc x
    | _ => false
  | .cmp op a b, sc, e => match e with
    | .Compare x [p] [y] _ => decide (op.py = p) && !(behindInMarks op.py y) && mE a sc x && mE b sc y
    | _ => false
  | .chn op op' a b c, sc, e => match e with
    | .Compare x [p, q] [y, z] _ => decide (op.py = p) && decide (op'.py = q) && !(behindInMarks op'.py z) && mE a sc x && mE b sc y && mE c sc z
    | _ => false
  | .bop and es, sc, e => match e with
    | .BoolOp op xs _ => decide (op = bopOf and) && mEs es sc xs
    | _ => false
  | .ite c a b, sc, e => match e with
    | .IfExp t x y _ => mE c sc t && tstB c && mE a sc x && mE b sc y
    | _ => false
  | .idx a i, sc, e => match e with
    | .Subscript x y _ => mE a sc x && mE i sc y
    | _ => false
  | .slc a lo hi, sc, e => match e with
    | .Subscript x (.Slice l h none _) _ => mE a sc x && mO lo sc l && mO hi sc h
    | _ => false
  | .rev a, sc, e => match e with
    | .Subscript x (.Slice none none (some (.UnaryOp .USub (.Constant (.int 1) _ _) _)) _) _ => mE a sc x
    | _ => false
  | .call f es, sc, e => match e with
    | .Call (.Name x _) xs [] _ => decide (m.fs[f]? = some (x, xs.length)) && glB sc x && okN x && mEs es sc xs
    | _ => false
  | .blt b es, sc, e => match e with
    | .Call (.Name x _) (y :: ys) [] _ => decide (x = Str.ofString b.name) && decide (x ∈ m.fr) && glB sc x && okN x && mEs es sc (y :: ys)
    | _ => false
  | .isi a t, sc, e => match e with
    | .Call (.Name x _) [y, .Name z _] [] _ => decide (x = ("isinstance" : Str)) && decide (x ∈ m.fr) && glB sc x && okN x && decide (z = Str.ofString t.name) && decide (z ∈ m.fr) && glB sc z && okN z && mE a sc y
    | _ => false
  | .popL i oe, sc, e => match e with
    | .Call (.Attribute (.Name x _) a apos) xs [] cpos => decide (m.N[i]? = some x) && visB sc x && okN x && decide (a = ("pop" : Str)) && (apos.endLine == cpos.line) && (match xs with
      | [] => mO oe sc none
      | [y] => mO oe sc (some y)
      | _ => false)
    | _ => false
  | .fld a f, sc, e => match e with
    | .Attribute x g _ => decide (f = g) && isNameE x && mE a sc x
    | _ => false
  | .mth x a f k es, sc, e => match e with
    | .Call (.Attribute o g apos) xs [] cpos => decide (f = g) && decide ((x, f, k, xs.length) ∈ m.ms) && isNameE o && (apos.endLine == cpos.line) && decide (xs.length < 30) && mE a sc o && mEs es sc xs
    | _ => false
  | .new x k es, sc, e => match e with
    | .Call (.Name y _) (z :: zs) [] _ => decide (x = y) && decide ((x, k, zs.length + 1) ∈ m.cl) && glB sc x && okN x && mEs es sc (z :: zs)
    | _ => false
def mEs : Exs → Scope → List Expr → Bool
  | .nil, _, xs => match xs with
    | [] => true
    | _ => false
  | .c e es, sc, xs => match xs with
    | x :: xs => mE e sc x && mEs es sc xs
    | _ => false
def mO : OEx → Scope → Option Expr → Bool
  | .n, _, e => match e with
    | none => true
    | _ => false
  | .s c, sc, e => match e with
    | some x => mE c sc x
    | _ => false
def mC : OEx → Scope → List Expr → Bool
  | .n, _, es => match es with
    | [] => true
    | _ => false
  | .s c, sc, es => match es with
    | [x] => mE c sc x && tstB c
    | _ => false
def mF : Fx → Scope → Expr → Bool
  | .dsp es, sc, e => match e with
    | .List xs _ => mEs es sc xs && decide (es.len ≤ 1000)
    | _ => false
  | .cp1 elt tg it cond vs, sc, e => match e with
    | .ListComp x [⟨t, i, ifs, a⟩] scope _ => decide (a = 0) && mI it sc t i && blkC m.N sc scope (ownOf m.N vs) && decide ((ownOf m.N vs).map (·.2) = vs) && tgIn vs tg && mT m (fbC scope) (relS scope sc) tg t && mC cond (relS scope sc) ifs && mE elt (relS scope sc) x
    | _ => false
  | .cp2 elt tg it cond tg1 it1 cond1 vs vs1, sc, e => match e with
    | .ListComp x [⟨t, i, ifs, a⟩, ⟨t1, i1, ifs1, a1⟩] scope _ => decide (a = 0) && decide (a1 = 0) && mI it sc t i && blkC m.N sc scope (ownOf m.N vs) && decide ((ownOf m.N vs).map (·.2) = vs) && vs1.all (fun j => vs.contains j) && tgIn vs tg && tgIn vs1 tg1
        && mT m (fbC scope) (relS scope sc) tg t && mC cond (relS scope sc) ifs && mI it1 (relS scope sc) t1 i1 && mT m (fbC scope) (relS scope sc) tg1 t1 && mC cond1 (relS scope sc) ifs1 && mE elt (relS scope sc) x
    | _ => false
  | .lrg a, sc, e => match e with
    | .Call (.Name x _) [.Call (.Name y _) [z] [] _] [] _ => decide (x = ("list" : Str)) && decide (x ∈ m.fr) && glB sc x && okN x && decide (y = ("range" : Str)) && decide (y ∈ m.fr) && glB sc y && okN y && mE a sc z
    | _ => false
  | .lof a, sc, e => match e with
    | .Call (.Name x _) [y] [] _ => decide (x = ("list" : Str)) && decide (x ∈ m.fr) && glB sc x && okN x && mE a sc y
    | _ => false
def mI : Src → Scope → Expr → Expr → Bool
  | .seq a, sc, _, e => mE a sc e
  | .rg1 a, sc, _, e => match e with
    | .Call (.Name x _) [y] [] _ => decide (x = ("range" : Str)) && decide (x ∈ m.fr) && glB sc x && okN x && mE a sc y
    | _ => false
  | .rg2 a b, sc, _, e => match e with
    | .Call (.Name x _) [y, z] [] _ => decide (x = ("range" : Str)) && decide (x ∈ m.fr) && glB sc x && okN x && mE a sc y && mE b sc z
    | _ => false
  | .rg3 a b c, sc, _, e => match e with
    | .Call (.Name x _) [y, z, z2] [] _ => decide (x = ("range" : Str)) && decide (x ∈ m.fr) && glB sc x && okN x && mE a sc y && mE b sc z && mE c sc z2
    | _ => false
  | .enm a, sc, t, e => match e with
    | .Call (.Name x _) [y] [] _ => isTupE t && decide (x = ("enumerate" : Str)) && decide (x ∈ m.fr) && glB sc x && okN x && mE a sc y
    | _ => false
  | .zip a b, sc, t, e => match e with
    | .Call (.Name x _) [y, z] [] _ => isTupE t && decide (x = ("zip" : Str)) && decide (x ∈ m.fr) && glB sc x && okN x && mE a sc y && mE b sc z
    | _ => false
end
end
end PV
set_option maxRecDepth 100000
set_option maxHeartbeats 4000000
/-! Expressions: what matches is read as the evaluator evaluates. -/
namespace PV
open PySem PySem.Spec PyProof.Rows L2
structure Ctx where
  P : Program
  w : World
  K : PySem.W.Frag
  mg : Str → Option Value
  base : Heap
  k : Nat
  cf : Nat → List D → Sto → Out D
  gs : List D
  m : MC
/-- the promise of the def f -/
def FinR (K : PySem.W.Frag) (S : Addr → Prop) (φ : List Addr) (H : Hp) (E : XK) : Out D → Prop
  | .ok (.tup [.str x, d]) st' => ∀ H' S' φ' q v, Stp S φ H S' φ' H' → SI K S' φ' H' st' → H' q = some (.xd [("step", v)]) → Rep K S' φ' H' v d → E (.ref (He.ga K x)) (some q) H'
  | _ => False
def spF (K : PySem.W.Frag) (cf : Nat → List D → Sto → Out D) (f : Nat) : Sp := fun vs H Q E => ∃ S φ st ds, SI K S φ H st ∧ RepL K S φ H vs ds ∧ (FinE K false S φ H Q (cf f ds st) ∨ (cf f ds st = .err ∧ FinR K S φ H E (cf (RX + f) ds st)))
/-- an own exception that is raised -/
structure XOk (P : Program) (w : World) (K : PySem.W.Frag) (mg : Str → Option Value) (base : Heap) (x : Str) : Prop where
  g : mg x = some (.ref (He.ga K x))
  oex : OexC K (He.ga K x)
  make : ∃ fI fd, PySem.W.findIn K (.ref (He.ga K x)) "__init__" = some (some (.ref fI)) ∧ PySem.W.typeIn K (.ref fI) = some (.type "function") ∧ FnOk P w K mg base (L2.CX P w) 1 fI fd ["self", "step"] (spX K (He.ga K x)) ∧ Binds K fd ["self", "step"] []
  exm : PySem.W.exmOne K (.ref (He.ga K x)) (.ref (He.ga K x)) = some true
structure CtxOk (Γ : Ctx) : Prop where
  kk : 1 ≤ Γ.k
  xs : ∀ x ∈ Γ.m.xs, XOk Γ.P Γ.w Γ.K Γ.mg Γ.base x
  nd : Γ.m.N.Nodup
  fn : ∀ f x n, Γ.m.fs[f]? = some (x, n) → ∃ a fd ps, Γ.mg x = some (.ref a) ∧ PySem.W.keepIn Γ.K (.ref a) = true ∧ Binds Γ.K fd ps [] ∧ FnOk Γ.P Γ.w Γ.K Γ.mg Γ.base (L2.CX Γ.P Γ.w) Γ.k a fd ps (spF Γ.K Γ.cf f)
  gl : ∀ (k : Nat) x d, Γ.m.gn[k]? = some x → Γ.gs[k]? = some d → ∃ v u, Γ.mg x = some u ∧ RelV v u ∧ Rep Γ.K (fun _ => False) [] (fun _ => none) v d
  fr : ∀ x ∈ Γ.m.fr, Γ.mg x = none
  ms : ∀ x f k n, (x, f, k, n) ∈ Γ.m.ms → ∃ a fd ps, Cls Γ.K (He.ga Γ.K x) ∧ Meth Γ.K (He.ga Γ.K x) f a ∧ Binds Γ.K fd ps [] ∧ FnOk Γ.P Γ.w Γ.K Γ.mg Γ.base (L2.CX Γ.P Γ.w) Γ.k a fd ps (spF Γ.K Γ.cf k)
  cl : ∀ x k n, (x, k, n) ∈ Γ.m.cl → Γ.mg x = some (.ref (He.ga Γ.K x)) ∧ Cls Γ.K (He.ga Γ.K x) ∧ ∃ a fd ps, Mk Γ.K (He.ga Γ.K x) a ∧ Binds Γ.K fd ps [] ∧ FnOk Γ.P Γ.w Γ.K Γ.mg Γ.base (L2.CX Γ.P Γ.w) Γ.k a fd ps (spF Γ.K Γ.cf k)
  na : ∀ x f, (x, f) ∈ Γ.m.na → NoAttr Γ.K (He.ga Γ.K x) f
/-- where an expression stands: its scope, the names whose cells were made at the entry -/
structure LC where
  sc : Scope
  fb : Str → Bool
  xk : XK
structure Good (Γ : Ctx) (L : LC) (X : Cx) : Prop where
  prog : X.prog = Γ.P
  w : X.w = Γ.w
  K : X.K = Γ.K
  mg : X.mg = Γ.mg
  base : X.base = Γ.base
  N : X.N = Γ.m.N
  calm : X.calm = true
  room : Room (Γ.k + 1) X.A
  sc : X.env.scope = L.sc
  fn : X.fn = L.fb
theorem Good.rm {Γ : Ctx} {L : LC} {X : Cx} (g : Good Γ L X) : Rm X := ⟨g.calm, by have := g.room.un; omega⟩
def SE (Γ : Ctx) (L : LC) (o : Bool) (e : Expr) (m : Env → Sto → Out D) : Prop :=
  ∃ t : TE, (∀ X, Good Γ L X → PE X e t) ∧ ∀ σ H env st S φ Q, EI Γ.K S φ H σ env → SI Γ.K S φ H st → FinE Γ.K o S φ H Q (m env st) → t σ H Q
def ST (Γ : Ctx) (L : LC) (e : Expr) (m : Env → Sto → Out Bool) : Prop :=
  ∃ t : TT, (∀ X, Good Γ L X → PT X e t) ∧ ∀ σ H env st S φ Q, EI Γ.K S φ H σ env → SI Γ.K S φ H st → FinB Γ.K S φ H Q (m env st) → t σ H Q
def SL (Γ : Ctx) (L : LC) (o : Bool) (es : List Expr) (m : Env → Sto → Out (List D)) : Prop :=
  ∃ t : TA, (∀ X, Good Γ L X → PA X es t) ∧ ∀ σ H env st S φ Q, EI Γ.K S φ H σ env → SI Γ.K S φ H st → FinL Γ.K o S φ H Q (m env st) → t σ H Q
def SO' (Γ : Ctx) (L : LC) (e : Option Expr) (m : Env → Sto → Out (Option Int)) : Prop :=
  ∃ t : TO, (∀ X, Good Γ L X → PO X e t) ∧ ∀ σ H env st S φ Q, EI Γ.K S φ H σ env → SI Γ.K S φ H st → FinB Γ.K S φ H Q (m env st) → t σ H Q
def SC (Γ : Ctx) (L : LC) (es : List Expr) (m : Env → Sto → Out Bool) : Prop :=
  ∃ t : TT, (∀ X, Good Γ L X → PTs X es t) ∧ ∀ σ H env st S φ Q, EI Γ.K S φ H σ env → SI Γ.K S φ H st → FinB Γ.K S φ H Q (m env st) → t σ H Q
/-- a new list of one's own -/
def FinF (K : PySem.W.Frag) (S : Addr → Prop) (φ : List Addr) (H : Hp) (Q : VK) : Out (List D) → Prop
  | .ok ds st' => ∀ a vs H' S' φ', Stp S φ H S' φ' H' → SI K S' φ' H' st' → H a = none → ¬ S' a → a ∉ φ' → H' a = some (.lst vs) → RepL K S' φ' H' vs ds → Q (.ref a) H'
  | .err => False
def SF (Γ : Ctx) (L : LC) (e : Expr) (m : Env → Sto → Out (List D)) : Prop :=
  ∃ t : TE, (∀ X, Good Γ L X → PE X e t) ∧ ∀ σ H env st S φ Q, EI Γ.K S φ H σ env → SI Γ.K S φ H st → FinF Γ.K S φ H Q (m env st) → t σ H Q
/-- an iterator that gives ds, while what it leans on stands -/
def JOk (K : PySem.W.Frag) (o : Bool) (S : Addr → Prop) (φ : List Addr) (H : Hp) (J : It) (ds : List D) : Prop :=
  ∃ wt : List Addr, (∀ a ∈ wt, H a ≠ none ∧ a ∉ φ ∧ (o = false → S a)) ∧
    ∀ S2 φ2 H2, (∀ a ∈ wt, H2 a = H a) → (∀ a, S a → H2 a = H a) → (∀ a, S a → S2 a) → (∃ ψ, φ2 = φ ++ ψ) →
      (∀ i, i < ds.length → J.go i H2) ∧ J.stop ds.length H2 ∧ ∀ (i : Nat) d x H3, ds[i]? = some d → J.yld i H2 x H3 → ∀ st2, SI K S2 φ2 H2 st2 →
        ∃ S3, Stp S2 φ2 H2 S3 φ2 H3 ∧ SI K S3 φ2 H3 st2 ∧ Rep K S3 φ2 H3 x d
def FinS (K : PySem.W.Frag) (o : Bool) (S : Addr → Prop) (φ : List Addr) (H : Hp) (R : It → Hp → Prop) : Out (List D) → Prop
  | .ok ds st' => ∀ J H' S' φ', Stp S φ H S' φ' H' → SI K S' φ' H' st' → JOk K o S' φ' H' J ds → R J H'
  | .err => False
def SS (Γ : Ctx) (L : LC) (o : Bool) (tg e : Expr) (m : Env → Sto → Out (List D)) : Prop :=
  ∃ t : TI, (∀ X, Good Γ L X → PI X tg e t) ∧ ∀ σ H env st S φ R, EI Γ.K S φ H σ env → SI Γ.K S φ H st → FinS Γ.K o S φ H R (m env st) → t σ H R
/-- the lists of one's own stand where they stood -/
def Kept (env : Env) (σ : L2.St) (env' : Env) (σ' : L2.St) : Prop := ∀ (i : Nat) ds, env'[i]? = some (some (.own ds)) → env[i]? = some (some (.own ds)) ∧ σ'[i]? = σ[i]?
theorem Kept.trans {env env1 env2 : Env} {σ σ1 σ2 : L2.St} (h : Kept env σ env1 σ1) (k : Kept env1 σ1 env2 σ2) : Kept env σ env2 σ2 := fun i ds e =>
  let ⟨a, b⟩ := k i ds e
  let ⟨c, d⟩ := h i ds a
  ⟨c, b.trans d⟩
def SG (Γ : Ctx) (L : LC) (tg : Expr) (c : Tg) : Prop :=
  ∃ g : TG, (∀ X, Good Γ L X → PG X tg g) ∧ ∀ v d σ H env env' S φ st (Q : L2.St → Hp → Prop), EI Γ.K S φ H σ env → SI Γ.K S φ H st → Rep Γ.K S φ H v d → bindT c d env = some env' →
    (∀ σ', ((∀ vs, tgIn vs c = true → wipe σ' vs = wipe σ vs) ∧ Kept env σ env' σ') → EI Γ.K S φ H σ' env' → Q σ' H) → g v σ H Q
section
variable {Γ : Ctx} {L : LC} {o : Bool} {e a b : Expr}
/-! ### outcomes in a row -/
theorem FinE.bind {α : Type} {K : PySem.W.Frag} {S : Addr → Prop} {φ : List Addr} {H : Hp} {Q : VK} {m : Out α} {f : α → Sto → Out D} (h : FinE K o S φ H Q (m.bind f)) : ∃ x st, m = .ok x st ∧ FinE K o S φ H Q (f x st) := by
  cases m with
  | ok x st => exact ⟨x, st, rfl, h⟩
  | err => exact h.elim
theorem FinL.bind {α : Type} {K : PySem.W.Frag} {S : Addr → Prop} {φ : List Addr} {H : Hp} {Q : List V → Hp → Prop} {m : Out α} {f : α → Sto → Out (List D)} (h : FinL K o S φ H Q (m.bind f)) : ∃ x st, m = .ok x st ∧ FinL K o S φ H Q (f x st) := by
  cases m with
  | ok x st => exact ⟨x, st, rfl, h⟩
  | err => exact h.elim
theorem FinB.bind {α β : Type} {K : PySem.W.Frag} {S : Addr → Prop} {φ : List Addr} {H : Hp} {Q : β → Hp → Prop} {m : Out α} {f : α → Sto → Out β} (h : FinB K S φ H Q (m.bind f)) : ∃ x st, m = .ok x st ∧ FinB K S φ H Q (f x st) := by
  cases m with
  | ok x st => exact ⟨x, st, rfl, h⟩
  | err => exact h.elim
theorem FinF.bind {α : Type} {K : PySem.W.Frag} {S : Addr → Prop} {φ : List Addr} {H : Hp} {Q : VK} {m : Out α} {f : α → Sto → Out (List D)} (h : FinF K S φ H Q (m.bind f)) : ∃ x st, m = .ok x st ∧ FinF K S φ H Q (f x st) := by
  cases m with
  | ok x st => exact ⟨x, st, rfl, h⟩
  | err => exact h.elim
theorem FinS.bind {α : Type} {K : PySem.W.Frag} {S : Addr → Prop} {φ : List Addr} {H : Hp} {R : It → Hp → Prop} {m : Out α} {f : α → Sto → Out (List D)} (h : FinS K o S φ H R (m.bind f)) : ∃ x st, m = .ok x st ∧ FinS K o S φ H R (f x st) := by
  cases m with
  | ok x st => exact ⟨x, st, rfl, h⟩
  | err => exact h.elim
theorem FinF.stp {K : PySem.W.Frag} {S S' : Addr → Prop} {φ φ' : List Addr} {H H' : Hp} {Q : VK} {m : Out (List D)} (x : Stp S φ H S' φ' H') (h : FinF K S φ H Q m) : FinF K S' φ' H' Q m := by
  cases m with
  | ok d st => exact fun a vs H2 S2 φ2 p q r => h a vs H2 S2 φ2 (x.trans p) q (x.free r)
  | err => exact h
theorem FinS.stp {K : PySem.W.Frag} {S S' : Addr → Prop} {φ φ' : List Addr} {H H' : Hp} {R : It → Hp → Prop} {m : Out (List D)} (x : Stp S φ H S' φ' H') (h : FinS K o S φ H R m) : FinS K o S' φ' H' R m := by
  cases m with
  | ok d st => exact fun J H2 S2 φ2 p q => h J H2 S2 φ2 (x.trans p) q
  | err => exact h
theorem lift_ok {α : Type} {x : Option α} {s : Sto} {a : α} {s' : Sto} (h : lift x s = .ok a s') : x = some a ∧ s' = s := by
  cases x with
  | none => cases h
  | some y => cases h; exact ⟨rfl, rfl⟩
theorem FinE.lift {K : PySem.W.Frag} {S : Addr → Prop} {φ : List Addr} {H : Hp} {Q : VK} {x : Option D} {s : Sto} (h : FinE K o S φ H Q (lift x s)) : ∃ d, x = some d ∧ FinE K o S φ H Q (.ok d s) := by
  cases x with
  | none => exact h.elim
  | some y => exact ⟨y, rfl, h⟩
theorem FinB.lift {α : Type} {K : PySem.W.Frag} {S : Addr → Prop} {φ : List Addr} {H : Hp} {Q : α → Hp → Prop} {x : Option α} {s : Sto} (h : FinB K S φ H Q (lift x s)) : ∃ d, x = some d ∧ FinB K S φ H Q (.ok d s) := by
  cases x with
  | none => exact h.elim
  | some y => exact ⟨y, rfl, h⟩
/-- a part evaluated: then the rest from where it came to -/
theorem SE.use {t : TE} {m : Env → Sto → Out D} (h : ∀ σ H env st S φ Q, EI Γ.K S φ H σ env → SI Γ.K S φ H st → FinE Γ.K o S φ H Q (m env st) → t σ H Q)
    {σ : L2.St} {H : Hp} {env : Env} {st st' : Sto} {S : Addr → Prop} {φ : List Addr} {Q : VK} {d : D} (E : EI Γ.K S φ H σ env) (I : SI Γ.K S φ H st) (em : m env st = .ok d st')
    (q : ∀ v H' S' φ', Stp S φ H S' φ' H' → EI Γ.K S' φ' H' σ env → SI Γ.K S' φ' H' st' → RepM o Γ.K S' φ' H' v d → Q v H') : t σ H Q :=
  h σ H env st S φ Q E I (by rw [em]; exact fun v H' S' φ' x I' r => q v H' S' φ' x (E.mono x I) I' r)
theorem SB.use {α : Type} {t : L2.St → Hp → (α → Hp → Prop) → Prop} {m : Env → Sto → Out α} (h : ∀ σ H env st S φ Q, EI Γ.K S φ H σ env → SI Γ.K S φ H st → FinB Γ.K S φ H Q (m env st) → t σ H Q)
    {σ : L2.St} {H : Hp} {env : Env} {st st' : Sto} {S : Addr → Prop} {φ : List Addr} {Q : α → Hp → Prop} {d : α} (E : EI Γ.K S φ H σ env) (I : SI Γ.K S φ H st) (em : m env st = .ok d st')
    (q : ∀ H' S' φ', Stp S φ H S' φ' H' → EI Γ.K S' φ' H' σ env → SI Γ.K S' φ' H' st' → Q d H') : t σ H Q :=
  h σ H env st S φ Q E I (by rw [em]; exact fun H' S' φ' x I' => q H' S' φ' x (E.mono x I) I')
theorem SLL.use {t : TA} {m : Env → Sto → Out (List D)} (h : ∀ σ H env st S φ Q, EI Γ.K S φ H σ env → SI Γ.K S φ H st → FinL Γ.K o S φ H Q (m env st) → t σ H Q)
    {σ : L2.St} {H : Hp} {env : Env} {st st' : Sto} {S : Addr → Prop} {φ : List Addr} {Q : List V → Hp → Prop} {d : List D} (E : EI Γ.K S φ H σ env) (I : SI Γ.K S φ H st) (em : m env st = .ok d st')
    (q : ∀ vs H' S' φ', Stp S φ H S' φ' H' → EI Γ.K S' φ' H' σ env → SI Γ.K S' φ' H' st' → Paired (RepM o Γ.K S' φ' H') vs d → Q vs H') : t σ H Q :=
  h σ H env st S φ Q E I (by rw [em]; exact fun v H' S' φ' x I' r => q v H' S' φ' x (E.mono x I) I' r)

/-! ### names, constants -/
theorem okN_of {x : Str} (h : okN x = true) : (x == ("__debug__" : Str)) = false ∧ (x == ("__classdict__" : Str)) = false ∧ x ≠ "__name__" := by
  unfold okN at h
  simp only [Bool.and_eq_true, Bool.not_eq_true'] at h
  exact ⟨h.1.1, h.1.2, fun e => by have := h.2; rw [e] at this; simp at this⟩
theorem vis_of {sc : Scope} {x : Str} (h : visB sc x = true) : Vis sc x := by
  unfold visB at h
  split at h
  · rename_i e; exact .inl e
  · rename_i e; exact .inr (.inl e)
  · rename_i e; exact .inr (.inr e)
  · cases h
theorem loc_of {sc : Scope} {x : Str} (h : locB sc x = true) : Loc sc x := by
  unfold locB at h
  split at h
  · rename_i e; exact .inl e
  · rename_i e; exact .inr e
  · cases h
theorem gl_of {sc : Scope} {x : Str} (h : glB sc x = true) : sc.names.lookup x = some .globalImplicit := by
  unfold glB at h
  split at h
  · assumption
  · cases h
theorem Good.gl {X : Cx} (g : Good Γ L X) {x : Str} (h : glB L.sc x = true) : Gl X x := by
  show X.env.scope.names.lookup x = _
  rw [g.sc]; exact gl_of h
theorem se_var {i : Nat} (cf gs) (h : mE Γ.m (.var i) L.sc e = true) : SE Γ L o e (ev cf gs o (.var i)) := by
  unfold mE at h
  split at h
  · rename_i x pos
    simp only [Bool.and_eq_true, decide_eq_true_eq] at h
    obtain ⟨⟨h1, h2⟩, h3⟩ := h
    obtain ⟨n1, n2, _⟩ := okN_of h3
    refine ⟨tVar i, fun X g => pe_var (by rw [g.N]; exact h1) (by rw [g.sc]; exact vis_of h2) n1 n2, fun σ H env st S φ Q E I f => ?_⟩
    unfold ev at f
    split at f
    · rename_i d he
      obtain ⟨v, e1, r⟩ := E.val i d he
      exact ⟨v, e1, f v H S φ .refl I (.inl r)⟩
    · rename_i ds he
      split at f
      · rename_i ho
        obtain ⟨a, vs, e1, e2, _, e4, r⟩ := E.own i ds he
        exact ⟨_, e1, f _ H S φ .refl I (.inr ⟨ho, a, vs, ds, rfl, rfl, e4, e2, r⟩)⟩
      · exact f.elim
    · exact f.elim
  · cases h
theorem se_const {v : V} {d : D} {m : Env → Sto → Out D} (hp : ∀ X : Cx, PE X e (tC v)) (hm : ∀ env s, m env s = .ok d s) (r : ∀ K S φ H, Rep K S φ H v d) : SE Γ L o e m :=
  ⟨tC v, fun X _ => hp X, fun σ H env st S φ Q E I f => by rw [hm] at f; exact f v H S φ .refl I (.inl (r _ _ _ _))⟩
theorem se_gl (Γok : CtxOk Γ) {k : Nat} (h : mE Γ.m (.gl k) L.sc e = true) : SE Γ L o e (ev Γ.cf Γ.gs o (.gl k)) := by
  unfold mE at h
  split at h
  · rename_i x pos
    simp only [Bool.and_eq_true, decide_eq_true_eq] at h
    obtain ⟨⟨h1, h2⟩, h3⟩ := h
    obtain ⟨n1, n2, _⟩ := okN_of h3
    cases hg : Γ.gs[k]? with
    | none => exact ⟨fun _ _ _ => False, fun X g => ⟨fun _ _ _ _ _ _ q => q.elim⟩, fun σ H env st S φ Q E I f => by unfold ev at f; rw [hg] at f; exact f⟩
    | some d =>
      obtain ⟨v, u, e1, e2, r⟩ := Γok.gl k x d h1 hg
      refine ⟨tC v, fun X g => pe_glob (g.gl h2) (by rw [g.mg]; exact e1) e2 n1, fun σ H env st S φ Q E I f => ?_⟩
      unfold ev at f
      rw [hg] at f
      exact f v H S φ .refl I (.inl r.ofK)
  · cases h

/-! ### lists of expressions -/
theorem star_of {m : MC} {c : Ex} {sc : Scope} {es : List Expr} {env : PySem.Env} (h : mE m c sc e = true) : starEach (e :: es) env = (false, eval e env) :: starEach es env := by
  cases e with
  | Starred x p =>
    exfalso
    cases c with
    | fz f => unfold mE at h; cases f <;> simp [mF] at h
    | alloc f => unfold mE at h; cases f <;> simp [mF] at h
    | _ => simp [mE] at h
  | _ => rfl
theorem sl_nil {cf gs} : SL Γ L o [] (evL cf gs o .nil) :=
  ⟨tNil, fun X _ => pa_nil, fun σ H env st S φ Q E I f => by unfold evL at f; exact f [] H S φ .refl I .nil⟩
theorem sl_cons {c : Ex} {cs : Exs} {es : List Expr} {cf gs} (hs : ∀ env, starEach (e :: es) env = (false, eval e env) :: starEach es env) (h1 : SE Γ L o e (ev cf gs o c)) (h2 : SL Γ L o es (evL cf gs o cs)) : SL Γ L o (e :: es) (evL cf gs o (.c c cs)) := by
  obtain ⟨t1, p1, q1⟩ := h1
  obtain ⟨t2, p2, q2⟩ := h2
  refine ⟨tCons t1 t2, fun X g => pa_cons (p1 X g) (p2 X g) (hs _), fun σ H env st S φ Q E I f => ?_⟩
  unfold evL at f
  obtain ⟨d, s1, e1, f⟩ := f.bind
  obtain ⟨ds, s2, e2, f⟩ := f.bind
  refine SE.use q1 E I e1 fun v H1 S1 φ1 x1 E1 I1 r1 => ?_
  refine SLL.use q2 E1 I1 e2 fun vs H2 S2 φ2 x2 E2 I2 r2 => ?_
  exact f _ H2 S2 φ2 (x1.trans x2) I2 (.cons (r1.mono x2 I1) r2)
theorem reps_of {K : PySem.W.Frag} {S : Addr → Prop} {φ : List Addr} {H : Hp} : ∀ {vs : List V} {ds : List D}, Paired (RepM false K S φ H) vs ds → RepL K S φ H vs ds
  | _, _, .nil => .nil
  | _, _, .cons a b => .cons a.val (reps_of b)
theorem evL_len {cf gs} : ∀ {es : Exs} {env : Env} {st st' : Sto} {ds : List D}, evL cf gs o es env st = .ok ds st' → ds.length = es.len
  | .nil, _, _, _, _, h => by unfold evL at h; cases h; rfl
  | .c e es, env, st, _, ds, h => by
    unfold evL at h
    cases h1 : ev cf gs o e env st with
    | err => rw [h1] at h; cases h
    | ok d s1 =>
      rw [h1] at h
      cases h2 : evL cf gs o es env s1 with
      | err => simp only [Out.bind, h2] at h; cases h
      | ok r s2 =>
        simp only [Out.bind, h2] at h
        cases h
        simp only [List.length_cons, Exs.len, evL_len h2]
theorem se_tup {es : Exs} {xs : List Expr} {k : Nat} {pos : Pos} {cf gs} (hz : es.len ≤ 1000) (h : SL Γ L false xs (evL cf gs false es)) : SE Γ L o (.Tuple xs k pos) (ev cf gs o (.tup es)) := by
  obtain ⟨t, p, q⟩ := h
  refine ⟨tTup t, fun X g => pe_tup (p X g), fun σ H env st S φ Q E I f => ?_⟩
  unfold ev at f
  obtain ⟨ds, s1, e1, f⟩ := f.bind
  refine SLL.use q E I e1 fun vs H1 S1 φ1 x1 E1 I1 r1 => ?_
  have r := reps_of r1
  refine ⟨by rw [line_eq, r.length, evL_len e1]; show _ ≤ 16777216; omega, fun a ha => ?_⟩
  exact f _ _ _ _ (x1.trans (Stp.alloc ha)) (I1.alloc ha) (.inl (rep_tup I1 ha r))

/-! ### operators -/
theorem RepM.rdm {o : Bool} {K : PySem.W.Frag} {S : Addr → Prop} {φ : List Addr} {H : Hp} {st : Sto} {v : V} {d : D} (h : RepM o K S φ H v d) (I : SI K S φ H st) : RepD K S φ H v (deref st d) := h.rd I
theorem se_bin {op : BOp} {ca cb : Ex} {cf gs} {pos : Pos} (h1 : SE Γ L true a (ev cf gs true ca)) (h2 : SE Γ L true b (ev cf gs true cb)) : SE Γ L o (.BinOp a op.py b pos) (ev cf gs o (.bin op ca cb)) := by
  obtain ⟨t1, p1, q1⟩ := h1
  obtain ⟨t2, p2, q2⟩ := h2
  obtain ⟨r, hr, hs⟩ := bin_rule op Γ.K
  refine ⟨tOp r t1 t2, fun X g => pe_op (hr X g.K g.rm) (p1 X g) (p2 X g), fun σ H env st S φ Q E I f => ?_⟩
  unfold ev at f
  obtain ⟨d1, s1, e1, f⟩ := f.bind
  obtain ⟨d2, s2, e2, f⟩ := f.bind
  obtain ⟨d, ed, f⟩ := f.lift
  refine SE.use q1 E I e1 fun v H1 S1 φ1 x1 E1 I1 r1 => ?_
  refine SE.use q2 E1 I1 e2 fun w H2 S2 φ2 x2 E2 I2 r2 => ?_
  exact hs S2 φ2 H2 s2 v w _ _ d Q I2 ((r1.mono x2 I1).rd I2) (r2.rd I2) ed fun u H3 S3 x3 I3 r3 => f u H3 S3 φ2 ((x1.trans x2).trans x3) I3 (.inl r3)
theorem se_neg {ca : Ex} {cf gs} {pos : Pos} (h1 : SE Γ L true a (ev cf gs true ca)) : SE Γ L o (.UnaryOp .USub a pos) (ev cf gs o (.neg ca)) := by
  obtain ⟨t1, p1, q1⟩ := h1
  refine ⟨tUn (rU fun i => .int (-i)) t1, fun X g => pe_un un_neg (p1 X g), fun σ H env st S φ Q E I f => ?_⟩
  unfold ev at f
  obtain ⟨d1, s1, e1, f⟩ := f.bind
  refine SE.use q1 E I e1 fun v H1 S1 φ1 x1 E1 I1 r1 => ?_
  split at f
  · have := r1.rd0.int
    exact ⟨_, this, f _ _ _ _ x1 I1 (.inl (.int _))⟩
  · exact f.elim
/-- a comparison, as a value and as a test -/
theorem sx_cmp {op : COp} {ca cb : Ex} {cf gs} {pos : Pos} (hm : behindInMarks op.py b = false) (h1 : SE Γ L true a (ev cf gs true ca)) (h2 : SE Γ L true b (ev cf gs true cb)) :
    ∃ t : TE, (∀ X, Good Γ L X → PE X (.Compare a [op.py] [b] pos) t ∧ PT X (.Compare a [op.py] [b] pos) (tTest t)) ∧ ∀ σ H env st S φ Q, EI Γ.K S φ H σ env → SI Γ.K S φ H st → FinE Γ.K o S φ H Q (ev cf gs o (.cmp op ca cb) env st) → t σ H Q := by
  obtain ⟨t1, p1, q1⟩ := h1
  obtain ⟨t2, p2, q2⟩ := h2
  obtain ⟨r, hr, hs⟩ := cmp_rule op Γ.K
  refine ⟨tOp r t1 t2, fun X g => ⟨pe_cmpR (hr X g.K g.rm) (p1 X g) (p2 X g) hm, pt_cmpR (hr X g.K g.rm) (p1 X g) (p2 X g) hm⟩, fun σ H env st S φ Q E I f => ?_⟩
  unfold ev at f
  obtain ⟨d1, s1, e1, f⟩ := f.bind
  obtain ⟨d2, s2, e2, f⟩ := f.bind
  obtain ⟨d, s3, ed, f3⟩ := f.bind
  obtain ⟨ed, rfl⟩ := lift_ok ed
  refine SE.use q1 E I e1 fun v H1 S1 φ1 x1 E1 I1 r1 => ?_
  refine SE.use q2 E1 I1 e2 fun w H2 S2 φ2 x2 E2 I2 r2 => ?_
  exact hs S2 φ2 H2 v w _ _ d Q ((r1.mono x2 I1).rd I2) (r2.rd I2) ed (f3 _ H2 S2 φ2 (x1.trans x2) I2 (.inl (.bl _)))
theorem sx_chn {op op' : COp} {c : Expr} {ca cb cc : Ex} {cf gs} {pos : Pos} (hm' : behindInMarks op'.py c = false) (h1 : SE Γ L true a (ev cf gs true ca)) (h2 : SE Γ L true b (ev cf gs true cb)) (h3 : SE Γ L true c (ev cf gs true cc)) :
    ∃ t : TE, (∀ X, Good Γ L X → PE X (.Compare a [op.py, op'.py] [b, c] pos) t ∧ PT X (.Compare a [op.py, op'.py] [b, c] pos) (tTest t)) ∧ ∀ σ H env st S φ Q, EI Γ.K S φ H σ env → SI Γ.K S φ H st → FinE Γ.K o S φ H Q (ev cf gs o (.chn op op' ca cb cc) env st) → t σ H Q := by
  obtain ⟨t1, p1, q1⟩ := h1
  obtain ⟨t2, p2, q2⟩ := h2
  obtain ⟨t3, p3, q3⟩ := h3
  obtain ⟨r, hr, hs⟩ := cmp_rule op Γ.K
  obtain ⟨r', hr', hs'⟩ := cmp_rule op' Γ.K
  have hm : lastMarks [op.py, op'.py] [b, c] = false := hm'
  refine ⟨tChain r r' t1 t2 t3, fun X g => ⟨pe_chain (hr X g.K g.rm) (hr' X g.K g.rm) (p1 X g) (p2 X g) (p3 X g) hm, pt_chain (hr X g.K g.rm) (hr' X g.K g.rm) (p1 X g) (p2 X g) (p3 X g) hm⟩, fun σ H env st S φ Q E I f => ?_⟩
  unfold ev at f
  obtain ⟨d1, s1, e1, f⟩ := f.bind
  obtain ⟨d2, s2, e2, f⟩ := f.bind
  obtain ⟨k, s3, ed, f9⟩ := f.bind
  obtain ⟨ed, rfl⟩ := lift_ok ed
  clear f
  refine SE.use q1 E I e1 fun v H1 S1 φ1 x1 E1 I1 r1 => ?_
  refine SE.use q2 E1 I1 e2 fun w H2 S2 φ2 x2 E2 I2 r2 => ?_
  refine hs S2 φ2 H2 v w _ _ k _ ((r1.mono x2 I1).rd I2) (r2.rd I2) ed ⟨k, rfl, ?_⟩
  cases k with
  | true =>
    rw [if_pos rfl] at f9 ⊢
    obtain ⟨d3, s4, e3, f8⟩ := f9.bind
    obtain ⟨k2, s5, ed2, f7⟩ := f8.bind
    obtain ⟨ed2, rfl⟩ := lift_ok ed2
    refine SE.use q3 E2 I2 e3 fun z H3 S3 φ3 x3 E3 I3 r3 => ?_
    exact hs' S3 φ3 H3 w z _ _ k2 Q ((r2.mono x3 I2).rd I3) (r3.rd I3) ed2 (f7 _ H3 S3 φ3 ((x1.trans x2).trans x3) I3 (.inl (.bl _)))
  | false =>
    rw [if_neg Bool.false_ne_true] at f9 ⊢
    exact f9 _ H2 S2 φ2 (x1.trans x2) I2 (.inl (.bl _))
/-- a test that is a value's truth -/
theorem truth_fin {K : PySem.W.Frag} {S : Addr → Prop} {φ : List Addr} {H : Hp} {Q : Bool → Hp → Prop} {m : Out D} (f : FinB K S φ H Q (m.bind fun d s => truthS s d)) :
    FinE K true S φ H (fun x H' => ∃ k, TruV K x H' k ∧ Q k H') m := by
  obtain ⟨d, s1, e1, f⟩ := f.bind
  obtain ⟨k, ek, f⟩ := FinB.lift f
  rw [e1]
  exact fun v H' S' φ' x I r => ⟨k, truV (r.rd I) ek, f H' S' φ' x I⟩
theorem st_of {m : Env → Sto → Out D} (he : ∀ env whole, isTrue e env whole = (do let v ← whole; standAt e.pos; holding [v] (truthy v))) (h : SE Γ L true e m) : ST Γ L e fun env s => (m env s).bind fun d s => truthS s d := by
  obtain ⟨t, p, q⟩ := h
  exact ⟨fun σ H Q => t σ H fun x H' => ∃ k, TruV Γ.K x H' k ∧ Q k H', fun X g => by rw [← g.K]; exact pt_truth (p X g) (he _), fun σ H env st S φ Q E I f => q σ H env st S φ _ E I (truth_fin f)⟩
/-- a test whose value is a bool -/
theorem st_bl {t : TE} {m : Env → Sto → Out D} (hb : ∀ env s d s', m env s = .ok d s' → ∃ b, d = .bl b)
    (q : ∀ σ H env st S φ Q, EI Γ.K S φ H σ env → SI Γ.K S φ H st → FinE Γ.K true S φ H Q (m env st) → t σ H Q) {σ : L2.St} {H : Hp} {env : Env} {st : Sto} {S : Addr → Prop} {φ : List Addr} {Q : Bool → Hp → Prop}
    (E : EI Γ.K S φ H σ env) (I : SI Γ.K S φ H st) (f : FinB Γ.K S φ H Q ((m env st).bind fun d s => truthS s d)) : tTest t σ H Q := by
  obtain ⟨d, s1, e1, f⟩ := f.bind
  obtain ⟨b, rfl⟩ := hb _ _ _ _ e1
  refine q σ H env st S φ _ E I ?_
  rw [e1]
  exact fun v H' S' φ' x I' r => ⟨b, r.rd0.bl, f H' S' φ' x I'⟩
theorem ev_cmp_bl {op : COp} {ca cb : Ex} {cf gs} {env : Env} {s s' : Sto} {d : D} (h : ev cf gs o (.cmp op ca cb) env s = .ok d s') : ∃ b, d = .bl b := by
  unfold ev at h
  cases h1 : ev cf gs true ca env s with
  | err => rw [h1] at h; cases h
  | ok d1 s1 =>
    simp only [h1, Out.bind] at h
    cases h2 : ev cf gs true cb env s1 with
    | err => rw [h2] at h; cases h
    | ok d2 s2 =>
      simp only [h2] at h
      cases h3 : lift (cmpD op (deref s2 d1) (deref s2 d2)) s2 with
      | err => rw [h3] at h; cases h
      | ok b s3 => rw [h3] at h; cases h; exact ⟨_, rfl⟩
theorem ev_chn_bl {op op' : COp} {ca cb cc : Ex} {cf gs} {env : Env} {s s' : Sto} {d : D} (h : ev cf gs o (.chn op op' ca cb cc) env s = .ok d s') : ∃ b, d = .bl b := by
  unfold ev at h
  cases h1 : ev cf gs true ca env s with
  | err => rw [h1] at h; cases h
  | ok d1 s1 =>
    simp only [h1, Out.bind] at h
    cases h2 : ev cf gs true cb env s1 with
    | err => rw [h2] at h; cases h
    | ok d2 s2 =>
      simp only [h2] at h
      cases h3 : lift (cmpD op (deref s2 d1) (deref s2 d2)) s2 with
      | err => rw [h3] at h; cases h
      | ok b s3 =>
        simp only [h3] at h
        cases b with
        | false => rw [if_neg Bool.false_ne_true] at h; cases h; exact ⟨_, rfl⟩
        | true =>
          rw [if_pos rfl] at h
          cases h4 : ev cf gs true cc env s3 with
          | err => rw [h4] at h; cases h
          | ok d4 s4 =>
            simp only [h4] at h
            cases h5 : lift (cmpD op' (deref s4 d2) (deref s4 d4)) s4 with
            | err => rw [h5] at h; cases h
            | ok b5 s5 => rw [h5] at h; cases h; exact ⟨_, rfl⟩
theorem se_not {ca : Ex} {cf gs} {pos : Pos} (h1 : SE Γ L true a (ev cf gs true ca)) : SE Γ L o (.UnaryOp .Not a pos) (ev cf gs o (.not ca)) := by
  obtain ⟨t1, p1, q1⟩ := h1
  refine ⟨tNotT Γ.K t1, fun X g => by rw [← g.K]; exact pe_notT (p1 X g), fun σ H env st S φ Q E I f => ?_⟩
  unfold ev at f
  obtain ⟨d1, s1, e1, f⟩ := f.bind
  obtain ⟨k, s2, ek, f3⟩ := f.bind
  obtain ⟨ek, rfl⟩ := lift_ok ek
  refine SE.use q1 E I e1 fun v H1 S1 φ1 x1 E1 I1 r1 => ?_
  exact ⟨k, truV (r1.rd I1) ek, f3 _ _ _ _ x1 I1 (.inl (.bl _))⟩
theorem st_not {ca : Ex} {cf gs} {pos : Pos} (h1 : ST Γ L a fun env s => (ev cf gs true ca env s).bind fun d s => truthS s d) : ST Γ L (.UnaryOp .Not a pos) fun env s => (ev cf gs true (.not ca) env s).bind fun d s => truthS s d := by
  obtain ⟨t1, p1, q1⟩ := h1
  refine ⟨tNot t1, fun X g => pt_not (p1 X g), fun σ H env st S φ Q E I f => ?_⟩
  obtain ⟨d, s1, e1, f⟩ := f.bind
  unfold ev at e1
  refine q1 σ H env st S φ _ E I ?_
  cases h1 : ev cf gs true ca env st with
  | err => rw [h1] at e1; cases e1
  | ok d1 s2 =>
    simp only [h1, Out.bind] at e1 ⊢
    cases h2 : truthS s2 d1 with
    | err => rw [h2] at e1; cases e1
    | ok k s3 => rw [h2] at e1; cases e1; exact fun H' S' φ' x I' => f H' S' φ' x I'
theorem se_ite {c : Expr} {cc ca cb : Ex} {cf gs} {pos : Pos} (h1 : ST Γ L c fun env s => (ev cf gs true cc env s).bind fun d s => truthS s d) (h2 : SE Γ L false a (ev cf gs false ca)) (h3 : SE Γ L false b (ev cf gs false cb)) :
    SE Γ L o (.IfExp c a b pos) (ev cf gs o (.ite cc ca cb)) := by
  obtain ⟨t1, p1, q1⟩ := h1
  obtain ⟨t2, p2, q2⟩ := h2
  obtain ⟨t3, p3, q3⟩ := h3
  refine ⟨tIf t1 t2 t3, fun X g => pe_ifExp (p1 X g) (p2 X g) (p3 X g), fun σ H env st S φ Q E I f => ?_⟩
  unfold ev at f
  obtain ⟨d1, s1, e1, f⟩ := f.bind
  obtain ⟨k, s2, ek, f⟩ := f.bind
  refine q1 σ H env st S φ _ E I ?_
  simp only [e1, Out.bind, ek]
  intro H1 S1 φ1 x1 I1
  have up : ∀ {m : Out D}, FinE Γ.K o S φ H Q m → FinE Γ.K false S1 φ1 H1 Q m := fun {m} h => by
    cases m with
    | err => exact h
    | ok d s => exact fun v H' S' φ' x I' r => h v H' S' φ' (x1.trans x) I' (.inl r.val)
  cases k with
  | true => exact q2 σ H1 env s2 S1 φ1 Q (E.mono x1 I) I1 (up f)
  | false => exact q3 σ H1 env s2 S1 φ1 Q (E.mono x1 I) I1 (up f)

/-! ### and, or -/
theorem se_bop1 {and : Bool} {ca : Ex} {cf gs} {pos : Pos} (h : SE Γ L o a (ev cf gs o ca)) : SE Γ L o (.BoolOp (bopOf and) [a] pos) (evB cf gs o and (.c ca .nil)) := by
  obtain ⟨t, p, q⟩ := h
  exact ⟨t, fun X g => pe_one (p X g), fun σ H env st S φ Q E I f => q σ H env st S φ Q E I (by unfold evB at f; exact f)⟩
theorem se_bopc {and : Bool} {ca cb : Ex} {cs : Exs} {rest : List Expr} {cf gs} {pos : Pos} (h : SE Γ L o a (ev cf gs o ca)) (h2 : SE Γ L o (.BoolOp (bopOf and) (b :: rest) pos) (evB cf gs o and (.c cb cs))) :
    SE Γ L o (.BoolOp (bopOf and) (a :: b :: rest) pos) (evB cf gs o and (.c ca (.c cb cs))) := by
  obtain ⟨t1, p1, q1⟩ := h
  obtain ⟨t2, p2, q2⟩ := h2
  have sem : ∀ (σ : L2.St) (H : Hp) (env : Env) (st : Sto) (S : Addr → Prop) (φ : List Addr) (Q : VK), EI Γ.K S φ H σ env → SI Γ.K S φ H st → FinE Γ.K o S φ H Q (evB cf gs o and (.c ca (.c cb cs)) env st) →
      t1 σ H fun x H1 => ∃ k, TruV Γ.K x H1 k ∧ if k = and then t2 σ H1 Q else Q x H1 := by
    intro σ H env st S φ Q E I f
    unfold evB at f
    obtain ⟨d1, s1, e1, f1⟩ := f.bind
    obtain ⟨k, s2, ek, f2⟩ := f1.bind
    obtain ⟨ek, rfl⟩ := lift_ok ek
    refine SE.use q1 E I e1 fun v H1 S1 φ1 x1 E1 I1 r1 => ⟨k, truV (r1.rd I1) ek, ?_⟩
    by_cases hk : k = and
    · rw [if_pos hk] at f2 ⊢
      exact q2 σ H1 env s2 S1 φ1 Q E1 I1 (f2.stp x1)
    · rw [if_neg hk] at f2 ⊢
      exact f2 v H1 S1 φ1 x1 I1 r1
  cases and with
  | true => exact ⟨tAndT Γ.K t1 t2, fun X g => by rw [← g.K]; exact pe_andT (p1 X g) (p2 X g), sem⟩
  | false =>
    refine ⟨tOrT Γ.K t1 t2, fun X g => by rw [← g.K]; exact pe_orT (p1 X g) (p2 X g), fun σ H env st S φ Q E I f => ?_⟩
    have := sem σ H env st S φ Q E I f
    have e : (fun x H1 => ∃ k, TruV Γ.K x H1 k ∧ if k = true then Q x H1 else t2 σ H1 Q) = (fun x H1 => ∃ k, TruV Γ.K x H1 k ∧ if k = false then t2 σ H1 Q else Q x H1) := by
      funext x H1
      apply propext
      constructor
      · rintro ⟨k, a, b⟩; exact ⟨k, a, by cases k <;> simpa using b⟩
      · rintro ⟨k, a, b⟩; exact ⟨k, a, by cases k <;> simpa using b⟩
    show t1 σ H _
    rw [e]; exact this
def SW (Γ : Ctx) (L : LC) (e : Expr) (m : Env → Sto → Out Bool) : Prop :=
  ∃ t : TT, (∀ X, Good Γ L X → PW X e t) ∧ ∀ σ H env st S φ Q, EI Γ.K S φ H σ env → SI Γ.K S φ H st → FinB Γ.K S φ H Q (m env st) → t σ H Q
theorem SW.st {m : Env → Sto → Out Bool} (h : SW Γ L e m) : ST Γ L e m := let ⟨t, p, q⟩ := h; ⟨t, fun X g => (p X g).pt, q⟩
theorem sw_bop1 {and : Bool} {ca : Ex} {cf gs} {pos : Pos} (h : ST Γ L a fun env s => (ev cf gs true ca env s).bind fun d s => truthS s d) :
    SW Γ L (.BoolOp (bopOf and) [a] pos) fun env s => (evB cf gs true and (.c ca .nil) env s).bind fun d s => truthS s d := by
  obtain ⟨t, p, q⟩ := h
  refine ⟨t, fun X g => ?_, fun σ H env st S φ Q E I f => q σ H env st S φ Q E I (by unfold evB at f; exact f)⟩
  cases and with
  | true => exact pw_and1 (p X g)
  | false => exact pw_or1 (p X g)
theorem sw_bopc {and : Bool} {ca cb : Ex} {cs : Exs} {rest : List Expr} {cf gs} {pos : Pos} (h : ST Γ L a fun env s => (ev cf gs true ca env s).bind fun d s => truthS s d)
    (h2 : SW Γ L (.BoolOp (bopOf and) (b :: rest) pos) fun env s => (evB cf gs true and (.c cb cs) env s).bind fun d s => truthS s d) :
    SW Γ L (.BoolOp (bopOf and) (a :: b :: rest) pos) fun env s => (evB cf gs true and (.c ca (.c cb cs)) env s).bind fun d s => truthS s d := by
  obtain ⟨t1, p1, q1⟩ := h
  obtain ⟨t2, p2, q2⟩ := h2
  have sem : ∀ (σ : L2.St) (H : Hp) (env : Env) (st : Sto) (S : Addr → Prop) (φ : List Addr) (Q : Bool → Hp → Prop), EI Γ.K S φ H σ env → SI Γ.K S φ H st → FinB Γ.K S φ H Q ((evB cf gs true and (.c ca (.c cb cs)) env st).bind fun d s => truthS s d) →
      t1 σ H fun k H1 => if k = and then t2 σ H1 Q else Q k H1 := by
    intro σ H env st S φ Q E I f
    refine q1 σ H env st S φ _ E I ?_
    unfold evB at f
    cases e1 : ev cf gs true ca env st with
    | err => rw [e1] at f; exact False.elim f
    | ok d1 s1 =>
      simp only [e1, Out.bind] at f ⊢
      cases e2 : truthS s1 d1 with
      | err => rw [e2] at f; exact False.elim f
      | ok k s2 =>
        obtain ⟨ek, rfl⟩ := lift_ok e2
        simp only [e2] at f
        intro H1 S1 φ1 x1 I1
        by_cases hk : k = and
        · rw [if_pos hk] at f ⊢
          exact q2 σ H1 env s2 S1 φ1 Q (E.mono x1 I) I1 (FinB.stp x1 f)
        · rw [if_neg hk] at f ⊢
          have f' : FinB Γ.K S φ H Q (truthS s2 d1) := f
          rw [e2] at f'
          exact f' H1 S1 φ1 x1 I1
  cases and with
  | true =>
    refine ⟨tAnd t1 t2, fun X g => pw_and (p1 X g) (p2 X g), fun σ H env st S φ Q E I f => ?_⟩
    have := sem σ H env st S φ Q E I f
    have e : (fun c H1 => if c = true then t2 σ H1 Q else Q false H1) = (fun k H1 => if k = true then t2 σ H1 Q else Q k H1) := by
      funext c H1; cases c <;> rfl
    show t1 σ H _
    rw [e]; exact this
  | false =>
    refine ⟨tOr t1 t2, fun X g => pw_or (p1 X g) (p2 X g), fun σ H env st S φ Q E I f => ?_⟩
    have := sem σ H env st S φ Q E I f
    have e : (fun c H1 => if c = true then Q true H1 else t2 σ H1 Q) = (fun k H1 => if k = false then t2 σ H1 Q else Q k H1) := by
      funext c H1; cases c <;> rfl
    show t1 σ H _
    rw [e]; exact this

/-! ### subscripts -/
theorem notSlice_of {m : MC} {c : Ex} {sc : Scope} (h : mE m c sc e = true) : PlainIx e := by
  intro ov iv
  cases e with
  | Slice l u s p =>
    exfalso
    cases c with
    | fz f => unfold mE at h; cases f <;> simp [mF] at h
    | alloc f => unfold mE at h; cases f <;> simp [mF] at h
    | _ => simp [mE] at h
  | _ => rfl
theorem se_idx {ca cb : Ex} {cf gs} {pos : Pos} (hs : PlainIx b) (h1 : SE Γ L true a (ev cf gs true ca)) (h2 : SE Γ L true b (ev cf gs true cb)) : SE Γ L o (.Subscript a b pos) (ev cf gs o (.idx ca cb)) := by
  obtain ⟨t1, p1, q1⟩ := h1
  obtain ⟨t2, p2, q2⟩ := h2
  refine ⟨tOp (rIx Γ.K) t1 t2, fun X g => by rw [← g.K]; exact pe_ix ix_seq (p1 X g) (p2 X g) hs, fun σ H env st S φ Q E I f => ?_⟩
  unfold ev at f
  obtain ⟨d1, s1, e1, f⟩ := f.bind
  obtain ⟨d2, s2, e2, f⟩ := f.bind
  obtain ⟨d, ed, f⟩ := f.lift
  refine SE.use q1 E I e1 fun v H1 S1 φ1 x1 E1 I1 r1 => ?_
  refine SE.use q2 E1 I1 e2 fun w H2 S2 φ2 x2 E2 I2 r2 => ?_
  exact is_idx S2 φ2 H2 v w _ _ d Q ((r1.mono x2 I1).rd I2) r2.rd0 ed fun u r3 => f u H2 S2 φ2 (x1.trans x2) I2 (.inl r3)
theorem so_none {cf gs} : SO' Γ L none (evO cf gs .n) :=
  ⟨tNoPart, fun X _ => po_none, fun σ H env st S φ Q E I f => by unfold evO at f; exact f H S φ .refl I⟩
theorem so_some {ca : Ex} {cf gs} (h : SE Γ L true a (ev cf gs true ca)) : SO' Γ L (some a) (evO cf gs (.s ca)) := by
  obtain ⟨t1, p1, q1⟩ := h
  refine ⟨tPart t1, fun X g => po_some (p1 X g), fun σ H env st S φ Q E I f => ?_⟩
  unfold evO at f
  obtain ⟨d1, s1, e1, f⟩ := f.bind
  refine SE.use q1 E I e1 fun v H1 S1 φ1 x1 E1 I1 r1 => ?_
  split at f
  · exact ⟨_, r1.rd0.int, f H1 S1 φ1 x1 I1⟩
  · exact f.elim
theorem se_slc {ca : Ex} {cl ch : OEx} {lo hi : Option Expr} {cf gs} {p2 pos : Pos} (h1 : SE Γ L true a (ev cf gs true ca)) (h2 : SO' Γ L lo (evO cf gs cl)) (h3 : SO' Γ L hi (evO cf gs ch)) :
    SE Γ L o (.Subscript a (.Slice lo hi none p2) pos) (ev cf gs o (.slc ca cl ch)) := by
  obtain ⟨t1, p1, q1⟩ := h1
  obtain ⟨t2, p2', q2⟩ := h2
  obtain ⟨t3, p3, q3⟩ := h3
  refine ⟨tSl (rSl Γ.K) t1 t2 t3, fun X g => by rw [← g.K]; exact pe_slice (sl_list.or sl_tupA) (p1 X g) (p2' X g) (p3 X g), fun σ H env st S φ Q E I f => ?_⟩
  unfold ev at f
  obtain ⟨d1, s1, e1, f⟩ := f.bind
  obtain ⟨l, s2, e2, f⟩ := f.bind
  obtain ⟨u, s3, e3, f⟩ := f.bind
  obtain ⟨d, ed, f⟩ := f.lift
  refine SE.use q1 E I e1 fun v H1 S1 φ1 x1 E1 I1 r1 => ?_
  refine SB.use q2 E1 I1 e2 fun H2 S2 φ2 x2 E2 I2 => ?_
  refine SB.use q3 E2 I2 e3 fun H3 S3 φ3 x3 E3 I3 => ?_
  exact ss_slc S3 φ3 H3 s3 v _ d l u Q I3 ((r1.mono (x2.trans x3) I1).rd I3) ed fun w H4 S4 x4 I4 r4 => f w H4 S4 φ3 (((x1.trans x2).trans x3).trans x4) I4 (.inl r4)
theorem se_rev {ca : Ex} {k : Nat} {p1 p2 p3 pos : Pos} {cf gs} (h1 : SE Γ L true a (ev cf gs true ca)) : SE Γ L o (.Subscript a (.Slice none none (some (.UnaryOp .USub (.Constant (.int 1) k p1) p2)) p3) pos) (ev cf gs o (.rev ca)) := by
  obtain ⟨t1, p1, q1⟩ := h1
  refine ⟨tRevL Γ.K t1, fun X g => by rw [← g.K]; exact pe_revL (p1 X g), fun σ H env st S φ Q E I f => ?_⟩
  unfold ev at f
  obtain ⟨d1, s1, e1, f⟩ := f.bind
  obtain ⟨d, ed, f⟩ := f.lift
  refine SE.use q1 E I e1 fun v H1 S1 φ1 x1 E1 I1 r1 => ?_
  unfold revD at ed
  split at ed
  · rename_i ds he
    cases ed
    have := r1.rd I1
    rw [he] at this
    obtain ⟨a, vs, rfl, h1, r⟩ := this.lst
    exact ⟨a, vs, rfl, .inl (.inl h1), fun p hp => f _ _ _ _ (x1.trans (Stp.alloc hp)) (I1.alloc hp) (.inl (rep_lst I1 hp r.reverse))⟩
  · cases ed
end
end PV
set_option maxRecDepth 100000
set_option maxHeartbeats 4000000
/-! Calls, new lists, iterators, targets. -/
namespace PV
open PySem PySem.Spec PyProof.Rows L2
section
variable {Γ : Ctx} {L : LC} {o : Bool} {e a b : Expr}
/-! ### built-ins -/
theorem pd_deref {K : PySem.W.Frag} {S : Addr → Prop} {φ : List Addr} {H : Hp} {st : Sto} (I : SI K S φ H st) : ∀ {vs : List V} {ds : List D}, Paired (RepM o K S φ H) vs ds → Paired (RepD K S φ H) vs (ds.map (deref st))
  | _, _, .nil => .nil
  | _, _, .cons a b => .cons (a.rd I) (pd_deref I b)
theorem star_plain {e : Expr} {es : List Expr} {env : PySem.Env} {pos : Pos} (h : ∀ x ∈ es, ∀ env r, starEach (x :: r) env = (false, eval x env) :: starEach r env) : (backTo pos (starEach es env)).any (·.1) = false := by
  induction es with
  | nil => rfl
  | cons x r ih =>
    rw [h x List.mem_cons_self]
    have := ih fun y hy => h y (List.mem_cons_of_mem _ hy)
    show (false || (backTo pos (starEach r env)).any (·.1)) = false
    rw [this]; rfl
theorem stars_of {m : MC} {sc : Scope} : ∀ {cs : Exs} {es : List Expr}, mEs m cs sc es = true → ∀ x ∈ es, ∀ env r, starEach (x :: r) env = (false, eval x env) :: starEach r env
  | .nil, es, h, x, hx => by
    unfold mEs at h
    split at h
    · simp at hx
    · cases h
  | .c c cs, es, h, x, hx => by
    unfold mEs at h
    split at h
    · rename_i y ys
      simp only [Bool.and_eq_true] at h
      rcases List.mem_cons.mp hx with q | q
      · subst q; exact fun env r => star_of h.1
      · exact stars_of h.2 x q
    · cases h
theorem Blt.pe {X : Cx} {bt : Blt} {x : Str} {r : List V → Hp → VK → Prop} {p pos : Pos} {es : List Expr} {t : TA} (hx : x = Str.ofString bt.name) (hc : CallR X bt.val r) (hg : Gl X x) (hm : X.mg x = none) (ha : PA X (e :: es) t) (hn : x ≠ "__name__") (hdb : (x == ("__debug__" : Str)) = false)
    (he : starEach (e :: es) X.env = (false, eval e X.env) :: starEach es X.env) (hpl : (backTo pos (starEach es X.env)).any (·.1) = false) : PE X (.Call (.Name x p) (e :: es) [] pos) (tCB r t) := by
  have hv : bootBuiltins x = some bt.val := by rw [hx]; exact bt.boot
  cases bt with
  | int => exact pe_callTy hc hg hm hv ha hn hdb he hpl
  | tup => exact pe_callTy hc hg hm hv ha hn hdb he hpl
  | _ => exact pe_callB hc hg hm hv ha hn hdb he hpl
theorem se_blt (Γok : CtxOk Γ) {bt : Blt} {cs : Exs} {x : Str} {p pos : Pos} {es : List Expr} {cf gs} (hx : x = Str.ofString bt.name) (hf : x ∈ Γ.m.fr) (hg : glB L.sc x = true) (hk : okN x = true)
    (hst : ∀ y ∈ a :: es, ∀ env r, starEach (y :: r) env = (false, eval y env) :: starEach r env) (h : SL Γ L true (a :: es) (evL cf gs true cs)) : SE Γ L o (.Call (.Name x p) (a :: es) [] pos) (ev cf gs o (.blt bt cs)) := by
  obtain ⟨t, p1, q1⟩ := h
  obtain ⟨r, hr, hs⟩ := blt_rule bt Γ.K
  obtain ⟨n1, n2, n3⟩ := okN_of hk
  refine ⟨tCB r t, fun X g => Blt.pe hx (hr X g.K g.rm) (g.gl hg) (by rw [g.mg]; exact Γok.fr x hf) (p1 X g) n3 n1 (hst a List.mem_cons_self _ _) (star_plain (e := a) fun y hy => hst y (List.mem_cons_of_mem _ hy)), fun σ H env st S φ Q E I f => ?_⟩
  unfold ev at f
  obtain ⟨ds, s1, e1, f⟩ := f.bind
  obtain ⟨d, ed, f⟩ := f.lift
  refine SLL.use q1 E I e1 fun vs H1 S1 φ1 x1 E1 I1 r1 => ?_
  exact hs S1 φ1 H1 s1 vs _ d Q I1 (pd_deref I1 r1) ed fun v H2 S2 x2 I2 r2 => f v H2 S2 φ1 (x1.trans x2) I2 (.inl r2)
theorem se_isi (Γok : CtxOk Γ) {ca : Ex} {ty : Ty} {z : Str} {p pz pos : Pos} {cf gs} (hf : ("isinstance" : Str) ∈ Γ.m.fr) (hg : glB L.sc "isinstance" = true) (hz : z = Str.ofString ty.name) (hfz : z ∈ Γ.m.fr) (hgz : glB L.sc z = true) (hkz : okN z = true)
    (hst : ∀ env r, starEach (a :: r) env = (false, eval a env) :: starEach r env) (h : SE Γ L true a (ev cf gs true ca)) : SE Γ L o (.Call (.Name ("isinstance" : Str) p) [a, .Name z pz] [] pos) (ev cf gs o (.isi ca ty)) := by
  obtain ⟨t, p1, q1⟩ := h
  obtain ⟨n1, n2, n3⟩ := okN_of hkz
  refine ⟨tCB (rIsi Γ.K) (tCons t (tCons (tC (.ty ty.name)) tNil)), fun X g => ?_, fun σ H env st S φ Q E I f => ?_⟩
  · rw [← g.K]
    refine pe_callB call_isi (g.gl hg) (by rw [g.mg]; exact Γok.fr _ hf) (by decide +kernel) (pa_cons (p1 X g) (pa_cons (pe_bltn (g.gl hgz) (by rw [g.mg]; exact Γok.fr _ hfz) (by rw [hz]; exact ty.boot) (show RelV (.ty ty.name) (.type ty.name) from rfl) n3 n1) pa_nil) (hst _ _)) (by decide) (by decide) (hst _ _) rfl
  · unfold ev at f
    obtain ⟨d1, s1, e1, f1⟩ := f.bind
    obtain ⟨k, s2, ek, f2⟩ := f1.bind
    obtain ⟨ek, rfl⟩ := lift_ok ek
    refine SE.use q1 E I e1 fun v H1 S1 φ1 x1 E1 I1 r1 => ?_
    obtain ⟨n, hn, hk⟩ := isi_ok (r1.rd I1) ek
    exact ⟨v, .ty ty.name, .type n, .type ty.name, k, rfl, .ty _, hn, hk, f2 _ H1 S1 φ1 x1 I1 (.inl (.bl _))⟩

/-! ### calls of defs -/
mutual
theorem Rep.nolst {K : PySem.W.Frag} {S S' : Addr → Prop} {φ : List Addr} {H : Hp} (hs : ∀ a xs, S a → H a = some (.tup xs) → S' a) : ∀ {v : V} {d : D}, Rep K S φ H v d → nolst? d = true → Rep K S' φ H v d
  | _, _, .non, _ => .non
  | _, _, .bl b, _ => .bl b
  | _, _, .int i, _ => .int i
  | _, _, .str z, _ => .str z
  | _, _, .tup h r, p => .tup (by
      rcases h with ⟨q, h⟩ | h
      · exact .inl ⟨hs _ _ q h, h⟩
      · exact .inr h) (RepL.nolst hs r p)
  | _, _, .lst _ _ _, p => by cases p
  | _, _, .rol _ _, p => by cases p
  | _, _, .loc h, _ => .loc h
theorem RepL.nolst {K : PySem.W.Frag} {S S' : Addr → Prop} {φ : List Addr} {H : Hp} (hs : ∀ a xs, S a → H a = some (.tup xs) → S' a) : ∀ {vs : List V} {ds : List D}, RepL K S φ H vs ds → nolsts? ds = true → RepL K S' φ H vs ds
  | _, _, .nil, _ => .nil
  | _, _, .cons h1 h2, p => by
    have p' := Bool.and_eq_true_iff.mp (show (nolst? _ && nolsts? _) = true from p)
    exact .cons (Rep.nolst hs h1 p'.1) (RepL.nolst hs h2 p'.2)
end
theorem nolstS_get : ∀ {st : Sto} {n : Nat} {ds : List D}, nolstS? st = true → st[n]? = some (.lst ds) → nolsts? ds = true
  | .lst xs :: r, 0, ds, h, e => by
    have := Bool.and_eq_true_iff.mp (show (nolsts? xs && nolstS? r) = true from h)
    cases e; exact this.1
  | .lst xs :: r, n + 1, ds, h, e => nolstS_get (Bool.and_eq_true_iff.mp (show (nolsts? xs && nolstS? r) = true from h)).2 (by simpa using e)
  | .obj x fs :: r, n + 1, ds, h, e => nolstS_get (Bool.and_eq_true_iff.mp (show (nolsts? (fs.map (·.2)) && nolstS? r) = true from h)).2 (by simpa using e)
  | .obj x fs :: r, 0, ds, h, e => by cases e
theorem nolstS_obj : ∀ {st : Sto} {n : Nat} {x : Str} {fs : List (Str × D)}, nolstS? st = true → st[n]? = some (.obj x fs) → nolsts? (fs.map (·.2)) = true
  | .obj y xs :: r, 0, x, fs, h, e => by
    have := Bool.and_eq_true_iff.mp (show (nolsts? (xs.map (·.2)) && nolstS? r) = true from h)
    cases e; exact this.1
  | .obj y xs :: r, n + 1, x, fs, h, e => nolstS_obj (Bool.and_eq_true_iff.mp (show (nolsts? (xs.map (·.2)) && nolstS? r) = true from h)).2 (by simpa using e)
  | .lst xs :: r, n + 1, x, fs, h, e => nolstS_obj (Bool.and_eq_true_iff.mp (show (nolsts? xs && nolstS? r) = true from h)).2 (by simpa using e)
  | .lst xs :: r, 0, x, fs, h, e => by cases e
/-- the lists of the frame's own among the arguments are stable while the callee runs -/
theorem lend {K : PySem.W.Frag} {S : Addr → Prop} {φ : List Addr} {H : Hp} : ∀ {vs : List V} {ds : List D}, Paired (RepM true K S φ H) vs ds → ∃ B : List Addr, (∀ a ∈ B, a ∉ φ ∧ ∃ xs, H a = some (.lst xs)) ∧ RepL K (fun a => S a ∨ a ∈ B) φ H vs ds
  | _, _, .nil => ⟨[], by simp, .nil⟩
  | _, _, .cons h t => by
    obtain ⟨B, hB, r⟩ := lend t
    rcases h with h | ⟨_, a, vs, ds, rfl, rfl, h1, h2, h3⟩
    · exact ⟨B, hB, .cons (h.tr (fun _ _ => rfl) (fun _ q => .inl q) ⟨[], by simp⟩) r⟩
    · refine ⟨a :: B, fun b hb => ?_, .cons (.lst (.inr List.mem_cons_self) h2 (h3.tr (fun _ _ => rfl) (fun _ q => .inl q) ⟨[], by simp⟩)) (r.tr (fun _ _ => rfl) (fun _ q => q.elim .inl fun z => .inr (List.mem_cons_of_mem _ z)) ⟨[], by simp⟩)⟩
      rcases List.mem_cons.mp hb with q | q
      · subst q; exact ⟨h1, _, h2⟩
      · exact hB b q
theorem SI.lend {K : PySem.W.Frag} {S : Addr → Prop} {φ : List Addr} {H : Hp} {st : Sto} (I : SI K S φ H st) {B : List Addr} (hB : ∀ a ∈ B, a ∉ φ ∧ ∃ xs, H a = some (.lst xs)) : SI K (fun a => S a ∨ a ∈ B) φ H st := by
  refine ⟨fun a h => ?_, fun a ha h => ?_, I.len, I.nd, fun n a ds e1 e2 => ?_⟩
  · rcases h with h | h
    · exact I.dom a h
    · obtain ⟨_, xs, e⟩ := hB a h; rw [e]; simp
  · rcases h with h | h
    · exact I.dis a ha h
    · exact (hB a h).1 ha
  · exact (I.obj n a ds e1 e2).tr (fun _ _ => rfl) (fun _ q => .inl q) ⟨[], by simp⟩ rfl
theorem sp_none {K : PySem.W.Frag} {cf : Nat → List D → Sto → Out D} {f : Nat} {vs : List V} {H : Hp} {Q : VK} {E : XK} {S : Addr → Prop} {φ : List Addr} {st : Sto} {ds : List D} (I : SI K S φ H st) (r : RepL K S φ H vs ds) (h : FinE K false S φ H Q (cf f ds st)) : spF K cf f vs H Q E := ⟨S, φ, st, ds, I, r, .inl h⟩
theorem call_sem {K : PySem.W.Frag} {cf : Nat → List D → Sto → Out D} {f : Nat} {vs : List V} {H : Hp} {Q : VK} {E : XK} {S : Addr → Prop} {φ : List Addr} {st : Sto} {ds : List D} {bw : Bool} (I : SI K S φ H st) (r : Paired (RepM true K S φ H) vs ds) (hb : bw = false → RepL K S φ H vs ds)
    (h : FinE K o S φ H Q ((cf f ds st).bind fun d s => if bw = true then (if nolst? d = true ∧ nolstS? s = true then .ok d s else .err) else .ok d s)) : spF K cf f vs H Q E := by
  cases bw with
  | false =>
    refine ⟨S, φ, st, ds, I, hb rfl, .inl ?_⟩
    cases e : cf f ds st with
    | err => rw [e] at h; exact False.elim h
    | ok d s => rw [e] at h; exact fun v H' S' φ' x I' r' => h v H' S' φ' x I' (.inl r'.val)
  | true =>
    obtain ⟨B, hB, r1⟩ := lend r
    refine ⟨_, φ, st, ds, I.lend hB, r1, .inl ?_⟩
    cases e : cf f ds st with
    | err => rw [e] at h; exact False.elim h
    | ok d s =>
      rw [e] at h
      by_cases hn : nolst? d = true ∧ nolstS? s = true
      · have h' : FinE K o S φ H Q (.ok d s) := by
          have : (if true = true then (if nolst? d = true ∧ nolstS? s = true then Out.ok d s else .err) else .ok d s) = Out.ok d s := by rw [if_pos rfl, if_pos hn]
          exact this ▸ h
        intro v H' S' φ' x I' r'
        have hk : ∀ a ∈ B, ∃ xs, H' a = some (.lst xs) := fun a ha => by
          obtain ⟨h1, xs, h2⟩ := hB a ha
          exact ⟨xs, x.keep a _ h2 h1⟩
        have hs : ∀ a xs, S' a → H' a = some (.tup xs) → (S' a ∧ (a ∉ B ∨ S a)) := fun a xs q e => ⟨q, .inl fun z => by
          obtain ⟨ys, e2⟩ := hk a z
          rw [e] at e2; cases e2⟩
        refine h' v H' (fun a => S' a ∧ (a ∉ B ∨ S a)) φ' ⟨x.keep, x.some, fun a q => ⟨x.sub a (.inl q), .inr q⟩, fun a q => ?_, x.phi⟩ ⟨fun a q => I'.dom a q.1, fun a ha q => I'.dis a ha q.1, I'.len, I'.nd, fun n a ds e1 e2 => ?_⟩ (.inl (r'.val.nolst hs hn.1))
        · rcases x.new a q.1 with z | z
          · rcases z with z | z
            · exact .inl z
            · rcases q.2 with q | q
              · exact absurd z q
              · exact .inl q
          · exact .inr z
        · have ho := I'.obj n a ds e1 e2
          cases ds with
          | lst ds => obtain ⟨ws, h1, h2⟩ := ho; exact ⟨ws, h1, h2.nolst hs (nolstS_get hn.2 e2)⟩
          | obj x fs => obtain ⟨dx, us, h1, h3, h2, h4⟩ := ho; exact ⟨dx, us, h1, h3, h2.nolst hs (nolstS_obj hn.2 e2), h4⟩
      · have : FinE K o S φ H Q .err := by
          have e3 : (if true = true then (if nolst? d = true ∧ nolstS? s = true then Out.ok d s else .err) else .ok d s) = Out.err := by rw [if_pos rfl, if_neg hn]
          exact e3 ▸ h
        exact this.elim

/-- the arguments of a call -/
def SA (Γ : Ctx) (L : LC) (es : List Expr) (cs : Exs) (cf : Nat → List D → Sto → Out D) (gs : List D) : Prop :=
  ∃ t : TA, (∀ X, Good Γ L X → PA X es t) ∧ ∀ σ H env st S φ Q, EI Γ.K S φ H σ env → SI Γ.K S φ H st →
    (match evL cf gs true cs env st with
      | .ok ds st' => ∀ vs H' S' φ', Stp S φ H S' φ' H' → SI Γ.K S' φ' H' st' → Paired (RepM true Γ.K S' φ' H') vs ds → (borrows env cs = false → RepL Γ.K S' φ' H' vs ds) → Q vs H'
      | .err => False) → t σ H Q
theorem sa_nil {cf gs} : SA Γ L [] .nil cf gs :=
  ⟨tNil, fun X _ => pa_nil, fun σ H env st S φ Q E I f => by simp only [evL] at f; exact f [] H S φ .refl I .nil fun _ => .nil⟩
/-- a part whose value is one's own only where it is a name -/
def SE1 (Γ : Ctx) (L : LC) (e : Expr) (c : Ex) (cf : Nat → List D → Sto → Out D) (gs : List D) : Prop :=
  ∃ t : TE, (∀ X, Good Γ L X → PE X e t) ∧ ∀ σ H env st S φ Q, EI Γ.K S φ H σ env → SI Γ.K S φ H st →
    (match ev cf gs true c env st with
      | .ok d st' => ∀ v H' S' φ', Stp S φ H S' φ' H' → SI Γ.K S' φ' H' st' → RepM true Γ.K S' φ' H' v d → (isOwn env c = false → Rep Γ.K S' φ' H' v d) → Q v H'
      | .err => False) → t σ H Q
theorem sa_cons {c : Ex} {cs : Exs} {es : List Expr} {cf gs} (hs : ∀ env, starEach (e :: es) env = (false, eval e env) :: starEach es env) (h1 : SE1 Γ L e c cf gs) (h2 : SA Γ L es cs cf gs) : SA Γ L (e :: es) (.c c cs) cf gs := by
  obtain ⟨t1, p1, q1⟩ := h1
  obtain ⟨t2, p2, q2⟩ := h2
  refine ⟨tCons t1 t2, fun X g => pa_cons (p1 X g) (p2 X g) (hs _), fun σ H env st S φ Q E I f => ?_⟩
  refine q1 σ H env st S φ _ E I ?_
  unfold evL at f
  cases e1 : ev cf gs true c env st with
  | err => simp only [e1, Out.bind] at f
  | ok d s1 =>
    simp only [e1, Out.bind] at f ⊢
    intro v H1 S1 φ1 x1 I1 r1 w1
    refine q2 σ H1 env s1 S1 φ1 _ (E.mono x1 I) I1 ?_
    cases e2 : evL cf gs true cs env s1 with
    | err => simp only [e2] at f
    | ok ds s2 =>
      simp only [e2] at f ⊢
      intro vs H2 S2 φ2 x2 I2 r2 w2
      refine f _ H2 S2 φ2 (x1.trans x2) I2 (.cons (r1.mono x2 I1) r2) fun hb => ?_
      have hb' : (isOwn env c || borrows env cs) = false := hb
      rw [Bool.or_eq_false_iff] at hb'
      exact .cons ((w1 hb'.1).mono x2 I1) (w2 hb'.2)
theorem se_call (Γok : CtxOk Γ) {fi : Nat} {x : Str} {cs : Exs} {es : List Expr} {p pos : Pos} (hne : es ≠ []) (hf : Γ.m.fs[fi]? = some (x, es.length)) (hg : glB L.sc x = true) (hk : okN x = true)
    (hst : ∀ y ∈ es, ∀ env r, starEach (y :: r) env = (false, eval y env) :: starEach r env) (h : SA Γ L es cs Γ.cf Γ.gs) : SE Γ L o (.Call (.Name x p) es [] pos) (ev Γ.cf Γ.gs o (.call fi cs)) := by
  obtain ⟨t, p1, q1⟩ := h
  obtain ⟨fa, fd, ps, h1, h2, h3, h4⟩ := Γok.fn fi x _ hf
  obtain ⟨n1, n2, n3⟩ := okN_of hk
  refine ⟨tCall (spF Γ.K Γ.cf fi) [] E0 t, fun X g => ?_, fun σ H env st S φ Q E I f => ?_⟩
  · have F : FnOk X.prog X.w X.K X.mg X.base (L2.CX X.prog X.w) Γ.k fa fd ps (spF Γ.K Γ.cf fi) := by rw [g.prog, g.w, g.K, g.mg, g.base]; exact h4
    have pa := p1 X g
    have hm : X.mg x = some (.ref fa) := by rw [g.mg]; exact h1
    have hkp : PySem.W.keepIn X.K (.ref fa) = true := by rw [g.K]; exact h2
    have hb : Binds X.K fd ps [] := by rw [g.K]; exact h3
    cases es with
    | nil => exact absurd rfl hne
    | cons y ys => exact pe_call F (g.room.mono (Nat.le_succ _)) (g.gl hg) hm hkp hb .nil passL pa n1 (hst y List.mem_cons_self _ _) (star_plain (e := y) fun z hz => hst z (List.mem_cons_of_mem _ hz))
  · refine q1 σ H env st S φ _ E I ?_
    unfold ev at f
    cases e1 : evL Γ.cf Γ.gs true cs env st with
    | err => rw [e1] at f; exact f
    | ok ds s1 =>
      simp only [e1, Out.bind] at f ⊢
      intro vs H1 S1 φ1 x1 I1 r1 w1
      show spF Γ.K Γ.cf fi (vs ++ []) H1 Q E0
      rw [List.append_nil]
      exact call_sem (o := o) (bw := borrows env cs) I1 r1 w1 (FinE.stp x1 f)

theorem se_call0 (Γok : CtxOk Γ) {fi : Nat} {x : Str} {p pos : Pos} (hf : Γ.m.fs[fi]? = some (x, 0)) (hg : glB L.sc x = true) (hk : okN x = true) : SE Γ L o (.Call (.Name x p) [] [] pos) (ev Γ.cf Γ.gs o (.call fi .nil)) := by
  obtain ⟨fa, fd, ps, h1, h2, h3, h4⟩ := Γok.fn fi x _ hf
  obtain ⟨n1, n2, n3⟩ := okN_of hk
  refine ⟨tCall (spF Γ.K Γ.cf fi) [] E0 tNil, fun X g => ?_, fun σ H env st S φ Q E I f => ?_⟩
  · have F : FnOk X.prog X.w X.K X.mg X.base (L2.CX X.prog X.w) Γ.k fa fd ps (spF Γ.K Γ.cf fi) := by rw [g.prog, g.w, g.K, g.mg, g.base]; exact h4
    exact pe_call0 F (g.room.mono (Nat.le_succ _)) (g.gl hg) (by rw [g.mg]; exact h1) (by rw [g.K]; exact h2) (by rw [g.K]; exact h3) .nil passL n1
  · unfold ev evL at f
    exact call_sem (o := o) (E := E0) (bw := borrows env .nil) I .nil (fun _ => .nil) f

/-! ### new lists -/
theorem SI.moreO {K : PySem.W.Frag} {S : Addr → Prop} {φ : List Addr} {H : Hp} {st : Sto} {a : Addr} {o : SO} (I : SI K S φ H st) (h1 : ¬ S a) (h2 : a ∉ φ) (h3 : ORep K S φ H a o) : SI K S (φ ++ [a]) H (st ++ [o]) := by
  refine ⟨I.dom, fun b hb => ?_, by simp [I.len], ?_, fun n b es e1 e2 => ?_⟩
  · rcases List.mem_append.mp hb with q | q
    · exact I.dis b q
    · have : b = a := by simpa using q
      rw [this]; exact h1
  · rw [List.nodup_append]
    exact ⟨I.nd, by simp, fun x hx y hy => by
      have : y = a := by simpa using hy
      rw [this]; intro q; rw [q] at hx; exact h2 hx⟩
  · by_cases hn : n < φ.length
    · rw [List.getElem?_append_left hn] at e1
      rw [List.getElem?_append_left (by rw [← I.len]; exact hn)] at e2
      exact (I.obj n b es e1 e2).tr (fun _ _ => rfl) (fun _ q => q) ⟨[a], rfl⟩ rfl
    · have hn' : n = φ.length := by
        have := (List.getElem?_eq_some_iff.mp e1).1
        simp at this; omega
      subst hn'
      simp at e1
      rw [I.len] at e2
      simp at e2
      subst e1 e2
      exact h3.tr (fun _ _ => rfl) (fun _ q => q) ⟨[a], rfl⟩ rfl
theorem SI.more {K : PySem.W.Frag} {S : Addr → Prop} {φ : List Addr} {H : Hp} {st : Sto} {a : Addr} {vs : List V} {ds : List D} (I : SI K S φ H st) (h1 : ¬ S a) (h2 : a ∉ φ) (h3 : H a = some (.lst vs)) (r : RepL K S φ H vs ds) : SI K S (φ ++ [a]) H (st ++ [.lst ds]) :=
  I.moreO h1 h2 (o := .lst ds) ⟨vs, h3, r⟩
theorem SI.add {K : PySem.W.Frag} {S : Addr → Prop} {φ : List Addr} {H : Hp} {st : Sto} {a : Addr} (I : SI K S φ H st) (h2 : a ∉ φ) (h3 : H a ≠ none) : SI K (add S a) φ H st := by
  refine ⟨fun b q => ?_, fun b hb q => ?_, I.len, I.nd, fun n b es e1 e2 => ?_⟩
  · rcases q with q | q
    · exact I.dom b q
    · rw [q]; exact h3
  · rcases q with q | q
    · exact I.dis b hb q
    · exact h2 (q ▸ hb)
  · exact (I.obj n b es e1 e2).tr (fun _ _ => rfl) (fun _ q => .inl q) ⟨[], by simp⟩ rfl
theorem Stp.addS {S S' : Addr → Prop} {φ φ' : List Addr} {H H' : Hp} {a : Addr} (x : Stp S φ H S' φ' H') (h : H a = none) : Stp S φ H (PV.add S' a) φ' H' :=
  ⟨x.keep, x.some, fun b q => .inl (x.sub b q), fun b q => by
    rcases q with q | q
    · exact x.new b q
    · rw [q]; exact .inr h, x.phi⟩
theorem Stp.addP {S S' : Addr → Prop} {φ φ' : List Addr} {H H' : Hp} {a : Addr} (x : Stp S φ H S' φ' H') (h : H a = none) : Stp S φ H S' (φ' ++ [a]) H' :=
  ⟨x.keep, x.some, x.sub, x.new, let ⟨ψ, e, q⟩ := x.phi; ⟨ψ ++ [a], by rw [e, List.append_assoc], fun b hb => by
    rcases List.mem_append.mp hb with z | z
    · exact q b z
    · have : b = a := by simpa using z
      rw [this]; exact h⟩⟩
theorem se_fz {cf gs} {c : Fx} (h : SF Γ L e (evF cf gs c)) : SE Γ L o e (ev cf gs o (.fz c)) := by
  obtain ⟨t, p, q⟩ := h
  refine ⟨t, p, fun σ H env st S φ Q E I f => q σ H env st S φ Q E I ?_⟩
  unfold ev at f
  obtain ⟨ds, s1, e1, f⟩ := f.bind
  rw [e1]
  exact fun a vs H' S' φ' x I' h1 h2 h3 h4 r => f _ H' (add S' a) φ' (x.addS h1) (I'.add h3 (by rw [h4]; simp)) (.inl (.lst (.inr rfl) h4 (r.tr (fun _ _ => rfl) (fun _ q => .inl q) ⟨[], by simp⟩)))
theorem se_alloc {cf gs} {c : Fx} (h : SF Γ L e (evF cf gs c)) : SE Γ L o e (ev cf gs o (.alloc c)) := by
  obtain ⟨t, p, q⟩ := h
  refine ⟨t, p, fun σ H env st S φ Q E I f => q σ H env st S φ Q E I ?_⟩
  unfold ev at f
  obtain ⟨ds, s1, e1, f⟩ := f.bind
  rw [e1]
  exact fun a vs H' S' φ' x I' h1 h2 h3 h4 r => f _ H' S' (φ' ++ [a]) (x.addP h1) (I'.more h2 h3 h4 r) (.inl (.loc (by rw [← I'.len]; simp)))
theorem sf_dsp {es : Exs} {xs : List Expr} {pos : Pos} {cf gs} (hz : es.len ≤ 1000) (h : SL Γ L false xs (evL cf gs false es)) : SF Γ L (.List xs pos) (evF cf gs (.dsp es)) := by
  obtain ⟨t, p, q⟩ := h
  refine ⟨tLst t, fun X g => pe_lst (p X g), fun σ H env st S φ Q E I f => ?_⟩
  unfold evF at f
  cases e1 : evL cf gs false es env st with
  | err => rw [e1] at f; exact False.elim f
  | ok ds s1 =>
    rw [e1] at f
    refine SLL.use q E I e1 fun vs H1 S1 φ1 x1 E1 I1 r1 => ?_
    have r := reps_of r1
    refine ⟨by rw [line_eq, r.length, evL_len e1]; show _ ≤ 16777216; omega, fun a ha => ?_⟩
    obtain ⟨n1, n2⟩ := I1.fresh ha
    exact f a vs _ S1 φ1 (x1.trans (Stp.alloc0 ha)) (I1.alloc0 ha) (x1.free ha) n1 n2 upd_same (r.mono (Stp.alloc0 ha) I1)
theorem sf_lof (Γok : CtxOk Γ) {ca : Ex} {x : Str} {p pos : Pos} {cf gs} (hx : x = ("list" : Str)) (hf : x ∈ Γ.m.fr) (hg : glB L.sc x = true) (hk : okN x = true) (hst : ∀ env r, starEach (a :: r) env = (false, eval a env) :: starEach r env)
    (h : SE Γ L true a (ev cf gs true ca)) : SF Γ L (.Call (.Name x p) [a] [] pos) (evF cf gs (.lof ca)) := by
  obtain ⟨t, p1, q1⟩ := h
  obtain ⟨n1, n2, n3⟩ := okN_of hk
  refine ⟨tCB (fun xs H Q => ∃ p ys, xs = [.ref p] ∧ (SqL Γ.K H p ys ∨ SqT Γ.K H p ys) ∧ ∀ l, H l = none → Q (.ref l) (upd H l (.lst ys))) (tCons t tNil), fun X g => ?_, fun σ H env st S φ Q E I f => ?_⟩
  · rw [← g.K]
    exact pe_callTy call_list_of (g.gl hg) (by rw [g.mg]; exact Γok.fr _ hf) (by rw [hx]; decide +kernel) (pa_cons (p1 X g) pa_nil (hst _ _)) n3 n1 (hst _ _) rfl
  · unfold evF at f
    obtain ⟨d1, s1, e1, f⟩ := f.bind
    refine SE.use q1 E I e1 fun v H1 S1 φ1 x1 E1 I1 r1 => ?_
    have rd := r1.rd I1
    have fin : ∀ {ys : List V} {ds : List D}, RepL Γ.K S1 φ1 H1 ys ds → FinF Γ.K S φ H Q (.ok ds s1) → ∀ l, H1 l = none → Q (.ref l) (upd H1 l (.lst ys)) := fun {ys ds} r f l hl => by
      obtain ⟨n1, n2⟩ := I1.fresh hl
      exact f l ys _ S1 φ1 (x1.trans (Stp.alloc0 hl)) (I1.alloc0 hl) (x1.free hl) n1 n2 upd_same (r.mono (Stp.alloc0 hl) I1)
    split at f
    · rename_i ds he
      rw [he] at rd
      obtain ⟨a, ys, rfl, h1, r⟩ := rd.lst
      exact ⟨a, ys, rfl, .inl (.inl (.inl h1)), fin r f⟩
    · rename_i ds he
      rw [he] at rd
      obtain ⟨a, ys, rfl, h1, r, _⟩ := rd.tup
      exact ⟨a, ys, rfl, .inr h1, fin r f⟩
    · exact False.elim f

theorem repL_rg {K : PySem.W.Frag} {S : Addr → Prop} {φ : List Addr} {H : Hp} {j : Int} : RepL K S φ H (rgV 0 j) (rangeL 0 1 j.toNat) := by
  have e : ∀ l : List Nat, RepL K S φ H (l.map fun i => V.int (0 + ((i : Nat) : Int))) (l.map fun i => D.int (0 + ((i : Nat) : Int) * 1)) := fun l => by
    induction l with
    | nil => exact .nil
    | cons x l ih => rw [List.map_cons, List.map_cons, Int.mul_one]; exact .cons (.int _) ih
  have q : (j - 0).toNat = j.toNat := by omega
  unfold rgV rangeL
  rw [q]
  exact e _
theorem sf_lrg (Γok : CtxOk Γ) {ca : Ex} {x y : Str} {p p2 pos pos2 : Pos} {cf gs} (hx : x = ("list" : Str)) (hf : x ∈ Γ.m.fr) (hg : glB L.sc x = true) (hk : okN x = true) (hx2 : y = ("range" : Str)) (hf2 : y ∈ Γ.m.fr) (hg2 : glB L.sc y = true) (hk2 : okN y = true)
    (hst : ∀ env r, starEach (a :: r) env = (false, eval a env) :: starEach r env) (h : SE Γ L true a (ev cf gs true ca)) : SF Γ L (.Call (.Name x p) [.Call (.Name y p2) [a] [] pos2] [] pos) (evF cf gs (.lrg ca)) := by
  obtain ⟨t, p1, q1⟩ := h
  subst hx hx2
  refine ⟨tLstRg (tRg1 t), fun X g => ?_, fun σ H env st S φ Q E I f => ?_⟩
  · exact pe_listRg g.calm (g.gl hg) (by rw [g.mg]; exact Γok.fr _ hf) (prg_1 (g.gl hg2) (by rw [g.mg]; exact Γok.fr _ hf2) (p1 X g) (hst _ _))
  · unfold evF at f
    obtain ⟨d1, s1, e1, f⟩ := f.bind
    refine SE.use q1 E I e1 fun v H1 S1 φ1 x1 E1 I1 r1 => ?_
    cases d1 with
    | int j =>
      have rv := r1.rd0.int
      subst rv
      simp only [rngL?] at f
      by_cases c : -1000000 ≤ j ∧ j ≤ 1000000
      · rw [if_pos c] at f
        refine ⟨j, rfl, ⟨by omega, by omega, by omega, by omega, by omega⟩, fun l hl => ?_⟩
        obtain ⟨n1, n2⟩ := I1.fresh hl
        exact f l (rgV 0 j) _ S1 φ1 (x1.trans (Stp.alloc0 hl)) (I1.alloc0 hl) (x1.free hl) n1 n2 upd_same repL_rg
      · rw [if_neg c] at f; exact False.elim f
    | _ => exact False.elim f

/-! ### targets -/
theorem set_get {α : Type} {l : List (Option α)} {i j : Nat} {x y : α} (h : (l.set i (some x))[j]? = some (some y)) : (i = j ∧ y = x ∧ i < l.length) ∨ (i ≠ j ∧ l[j]? = some (some y)) := by
  by_cases e : i = j
  · subst e
    by_cases hi : i < l.length
    · rw [List.getElem?_set_self hi] at h; cases h; exact .inl ⟨rfl, rfl, hi⟩
    · rw [List.getElem?_eq_none (by simpa using hi)] at h; cases h
  · rw [List.getElem?_set_ne e] at h; exact .inr ⟨e, h⟩
theorem EI.setV {K : PySem.W.Frag} {S : Addr → Prop} {φ : List Addr} {H : Hp} {σ : L2.St} {env : Env} {i : Nat} {v : V} {d : D} (E : EI K S φ H σ env) (r : Rep K S φ H v d) : EI K S φ H (σ.set i (some v)) (env.set i (some (.val d))) := by
  refine ⟨by simp [E.len], fun j d' h => ?_, fun j ds h => ?_, fun j l ds es a h1 h2 h3 h4 => ?_⟩
  · rcases set_get h with ⟨rfl, e, hi⟩ | ⟨n, h⟩
    · cases e; exact ⟨v, List.getElem?_set_self (by rw [← E.len]; exact hi), r⟩
    · obtain ⟨w, e, q⟩ := E.val j d' h
      exact ⟨w, by rw [List.getElem?_set_ne n]; exact e, q⟩
  · rcases set_get h with ⟨_, e, _⟩ | ⟨n, h⟩
    · cases e
    · obtain ⟨a, vs, e, q⟩ := E.own j ds h
      exact ⟨a, vs, by rw [List.getElem?_set_ne n]; exact e, q⟩
  · rcases set_get h1 with ⟨_, e, _⟩ | ⟨n, h1⟩
    · cases e
    · rcases set_get h2 with ⟨_, e, _⟩ | ⟨n2, h2⟩
      · cases e
      · rw [List.getElem?_set_ne n] at h3
        rw [List.getElem?_set_ne n2] at h4
        exact E.inj j l ds es a h1 h2 h3 h4
theorem wipe_set {σ : L2.St} {i : Nat} {x : Option V} : ∀ {vs : List Nat}, i ∈ vs → wipe (σ.set i x) vs = wipe σ vs
  | v :: vs, h => by
    unfold wipe
    by_cases hv : i ∈ vs
    · rw [wipe_set hv]
    · have e : i = v := by
        rcases List.mem_cons.mp h with q | q
        · exact q
        · exact absurd q hv
      subst e
      have : ∀ {ws : List Nat}, i ∉ ws → wipe (σ.set i x) ws = (wipe σ ws).set i x := by
        intro ws
        induction ws with
        | nil => intro _; rfl
        | cons w ws ih =>
          intro hn
          unfold wipe
          rw [ih fun q => hn (List.mem_cons_of_mem _ q), List.set_comm _ _ (fun q => hn (by rw [q]; exact List.mem_cons_self))]
      rw [this hv, List.set_set]
theorem kept_set {env : Env} {σ : L2.St} {i : Nat} {d : D} {v : V} : Kept env σ (env.set i (some (.val d))) (σ.set i (some v)) := fun j ds h => by
  rcases set_get h with ⟨_, e, _⟩ | ⟨n, h⟩
  · cases e
  · exact ⟨h, List.getElem?_set_ne n⟩
mutual
theorem sg_of (Γok : CtxOk Γ) : ∀ {c : Tg} {tg : Expr}, mT Γ.m L.fb L.sc c tg = true → SG Γ L tg c
  | .nm i, tg, h => by
    unfold mT at h
    split at h
    · rename_i x pos
      simp only [Bool.and_eq_true, Bool.or_eq_true, decide_eq_true_eq] at h
      obtain ⟨⟨h1, h2⟩, h3⟩ := h
      refine ⟨gName i, fun X g => pg_name (by rw [g.N]; exact Γok.nd) (by rw [g.N]; exact h1) (by rw [g.sc]; exact loc_of h2) (by
        rw [g.fn, g.sc]; exact h3), fun v d σ H env env' S φ st Q E I r e q => ?_⟩
      cases e
      exact q _ ⟨fun vs hv => wipe_set (by simpa [tgIn] using hv), kept_set⟩ (E.setV r)
    · cases h
  | .tp ts, tg, h => by
    unfold mT at h
    split at h
    · rename_i xs k pos
      obtain ⟨g, p, hl, hn, hb, q⟩ := sgs_of Γok h
      refine ⟨gTup Γ.K xs.length g, fun X gd => by
        rw [← gd.K]
        exact pg_tup gd.calm (p X gd) (hl X.env) (hn X.env), fun v d σ H env env' S φ st Q E I r e z => ?_⟩
      cases d with
      | tup ds =>
        cases r with
        | tup h r =>
          have e' : bindTs ts ds env = some env' := e
          exact ⟨_, _, rfl, h.sq, by rw [r.length]; exact hb ds env env' e', q _ ds σ H env env' S φ st Q E I r e' z⟩
      | _ => cases e
    · cases h
theorem sgs_of (Γok : CtxOk Γ) : ∀ {cs : Tgs} {tgs : List Expr}, mTs Γ.m L.fb L.sc cs tgs = true → ∃ g : TGs, (∀ X, Good Γ L X → PGs X tgs g) ∧ (∀ env, (assignEach tgs env).length = tgs.length) ∧ (∀ env, (assignEach tgs env).findIdx? (·.1) = none) ∧ (∀ ds env env', bindTs cs ds env = some env' → ds.length = tgs.length) ∧
    ∀ vs ds σ H env env' S φ st (Q : L2.St → Hp → Prop), EI Γ.K S φ H σ env → SI Γ.K S φ H st → RepL Γ.K S φ H vs ds → bindTs cs ds env = some env' →
      (∀ σ', ((∀ ws, tgsIn ws cs = true → wipe σ' ws = wipe σ ws) ∧ Kept env σ env' σ') → EI Γ.K S φ H σ' env' → Q σ' H) → g vs σ H Q
  | .nil, tgs, h => by
    unfold mTs at h
    split at h
    · refine ⟨gNil, fun X g => pgs_nil, fun _ => rfl, fun _ => rfl, (fun ds env env' e => by
        cases ds with
        | nil => rfl
        | cons d ds => cases e), fun vs ds σ H env env' S φ st Q E I r e q => ?_⟩
      cases ds with
      | nil => cases r; cases e; exact ⟨rfl, q σ ⟨fun _ _ => rfl, fun _ _ h => ⟨h, rfl⟩⟩ E⟩
      | cons d ds => cases e
    · cases h
  | .c t ts, tgs, h => by
    unfold mTs at h
    split at h
    · rename_i x xs
      simp only [Bool.and_eq_true] at h
      obtain ⟨g1, p1, q1⟩ := sg_of Γok h.1
      obtain ⟨g2, p2, hl, hn, hb, q2⟩ := sgs_of Γok h.2
      have hs : ∀ env, assignEach (x :: xs) env = (false, assign x env) :: assignEach xs env := fun env => by
        cases x with
        | Starred y p =>
          exfalso
          have h1 := h.1
          cases t <;> simp [mT] at h1
        | _ => rfl
      refine ⟨gCons g1 g2, fun X g => pgs_cons (p1 X g) (p2 X g) (by rw [hs]; rfl), fun env => by rw [hs]; simp [hl env], fun env => by rw [hs, List.findIdx?_cons]; simp [hn env], (fun ds env env' e => by
        cases ds with
        | nil => cases e
        | cons d ds =>
          have e' : (match bindT t d env with
            | some env' => bindTs ts ds env'
            | none => none) = some env' := e
          cases eb : bindT t d env with
          | none => rw [eb] at e'; cases e'
          | some env1 => rw [eb] at e'; simp [hb ds env1 env' e']), fun vs ds σ H env env' S φ st Q E I r e q => ?_⟩
      cases ds with
      | nil => cases e
      | cons d ds =>
        cases r with
        | cons r1 r2 =>
          have e' : (match bindT t d env with
            | some env' => bindTs ts ds env'
            | none => none) = some env' := e
          cases eb : bindT t d env with
          | none => rw [eb] at e'; cases e'
          | some env1 =>
            rw [eb] at e'
            refine ⟨_, _, rfl, q1 _ d σ H env env1 S φ st _ E I r1 eb fun σ1 w1 E1 => ?_⟩
            refine q2 _ ds σ1 H env1 env' S φ st Q E1 I r2 e' fun σ2 w2 E2 => q σ2 ⟨fun ws hw => ?_, w1.2.trans w2.2⟩ E2
            have := Bool.and_eq_true_iff.mp (show (tgIn ws t && tgsIn ws ts) = true from hw)
            rw [w2.1 ws this.2, w1.1 ws this.1]
    · cases h
end
end
end PV
set_option maxRecDepth 100000
set_option maxHeartbeats 4000000
/-! Iterators, comprehensions. -/
namespace PV
open PySem PySem.Spec PyProof.Rows L2
section
variable {K : PySem.W.Frag} {o : Bool} {S : Addr → Prop} {φ : List Addr} {H : Hp} {ds es : List D} {vs ws : List V}
/-! ### iterators -/
theorem jok_list {a : Addr} (ho : a ∉ φ) (hs : o = false → S a) (h : H a = some (.lst vs)) (r : RepL K S φ H vs ds) : JOk K o S φ H (Itl K a) ds := by
  refine ⟨[a], fun b hb => ?_, fun S2 φ2 H2 hw hk sub hφ => ?_⟩
  · have : b = a := by simpa using hb
    subst this
    exact ⟨by rw [h]; simp, ho, hs⟩
  · have e2 : H2 a = some (.lst vs) := (hw a (by simp)).trans h
    have W := walk_list (K := K) (a := a) (xs := vs)
    have q : SqL K H2 a vs := .inl (.inl e2)
    rw [← r.length]
    refine ⟨fun i hi => W.goes i H2 hi q, W.stops H2 q, fun i d x H3 e y st2 I2 => ?_⟩
    have hi : i < vs.length := by rw [r.length]; exact (List.getElem?_eq_some_iff.mp e).1
    obtain ⟨rfl, ex⟩ := W.yields i H2 x H3 hi q y
    obtain ⟨v, ev, rv⟩ := r.get e
    rw [ex] at ev; cases ev
    exact ⟨S2, .refl, I2, rv.tr hk sub hφ⟩
theorem jok_tup {a : Addr} (h : Tp K S H a vs) (r : RepL K S φ H vs ds) : JOk K o S φ H (Itt K a) ds := by
  refine ⟨[], fun b hb => by simp at hb, fun S2 φ2 H2 hw hk sub hφ => ?_⟩
  have W := walk_tup (K := K) (a := a) (xs := vs)
  have q : SqT K H2 a vs := by
    rcases h with ⟨h1, h2⟩ | h
    · exact .inl (.inl ((hk a h1).trans h2))
    · exact .inr h
  rw [← r.length]
  refine ⟨fun i hi => W.goes i H2 hi q, W.stops H2 q, fun i d x H3 e y st2 I2 => ?_⟩
  have hi : i < vs.length := by rw [r.length]; exact (List.getElem?_eq_some_iff.mp e).1
  obtain ⟨rfl, ex⟩ := W.yields i H2 x H3 hi q y
  obtain ⟨v, ev, rv⟩ := r.get e
  rw [ex] at ev; cases ev
  exact ⟨S2, .refl, I2, rv.tr hk sub hφ⟩
theorem jok_str {z : Str} : JOk K o S φ H (Its z) (z.cps.toList.map fun c => .str ⟨#[c]⟩) := by
  refine ⟨[], fun b hb => by simp at hb, fun S2 φ2 H2 hw hk sub hφ => ?_⟩
  have W := walk_str (z := z)
  have el : (z.cps.toList.map fun c => D.str ⟨#[c]⟩).length = z.cps.size := by simp
  rw [el]
  refine ⟨fun i hi => W.goes i H2 hi trivial, W.stops H2 trivial, fun i d x H3 e y st2 I2 => ?_⟩
  have hi : i < z.cps.size := by rw [← el]; exact (List.getElem?_eq_some_iff.mp e).1
  obtain ⟨rfl, c, ec, rfl⟩ := W.yields i H2 x H3 hi trivial y
  rw [List.getElem?_map, Array.getElem?_toList, ec] at e
  cases e
  exact ⟨S2, .refl, I2, .str _⟩
theorem jok_range {lo : Int} {n : Nat} : JOk K o S φ H (Itr lo n) (rangeL lo 1 n) := by
  refine ⟨[], fun b hb => by simp at hb, fun S2 φ2 H2 hw hk sub hφ => ?_⟩
  have W := walk_range (lo := lo) (n := n)
  have el : (rangeL lo 1 n).length = n := by simp [rangeL]
  rw [el]
  refine ⟨fun i hi => W.goes i H2 hi trivial, W.stops H2 trivial, fun i d x H3 e y st2 I2 => ?_⟩
  have hi : i < n := by rw [← el]; exact (List.getElem?_eq_some_iff.mp e).1
  obtain ⟨rfl, rfl⟩ := W.yields i H2 x H3 hi trivial y
  unfold rangeL at e
  rw [List.getElem?_map, List.getElem?_range hi] at e
  cases e
  show ∃ S3, _ ∧ _ ∧ Rep K S3 φ2 _ (.int (lo + (i : Nat))) (.int (lo + (i : Nat) * 1))
  rw [Int.mul_one]
  exact ⟨S2, .refl, I2, .int _⟩
/-- a new pair -/
theorem pair_new {st : Sto} {T : Addr} {x y : V} {d e : D} (I : SI K S φ H st) (hT : H T = none) (rx : Rep K S φ H x d) (ry : Rep K S φ H y e) :
    ∃ S3, Stp S φ H S3 φ (upd H T (.tup [x, y])) ∧ SI K S3 φ (upd H T (.tup [x, y])) st ∧ Rep K S3 φ (upd H T (.tup [x, y])) (.ref T) (.tup [d, e]) :=
  ⟨add S T, Stp.alloc hT, I.alloc hT, rep_tup I hT (.cons rx (.cons ry .nil))⟩
def enumL (ds : List D) : List D := (List.range ds.length).zipWith (fun (i : Nat) d => D.tup [.int i, d]) ds
theorem enumL_get {i : Nat} {d : D} (h : (enumL ds)[i]? = some d) : ∃ e, ds[i]? = some e ∧ d = .tup [.int i, e] := by
  unfold enumL at h
  rw [List.getElem?_zipWith] at h
  cases h2 : ds[i]? with
  | none => rw [h2] at h; simp at h
  | some e =>
    have hi := (List.getElem?_eq_some_iff.mp h2).1
    rw [h2, List.getElem?_range hi] at h
    cases h
    exact ⟨e, rfl, rfl⟩
theorem enumL_len : (enumL ds).length = ds.length := by simp [enumL]
theorem jok_enum {a : Addr} (ho : a ∉ φ) (hs : o = false → S a) (h : H a = some (.lst vs)) (r : RepL K S φ H vs ds) : JOk K o S φ H (Ite K a) (enumL ds) := by
  refine ⟨[a], fun b hb => ?_, fun S2 φ2 H2 hw hk sub hφ => ?_⟩
  · have : b = a := by simpa using hb
    subst this
    exact ⟨by rw [h]; simp, ho, hs⟩
  · have e2 : H2 a = some (.lst vs) := (hw a (by simp)).trans h
    have W := walk_enum (K := K) (a := a) (xs := vs)
    have q : SqL K H2 a vs := .inl (.inl e2)
    rw [enumL_len, ← r.length]
    refine ⟨fun i hi => W.goes i H2 hi q, W.stops H2 q, fun i d x H3 e y st2 I2 => ?_⟩
    obtain ⟨e, ee, rfl⟩ := enumL_get e
    have hi : i < vs.length := by rw [r.length]; exact (List.getElem?_eq_some_iff.mp ee).1
    obtain ⟨T, x1, x2, rfl, hT, rfl, h1, h2⟩ := W.yields i H2 x H3 hi q y
    cases h1
    obtain ⟨v, ev, rv⟩ := r.get ee
    have h2' : vs[i]? = some x2 := h2
    rw [h2'] at ev; cases ev
    exact pair_new I2 hT (.int _) (rv.tr hk sub hφ)
theorem walk_enumT {a : Addr} {xs : List V} : Walk (IteT K a) xs.length (fun H => SqT K H a xs) (YPair (fun i => some (.int (i : Nat))) (fun i => xs[i]?)) := by
  refine ⟨fun i _ hi q => ⟨xs, xs[i], q, by simp [hi]⟩, fun _ q => ⟨xs, q, rfl⟩, fun i H v H' _ q y => ?_⟩
  obtain ⟨T, x, h1, h2, h3, h4⟩ := y
  exact ⟨T, .int (i : Nat), x, h1, h2, h3, rfl, h4 xs q⟩
theorem jok_enumT {a : Addr} (h : Tp K S H a vs) (r : RepL K S φ H vs ds) : JOk K o S φ H (IteT K a) (enumL ds) := by
  refine ⟨[], fun b hb => by simp at hb, fun S2 φ2 H2 hw hk sub hφ => ?_⟩
  have W := walk_enumT (K := K) (a := a) (xs := vs)
  have q : SqT K H2 a vs := by
    rcases h with ⟨h1, h2⟩ | h
    · exact .inl (.inl ((hk a h1).trans h2))
    · exact .inr h
  rw [enumL_len, ← r.length]
  refine ⟨fun i hi => W.goes i H2 hi q, W.stops H2 q, fun i d x H3 e y st2 I2 => ?_⟩
  obtain ⟨e, ee, rfl⟩ := enumL_get e
  have hi : i < vs.length := by rw [r.length]; exact (List.getElem?_eq_some_iff.mp ee).1
  obtain ⟨T, x1, x2, rfl, hT, rfl, h1, h2⟩ := W.yields i H2 x H3 hi q y
  cases h1
  obtain ⟨v, ev, rv⟩ := r.get ee
  have h2' : vs[i]? = some x2 := h2
  rw [h2'] at ev; cases ev
  exact pair_new I2 hT (.int _) (rv.tr hk sub hφ)
def zipL (xs ys : List D) : List D := xs.zipWith (fun a b => D.tup [a, b]) ys
theorem zipL_get {i : Nat} {d : D} (h : (zipL ds es)[i]? = some d) : ∃ a b, ds[i]? = some a ∧ es[i]? = some b ∧ d = .tup [a, b] := by
  unfold zipL at h
  rw [List.getElem?_zipWith] at h
  cases h1 : ds[i]? with
  | none => rw [h1] at h; simp at h
  | some a =>
    cases h2 : es[i]? with
    | none => rw [h1, h2] at h; simp at h
    | some b => rw [h1, h2] at h; cases h; exact ⟨a, b, rfl, rfl, rfl⟩
theorem jok_zip {a b : Addr} (ho : a ∉ φ) (hs : o = false → S a) (h : H a = some (.lst vs)) (r : RepL K S φ H vs ds) (ho' : b ∉ φ) (hs' : o = false → S b) (h' : H b = some (.lst ws)) (r' : RepL K S φ H ws es) : JOk K o S φ H (Itz K a b) (zipL ds es) := by
  refine ⟨[a, b], fun c hc => ?_, fun S2 φ2 H2 hw hk sub hφ => ?_⟩
  · have : c = a ∨ c = b := by simpa using hc
    rcases this with e | e
    · subst e; exact ⟨by rw [h]; simp, ho, hs⟩
    · subst e; exact ⟨by rw [h']; simp, ho', hs'⟩
  · have e2 : H2 a = some (.lst vs) := (hw a (by simp)).trans h
    have e3 : H2 b = some (.lst ws) := (hw b (by simp)).trans h'
    have el : (zipL ds es).length = min vs.length ws.length := by simp [zipL, r.length, r'.length]
    have W := walk_zip (K := K) (a := a) (b := b) (xs := vs) (ys := ws) el
    have q : SqL K H2 a vs ∧ SqL K H2 b ws := ⟨.inl (.inl e2), .inl (.inl e3)⟩
    refine ⟨fun i hi => W.goes i H2 hi q, W.stops H2 q, fun i d x H3 e y st2 I2 => ?_⟩
    have hi := (List.getElem?_eq_some_iff.mp e).1
    obtain ⟨d1, d2, ee1, ee2, rfl⟩ := zipL_get e
    obtain ⟨T, x1, x2, rfl, hT, rfl, h1, h2⟩ := W.yields i H2 x H3 hi q y
    obtain ⟨v, ev, rv⟩ := r.get ee1
    obtain ⟨v', ev', rv'⟩ := r'.get ee2
    have h1' : vs[i]? = some x1 := h1
    have h2' : ws[i]? = some x2 := h2
    rw [h1'] at ev; cases ev
    rw [h2'] at ev'; cases ev'
    exact pair_new I2 hT (rv.tr hk sub hφ) (rv'.tr hk sub hφ)
theorem walk_zipT {a b : Addr} {xs ys : List V} {n : Nat} (hn : n = min xs.length ys.length) : Walk (RZ.ItzT K a b) n (fun H => SqT K H a xs ∧ SqT K H b ys) (YPair (fun i => xs[i]?) (fun i => ys[i]?)) := by
  subst hn
  refine ⟨fun i _ hi q => ?_, fun _ q => ⟨xs, ys, q.1, q.2, by omega⟩, fun i H v H' _ q y => ?_⟩
  · have h1 : i < xs.length := by omega
    have h2 : i < ys.length := by omega
    exact ⟨xs, ys, xs[i], ys[i], q.1, q.2, by simp [h1], by simp [h2]⟩
  · obtain ⟨T, x, z, h1, h2, h3, h4, h5⟩ := y
    exact ⟨T, x, z, h1, h2, h3, h4 xs q.1, h5 ys q.2⟩
theorem jok_zipT {a b : Addr} (h : Tp K S H a vs) (r : RepL K S φ H vs ds) (h' : Tp K S H b ws) (r' : RepL K S φ H ws es) : JOk K o S φ H (RZ.ItzT K a b) (zipL ds es) := by
  refine ⟨[], fun b hb => by simp at hb, fun S2 φ2 H2 hw hk sub hφ => ?_⟩
  have el : (zipL ds es).length = min vs.length ws.length := by simp [zipL, r.length, r'.length]
  have W := walk_zipT (K := K) (a := a) (b := b) (xs := vs) (ys := ws) el
  have up : ∀ {a : Addr} {vs : List V}, Tp K S H a vs → SqT K H2 a vs := fun {a vs} h => by
    rcases h with ⟨h1, h2⟩ | h
    · exact .inl (.inl ((hk a h1).trans h2))
    · exact .inr h
  have q : SqT K H2 a vs ∧ SqT K H2 b ws := ⟨up h, up h'⟩
  refine ⟨fun i hi => W.goes i H2 hi q, W.stops H2 q, fun i d x H3 e y st2 I2 => ?_⟩
  have hi := (List.getElem?_eq_some_iff.mp e).1
  obtain ⟨d1, d2, ee1, ee2, rfl⟩ := zipL_get e
  obtain ⟨T, x1, x2, rfl, hT, rfl, h1, h2⟩ := W.yields i H2 x H3 hi q y
  obtain ⟨v, ev, rv⟩ := r.get ee1
  obtain ⟨v', ev', rv'⟩ := r'.get ee2
  have h1' : vs[i]? = some x1 := h1
  have h2' : ws[i]? = some x2 := h2
  rw [h1'] at ev; cases ev
  rw [h2'] at ev'; cases ev'
  exact pair_new I2 hT (rv.tr hk sub hφ) (rv'.tr hk sub hφ)
theorem repM_lst {v : V} {st : Sto} (I : SI K S φ H st) (h : RepM o K S φ H v (.lst ds)) : ∃ a vs, v = .ref a ∧ a ∉ φ ∧ (o = false → S a) ∧ H a = some (.lst vs) ∧ RepL K S φ H vs ds := by
  rcases h with h | ⟨e, a, vs, ds', rfl, e2, h1, h2, h3⟩
  · cases h with
    | lst hs h r => exact ⟨_, _, rfl, fun q => I.dis _ q hs, fun _ => hs, h, r⟩
  · cases e2
    exact ⟨a, vs, rfl, h1, (fun q => by rw [e] at q; cases q), h2, h3⟩
theorem repM_tup {v : V} (h : RepM o K S φ H v (.tup ds)) : ∃ a vs, v = .ref a ∧ Tp K S H a vs ∧ RepL K S φ H vs ds := by
  rcases h with h | ⟨e, a, vs, ds', rfl, e2, h1, h2, h3⟩
  · cases h with
    | tup h r => exact ⟨_, _, rfl, h, r⟩
  · cases e2
end
section
variable {Γ : Ctx} {L : LC} {o : Bool} {e a b : Expr} {tg : Expr}
theorem ss_seq {ca : Ex} {cf gs} (h : SE Γ L o a (ev cf gs o ca)) : SS Γ L o tg a (evI cf gs o (.seq ca)) := by
  obtain ⟨t, p, q⟩ := h
  refine ⟨iSeq Γ.K t, fun X g => by rw [← g.K]; exact pi_seq (p X g), fun σ H env st S φ R E I f => ?_⟩
  unfold evI at f
  obtain ⟨d, s1, e1, f1⟩ := f.bind
  refine SE.use q E I e1 fun v H1 S1 φ1 x1 E1 I1 r1 => ?_
  cases d with
  | lst ds =>
    obtain ⟨a, vs, rfl, h1, h2, h3, h4⟩ := repM_lst I1 r1
    exact .inl ⟨a, rfl, .inl ⟨vs, .inl (.inl h3), f1 _ H1 S1 φ1 x1 I1 (jok_list h1 h2 h3 h4)⟩⟩
  | tup ds =>
    obtain ⟨a, vs, rfl, h1, h2⟩ := repM_tup r1
    exact .inl ⟨a, rfl, .inr ⟨vs, h1.sq, f1 _ H1 S1 φ1 x1 I1 (jok_tup h1 h2)⟩⟩
  | str z =>
    have := r1.rd0.str
    exact .inr ⟨z, this, f1 _ H1 S1 φ1 x1 I1 jok_str⟩
  | _ => exact False.elim f1
theorem ss_enm (Γok : CtxOk Γ) {ca : Ex} {cf gs} {x : Str} {p pos tpos : Pos} {elts : List Expr} {kk : Nat} (hx : x = ("enumerate" : Str)) (hf : x ∈ Γ.m.fr) (hg : glB L.sc x = true)
    (hst : ∀ env r, starEach (a :: r) env = (false, eval a env) :: starEach r env) (h : SE Γ L o a (ev cf gs o ca)) : SS Γ L o (.Tuple elts kk tpos) (.Call (.Name x p) [a] [] pos) (evI cf gs o (.enm ca)) := by
  obtain ⟨t, p1, q⟩ := h
  subst hx
  refine ⟨iEnumA Γ.K (tCons t tNil), fun X g => by rw [← g.K]; exact pi_enumA (g.gl hg) (by rw [g.mg]; exact Γok.fr _ hf) (pa_cons (p1 X g) pa_nil (hst _ _)) (hst _ _), fun σ H env st S φ R E I f => ?_⟩
  unfold evI at f
  obtain ⟨d, s1, e1, f1⟩ := f.bind
  refine SE.use q E I e1 fun v H1 S1 φ1 x1 E1 I1 r1 => ?_
  cases d with
  | lst ds =>
    obtain ⟨a, vs, rfl, h1, h2, h3, h4⟩ := repM_lst I1 r1
    exact ⟨a, vs, rfl, .inl ⟨.inl (.inl h3), f1 _ H1 S1 φ1 x1 I1 (jok_enum h1 h2 h3 h4)⟩⟩
  | tup ds =>
    obtain ⟨a, vs, rfl, h1, h2⟩ := repM_tup r1
    exact ⟨a, vs, rfl, .inr ⟨h1.sq, f1 _ H1 S1 φ1 x1 I1 (jok_enumT h1 h2)⟩⟩
  | _ => exact False.elim f1
theorem ss_zip (Γok : CtxOk Γ) {ca cb : Ex} {cf gs} {x : Str} {p pos tpos : Pos} {elts : List Expr} {kk : Nat} (hx : x = ("zip" : Str)) (hf : x ∈ Γ.m.fr) (hg : glB L.sc x = true)
    (hst : ∀ env r, starEach (a :: r) env = (false, eval a env) :: starEach r env) (hst2 : ∀ env r, starEach (b :: r) env = (false, eval b env) :: starEach r env) (h : SE Γ L o a (ev cf gs o ca)) (h2 : SE Γ L o b (ev cf gs o cb)) :
    SS Γ L o (.Tuple elts kk tpos) (.Call (.Name x p) [a, b] [] pos) (evI cf gs o (.zip ca cb)) := by
  obtain ⟨t, p1, q⟩ := h
  obtain ⟨t2, p2, q2⟩ := h2
  subst hx
  refine ⟨RZ.iZipA Γ.K (tCons t (tCons t2 tNil)), fun X g => by rw [← g.K]; exact RZ.pi_zipA (g.gl hg) (by rw [g.mg]; exact Γok.fr _ hf) (pa_cons (p1 X g) (pa_cons (p2 X g) pa_nil (hst2 _ _)) (hst _ _)) (hst _ _) (by rw [hst2]; rfl), fun σ H env st S φ R E I f => ?_⟩
  unfold evI at f
  obtain ⟨d, s1, e1, f1⟩ := f.bind
  obtain ⟨d2, s2, e2, f2⟩ := f1.bind
  refine SE.use q E I e1 fun v H1 S1 φ1 x1 E1 I1 r1 => ?_
  refine SE.use q2 E1 I1 e2 fun w H2 S2 φ2 x2 E2 I2 r2 => ?_
  have r1' := r1.mono x2 I1
  cases d with
  | lst ds =>
    cases d2 with
    | lst es =>
      obtain ⟨a, vs, rfl, h1, h2, h3, h4⟩ := repM_lst I2 r1'
      obtain ⟨b, ws, rfl, k1, k2, k3, k4⟩ := repM_lst I2 r2
      exact ⟨a, b, vs, ws, rfl, .inl ⟨.inl (.inl h3), .inl (.inl k3), f2 _ H2 S2 φ2 (x1.trans x2) I2 (jok_zip h1 h2 h3 h4 k1 k2 k3 k4)⟩⟩
    | _ => exact False.elim f2
  | tup ds =>
    cases d2 with
    | tup es =>
      obtain ⟨a, vs, rfl, h1, h2⟩ := repM_tup r1'
      obtain ⟨b, ws, rfl, k1, k2⟩ := repM_tup r2
      exact ⟨a, b, vs, ws, rfl, .inr ⟨h1.sq, k1.sq, f2 _ H2 S2 φ2 (x1.trans x2) I2 (jok_zipT h1 h2 k1 k2)⟩⟩
    | _ => exact False.elim f2
  | _ => exact False.elim f2
theorem ss_rg1 (Γok : CtxOk Γ) {ca : Ex} {cf gs} {x : Str} {p pos : Pos} (hx : x = ("range" : Str)) (hf : x ∈ Γ.m.fr) (hg : glB L.sc x = true)
    (hst : ∀ env r, starEach (a :: r) env = (false, eval a env) :: starEach r env) (h : SE Γ L true a (ev cf gs true ca)) : SS Γ L o tg (.Call (.Name x p) [a] [] pos) (evI cf gs o (.rg1 ca)) := by
  obtain ⟨t, p1, q⟩ := h
  subst hx
  refine ⟨iRng1 (tCons t tNil), fun X g => pi_range1 (g.gl hg) (by rw [g.mg]; exact Γok.fr _ hf) (pa_cons (p1 X g) pa_nil (hst _ _)) (hst _ _), fun σ H env st S φ R E I f => ?_⟩
  unfold evI at f
  obtain ⟨d, s1, e1, f1⟩ := f.bind
  refine SE.use q E I e1 fun v H1 S1 φ1 x1 E1 I1 r1 => ?_
  unfold rng1? at f1
  split at f1
  · split at f1
    · rename_i j hj
      have := r1.rd0.int
      subst this
      exact ⟨j, rfl, hj.1, hj.2, f1 _ H1 S1 φ1 x1 I1 jok_range⟩
    · exact False.elim f1
  · exact False.elim f1
theorem ss_rg2 (Γok : CtxOk Γ) {ca cb : Ex} {cf gs} {x : Str} {p pos : Pos} (hx : x = ("range" : Str)) (hf : x ∈ Γ.m.fr) (hg : glB L.sc x = true)
    (hst : ∀ env r, starEach (a :: r) env = (false, eval a env) :: starEach r env) (hst2 : ∀ env r, starEach (b :: r) env = (false, eval b env) :: starEach r env) (h : SE Γ L true a (ev cf gs true ca)) (h2 : SE Γ L true b (ev cf gs true cb)) :
    SS Γ L o tg (.Call (.Name x p) [a, b] [] pos) (evI cf gs o (.rg2 ca cb)) := by
  obtain ⟨t, p1, q⟩ := h
  obtain ⟨t2, p2, q2⟩ := h2
  subst hx
  refine ⟨iRng2 (tCons t (tCons t2 tNil)), fun X g => pi_range2 (g.gl hg) (by rw [g.mg]; exact Γok.fr _ hf) (pa_cons (p1 X g) (pa_cons (p2 X g) pa_nil (hst2 _ _)) (hst _ _)) (by rw [hst, hst2]; rfl) (by rw [hst2]; rfl), fun σ H env st S φ R E I f => ?_⟩
  unfold evI at f
  obtain ⟨d, s1, e1, f1⟩ := f.bind
  obtain ⟨d2, s2, e2, f2⟩ := f1.bind
  refine SE.use q E I e1 fun v H1 S1 φ1 x1 E1 I1 r1 => ?_
  refine SE.use q2 E1 I1 e2 fun w H2 S2 φ2 x2 E2 I2 r2 => ?_
  unfold rng2? at f2
  split at f2
  · split at f2
    · rename_i i j hj
      have e1 := r1.rd0.int
      have e2 := r2.rd0.int
      subst e1 e2
      exact ⟨i, j, rfl, hj, f2 _ H2 S2 φ2 (x1.trans x2) I2 jok_range⟩
    · exact False.elim f2
  · exact False.elim f2
theorem ss_no {e : Expr} {m : Env → Sto → Out (List D)} (h : ∀ env s, m env s = .err) : SS Γ L o tg e m :=
  ⟨fun _ _ _ => False, fun X _ => ⟨fun _ _ _ _ _ _ q => q.elim⟩, fun σ H env st S φ R E I f => by rw [h] at f; exact f⟩
end
end PV
set_option maxRecDepth 100000
set_option maxHeartbeats 4000000
/-! Comprehensions. -/
namespace PV
open PySem PySem.Spec PyProof.Rows L2
/-- a step during which the new list at Dl grows -/
structure StpD (Dl : Addr) (S : Addr → Prop) (φ : List Addr) (H : Hp) (S' : Addr → Prop) (φ' : List Addr) (H' : Hp) : Prop where
  keep : ∀ a o, H a = some o → a ∉ φ → a ≠ Dl → H' a = some o
  some : ∀ a, H a ≠ none → H' a ≠ none
  sub : ∀ a, S a → S' a
  new : ∀ a, S' a → S a ∨ H a = none
  phi : ∃ ψ, φ' = φ ++ ψ ∧ ∀ a ∈ ψ, H a = none
section
variable {K : PySem.W.Frag} {Dl : Addr} {S S' S2 : Addr → Prop} {φ φ' φ2 : List Addr} {H H' H2 : Hp} {st st' : Sto}
theorem StpD.of (x : Stp S φ H S' φ' H') : StpD Dl S φ H S' φ' H' := ⟨fun a o h n _ => x.keep a o h n, x.some, x.sub, x.new, x.phi⟩
theorem StpD.to (x : StpD Dl S φ H S' φ' H') (hD : H Dl = none) : Stp S φ H S' φ' H' := ⟨fun a o h n => x.keep a o h n (fun e => by rw [e, hD] at h; cases h), x.some, x.sub, x.new, x.phi⟩
theorem StpD.free (x : StpD Dl S φ H S' φ' H') {a : Addr} (h : H' a = none) : H a = none := by
  cases e : H a with
  | none => rfl
  | some o => exact absurd h (x.some a (by rw [e]; simp))
theorem StpD.trans (x : StpD Dl S φ H S' φ' H') (y : StpD Dl S' φ' H' S2 φ2 H2) : StpD Dl S φ H S2 φ2 H2 := by
  obtain ⟨ψ, e, hf⟩ := x.phi
  obtain ⟨ψ2, e2, hf2⟩ := y.phi
  subst e
  refine ⟨fun a o h ha hd => ?_, fun a h => y.some a (x.some a h), fun a h => y.sub a (x.sub a h), fun a h => ?_, ψ ++ ψ2, by rw [e2, List.append_assoc], fun a ha => ?_⟩
  · refine y.keep a o (x.keep a o h ha hd) (fun hm => ?_) hd
    rcases List.mem_append.mp hm with q | q
    · exact ha q
    · have := hf a q; rw [h] at this; cases this
  · rcases y.new a h with q | q
    · exact x.new a q
    · exact .inr (x.free q)
  · rcases List.mem_append.mp ha with q | q
    · exact hf a q
    · exact x.free (hf2 a q)
theorem StpD.upd {o : HO} : StpD Dl S φ H S φ (upd H Dl o) :=
  ⟨fun a o' h _ n => by rw [upd_ne n]; exact h, fun a h => by
    by_cases e : a = Dl
    · rw [e, upd_same]; simp
    · rw [upd_ne e]; exact h, fun _ h => h, fun _ h => .inl h, [], by simp⟩
theorem StpD.same (x : StpD Dl S φ H S' φ' H') (I : SI K S φ H st) (hD : ¬ S Dl) : ∀ a, S a → H' a = H a := fun a h => by
  cases e : H a with
  | none => exact absurd e (I.dom a h)
  | some o => exact x.keep a o e (fun q => I.dis a q h) (fun q => hD (q ▸ h))
theorem StpD.pre (x : StpD Dl S φ H S' φ' H') : ∃ ψ, φ' = φ ++ ψ := let ⟨ψ, e, _⟩ := x.phi; ⟨ψ, e⟩
theorem SI.upd {o : HO} (I : SI K S φ H st) (h1 : ¬ S Dl) (h2 : Dl ∉ φ) : SI K S φ (L2.upd H Dl o) st := by
  refine ⟨fun a h => ?_, I.dis, I.len, I.nd, fun n a ds e1 e2 => ?_⟩
  · by_cases e : a = Dl
    · rw [e, upd_same]; simp
    · rw [upd_ne e]; exact I.dom a h
  · have hne : a ≠ Dl := fun e => h2 (e ▸ List.mem_of_getElem? e1)
    exact (I.obj n a ds e1 e2).tr (fun b hb => upd_ne (fun e => h1 (by rw [← e]; exact hb))) (fun _ q => q) ⟨[], by simp⟩ (upd_ne hne)
def NoOwn (env : Env) : Prop := ∀ (i : Nat) ds, env[i]? ≠ some (some (.own ds))
theorem noOwn_no (env : Env) : NoOwn (noOwn env) := fun i ds h => by
  unfold noOwn at h
  rw [List.getElem?_map] at h
  cases e : env[i]? with
  | none => rw [e] at h; cases h
  | some x =>
    rw [e] at h
    cases x with
    | none => cases h
    | some y => cases y <;> cases h
theorem NoOwn.set {env : Env} {i : Nat} {d : PV.D} (h : NoOwn env) : NoOwn (env.set i (some (.val d))) := fun j ds e => by
  rcases set_get e with ⟨_, e, _⟩ | ⟨_, e⟩
  · cases e
  · exact h j ds e
theorem NoOwn.del {env : Env} {i : Nat} (h : NoOwn env) : NoOwn (env.set i none) := fun j ds e => by
  by_cases q : i = j
  · subst q
    by_cases hi : i < env.length
    · rw [List.getElem?_set_self hi] at e; cases e
    · rw [List.getElem?_eq_none (by simpa using hi)] at e; cases e
  · rw [List.getElem?_set_ne q] at e; exact h j ds e
theorem NoOwn.wipe {env : Env} (h : NoOwn env) : ∀ vs, NoOwn (wipeE env vs)
  | [] => h
  | v :: vs => (NoOwn.wipe h vs).del
mutual
theorem NoOwn.bind : ∀ {c : Tg} {d : PV.D} {env env' : Env}, NoOwn env → bindT c d env = some env' → NoOwn env'
  | .nm i, d, env, env', h, e => by cases e; exact h.set
  | .tp ts, .tup ds, env, env', h, e => NoOwn.binds h (show bindTs ts ds env = some env' from e)
  | .tp ts, .non, _, _, _, e => by cases e
  | .tp ts, .bl _, _, _, _, e => by cases e
  | .tp ts, .int _, _, _, _, e => by cases e
  | .tp ts, .str _, _, _, _, e => by cases e
  | .tp ts, .lst _, _, _, _, e => by cases e
  | .tp ts, .rol _, _, _, _, e => by cases e
  | .tp ts, .loc _, _, _, _, e => by cases e
theorem NoOwn.binds : ∀ {cs : Tgs} {ds : List PV.D} {env env' : Env}, NoOwn env → bindTs cs ds env = some env' → NoOwn env'
  | .nil, [], _, _, h, e => by cases e; exact h
  | .nil, _ :: _, _, _, _, e => by cases e
  | .c t ts, [], _, _, _, e => by cases e
  | .c t ts, d :: ds, env, env', h, e => by
    have e' : (match bindT t d env with
      | some env' => bindTs ts ds env'
      | none => none) = some env' := e
    cases eb : bindT t d env with
    | none => rw [eb] at e'; cases e'
    | some env1 => rw [eb] at e'; exact NoOwn.binds (NoOwn.bind h eb) e'
end
theorem EI.no {σ : L2.St} {env : Env} (E : EI K S φ H σ env) : EI K S φ H σ (noOwn env) := by
  refine ⟨by simp [noOwn, E.len], fun i d h => E.val i d ?_, fun i ds h => absurd h (noOwn_no env i ds), fun i j ds es a h => absurd h (noOwn_no env i ds)⟩
  unfold noOwn at h
  rw [List.getElem?_map] at h
  cases e : env[i]? with
  | none => rw [e] at h; cases h
  | some x =>
    rw [e] at h
    cases x with
    | none => cases h
    | some y =>
      cases y with
      | val d' => cases h; rfl
      | own ds => cases h
theorem EI.del {σ : L2.St} {env : Env} {i : Nat} (E : EI K S φ H σ env) (n : NoOwn env) : EI K S φ H (σ.set i none) (env.set i none) := by
  refine ⟨by simp [E.len], fun j d h => ?_, fun j ds h => absurd h (n.del j ds), fun j l ds es a h => absurd h (n.del j ds)⟩
  by_cases q : i = j
  · subst q
    by_cases hi : i < env.length
    · rw [List.getElem?_set_self hi] at h; cases h
    · rw [List.getElem?_eq_none (by simpa using hi)] at h; cases h
  · rw [List.getElem?_set_ne q] at h ⊢
    exact E.val j d h
theorem EI.wipe {σ : L2.St} {env : Env} (E : EI K S φ H σ env) (n : NoOwn env) : ∀ vs, EI K S φ H (wipe σ vs) (wipeE env vs)
  | [] => E
  | v :: vs => (EI.wipe E n vs).del (n.wipe vs)
theorem EI.monoD {σ : L2.St} {env : Env} (E : EI K S φ H σ env) (n : NoOwn env) (x : StpD Dl S φ H S' φ' H') (I : SI K S φ H st) (hD : ¬ S Dl) : EI K S' φ' H' σ env :=
  ⟨E.len, fun i d h => let ⟨v, e, r⟩ := E.val i d h; ⟨v, e, r.tr (x.same I hD) x.sub x.pre⟩, fun i ds h => absurd h (n i ds), E.inj⟩
theorem wipe_idem {σ : L2.St} : ∀ {vs ws : List Nat}, (∀ i ∈ vs, i ∈ ws) → wipe (wipe σ ws) vs = wipe σ ws
  | [], ws, _ => rfl
  | v :: vs, ws, h => by
    show (wipe (wipe σ ws) vs).set v none = _
    rw [wipe_idem fun i hi => h i (List.mem_cons_of_mem _ hi)]
    have hv : v ∈ ws := h v List.mem_cons_self
    apply List.ext_getElem?
    intro j
    by_cases q : v = j
    · subst q
      by_cases hl : v < (wipe σ ws).length
      · rw [List.getElem?_set_self hl]
        cases e : (wipe σ ws)[v]? with
        | none => exact absurd (List.getElem?_eq_none_iff.mp e) (by omega)
        | some y =>
          cases y with
          | none => rfl
          | some z => exact absurd hv (wipe_some e).2
      · rw [List.getElem?_eq_none (by simpa using hl), List.getElem?_eq_none (by simpa using hl)]
    · rw [List.getElem?_set_ne q]
/-- where a comprehension stands: Dl has what was made so far -/
structure AR (K : PySem.W.Frag) (Dl : Addr) (S1 : Addr → Prop) (φ1 : List Addr) (H1 : Hp) (S : Addr → Prop) (φ : List Addr) (H : Hp) (st : Sto) (da : List PV.D) : Prop where
  stp : StpD Dl S1 φ1 H1 S φ H
  si : SI K S φ H st
  ns : ¬ S Dl
  nφ : Dl ∉ φ
  acc : ∃ acc, H Dl = some (.lst acc) ∧ RepL K S φ H acc da
theorem AR.go {S1 : Addr → Prop} {φ1 : List Addr} {H1 : Hp} {da : List PV.D} (A : AR K Dl S1 φ1 H1 S φ H st da) (x : Stp S φ H S' φ' H') (I : SI K S' φ' H' st') : AR K Dl S1 φ1 H1 S' φ' H' st' da := by
  obtain ⟨acc, h, r⟩ := A.acc
  refine ⟨A.stp.trans (.of x), I, fun q => ?_, fun q => ?_, acc, x.keep Dl _ h A.nφ, r.mono x A.si⟩
  · rcases x.new Dl q with q | q
    · exact A.ns q
    · rw [h] at q; cases q
  · obtain ⟨ψ, e, hf⟩ := x.phi
    rw [e] at q
    rcases List.mem_append.mp q with q | q
    · exact A.nφ q
    · have := hf Dl q; rw [h] at this; cases this
theorem AR.base {S1 : Addr → Prop} {φ1 : List Addr} {H1 : Hp} {da : List PV.D} (A : AR K Dl S1 φ1 H1 S φ H st da) : AR K Dl S φ H S φ H st da := ⟨.of .refl, A.si, A.ns, A.nφ, A.acc⟩
theorem AR.over {S1 : Addr → Prop} {φ1 : List Addr} {H1 : Hp} {da : List PV.D} (x : StpD Dl S φ H S1 φ1 H1) (A : AR K Dl S1 φ1 H1 S' φ' H' st da) : AR K Dl S φ H S' φ' H' st da := ⟨x.trans A.stp, A.si, A.ns, A.nφ, A.acc⟩
theorem AR.push {S1 : Addr → Prop} {φ1 : List Addr} {H1 : Hp} {da : List PV.D} {acc : List V} {y : V} {d : PV.D} (A : AR K Dl S1 φ1 H1 S φ H st da) (h : H Dl = some (.lst acc)) (r : RepL K S φ H acc da) (ry : Rep K S φ H y d) :
    AR K Dl S1 φ1 H1 S φ (L2.upd H Dl (.lst (acc ++ [y]))) st (da ++ [d]) :=
  ⟨A.stp.trans .upd, A.si.upd A.ns A.nφ, A.ns, A.nφ, _, upd_same, (r.append (.cons ry .nil)).tr (fun a ha => upd_ne (fun e => A.ns (by rw [← e]; exact ha))) (fun _ q => q) ⟨[], by simp⟩⟩
/-- the loop of a comprehension -/
theorem comp_loop {o : Bool} {J : It} {ds ys : List PV.D} {f : PV.D → Sto → Out (List PV.D)} {S1 : Addr → Prop} {φ1 : List Addr} {H1 H0 : Hp} {st1 st2 : Sto} {da : List PV.D} {B : V → Hp → (Hp → Prop) → Prop} {Qd : Hp → Prop} {S0 : Addr → Prop} {φ0 : List Addr}
    (I1 : SI K S1 φ1 H1 st1) (n1 : ¬ S1 Dl) (J1 : JOk K o S1 φ1 H1 J ds) (hw : H1 Dl = none ∨ o = false) (A0 : AR K Dl S1 φ1 H1 S0 φ0 H0 st1 da) (hf : flatF f ds st1 = .ok ys st2) (hz : da.length + ys.length ≤ LINE)
    (turn : ∀ d S φ H st db zs st', d ∈ ds → AR K Dl S1 φ1 H1 S φ H st db → f d st = .ok zs st' → db.length + zs.length ≤ LINE → ∀ x, Rep K S φ H x d →
      ∀ Nx : Hp → Prop, (∀ S' φ' H', AR K Dl S1 φ1 H1 S' φ' H' st' (db ++ zs) → Nx H') → B x H Nx)
    (hend : ∀ S φ H, AR K Dl S1 φ1 H1 S φ H st2 (da ++ ys) → Qd H) :
    ∃ W : Nat → Nat → Hp → Prop, (∃ m, W 0 m H0) ∧ ∀ i m H, W i m H → (J.stop i H ∧ Qd H) ∨ (J.go i H ∧ ∃ Nx : Hp → Prop, (∀ H', Nx H' → ∃ m', m' < m ∧ W (i + 1) m' H') ∧ ∀ x H', J.yld i H x H' → B x H' Nx) := by
  obtain ⟨wt, hwt, hJ⟩ := J1
  refine ⟨fun i m H => ∃ S φ st db zs, m = ds.length - i ∧ i ≤ ds.length ∧ AR K Dl S1 φ1 H1 S φ H st db ∧ flatF f (ds.drop i) st = .ok zs st2 ∧ db ++ zs = da ++ ys, ⟨_, S0, φ0, st1, da, ys, rfl, Nat.zero_le _, A0, hf, rfl⟩, ?_⟩
  rintro i m H ⟨S, φ, st, db, zs, rfl, hi, A, hF, he⟩
  have per : (∀ a ∈ wt, H a = H1 a) := fun a ha => by
    obtain ⟨h1, h2, h3⟩ := hwt a ha
    cases e : H1 a with
    | none => exact absurd e h1
    | some ob =>
      refine A.stp.keep a ob e h2 fun q => ?_
      rcases hw with z | z
      · rw [q, z] at e; cases e
      · exact n1 (q ▸ h3 z)
  obtain ⟨g1, g2, g3⟩ := hJ S φ H per (A.stp.same I1 n1) A.stp.sub A.stp.pre
  by_cases hlt : i < ds.length
  · refine .inr ⟨g1 i hlt, ?_⟩
    have ed : ds.drop i = ds[i] :: ds.drop (i + 1) := List.drop_eq_getElem_cons hlt
    rw [ed] at hF
    unfold flatF at hF
    cases e1 : f ds[i] st with
    | err => rw [e1] at hF; cases hF
    | ok z1 s1 =>
      simp only [e1, Out.bind] at hF
      cases e2 : flatF f (ds.drop (i + 1)) s1 with
      | err => rw [e2] at hF; cases hF
      | ok z2 s2 =>
        rw [e2] at hF
        cases hF
        refine ⟨fun H' => ∃ S' φ', AR K Dl S1 φ1 H1 S' φ' H' s1 (db ++ z1), fun H' ⟨S', φ', A'⟩ => ⟨ds.length - (i + 1), by omega, S', φ', s1, db ++ z1, z2, rfl, hlt, A', e2, by rw [List.append_assoc]; exact he⟩, fun x H' y => ?_⟩
        obtain ⟨S3, x3, I3, r3⟩ := g3 i ds[i] x H' (List.getElem?_eq_getElem hlt) y st A.si
        have hl : (db ++ (z1 ++ z2)).length = (da ++ ys).length := by rw [he]
        simp only [List.length_append] at hl
        exact turn ds[i] S3 φ H' st db z1 s1 (List.getElem_mem hlt) (A.go x3 I3) e1 (by omega) x r3 _ fun S' φ' H2 A2 => ⟨S', φ', A2⟩
  · have e : i = ds.length := by omega
    subst e
    rw [List.drop_length] at hF
    unfold flatF at hF
    cases hF
    rw [List.append_nil] at he
    subst he
    exact .inl ⟨g2, hend S φ H A⟩
end
section
variable {Γ : Ctx} {L : LC} {o : Bool} {e a b : Expr}
theorem Good.blk {X : Cx} {scope : Scope} (g : Good Γ L X) (s : Shared) (H : Hp) (C : Addr) (cl : List (Str × Addr)) (fp : List Addr) : Good Γ ⟨relS scope L.sc, fbC scope, L.xk⟩ (X.blk s H scope (compEnvC scope cl C X.env) fp) :=
  ⟨g.prog, g.w, g.K, g.mg, g.base, g.N, g.calm, g.room, by rw [← g.sc]; rfl, rfl⟩
theorem sc_nil {cf gs} : SC Γ L [] (evC cf gs .n) := ⟨tYes, fun X _ => pts_nil, fun σ H env st S φ Q E I f => by unfold evC at f; exact f H S φ .refl I⟩
theorem sc_one {ca : Ex} {cf gs} (h : ST Γ L a fun env s => (ev cf gs true ca env s).bind fun d s => truthS s d) : SC Γ L [a] (evC cf gs (.s ca)) := by
  obtain ⟨t, p, q⟩ := h
  exact ⟨t, fun X g => pts_one (p X g), fun σ H env st S φ Q E I f => q σ H env st S φ Q E I (by unfold evC at f; exact f)⟩
/-- the elements of one turn -/
theorem elt_turn {K : PySem.W.Frag} {Dl : Addr} {S1 : Addr → Prop} {φ1 : List Addr} {H1 : Hp} {σ : L2.St} {tt : TT} {te : TE} {cond : OEx} {elt : Ex} {cf gs} {env : Env} {S : Addr → Prop} {φ : List Addr} {H : Hp} {st st' : Sto} {db zs : List PV.D} {Nx : Hp → Prop}
    (qt : ∀ H st S φ (Q : Bool → Hp → Prop), EI K S φ H σ env → SI K S φ H st → FinB K S φ H Q (evC cf gs cond env st) → tt σ H Q)
    (qe : ∀ H st S φ Q, EI K S φ H σ env → SI K S φ H st → FinE K false S φ H Q (ev cf gs false elt env st) → te σ H Q)
    (E : EI K S φ H σ env) (A : AR K Dl S1 φ1 H1 S φ H st db) (hz : db.length + zs.length ≤ LINE)
    (hf : ((evC cf gs cond env st).bind fun t s => if t = true then (ev cf gs false elt env s).bind fun y s => .ok [y] s else .ok [] s) = .ok zs st') (hn : ∀ S' φ' H', AR K Dl S1 φ1 H1 S' φ' H' st' (db ++ zs) → Nx H') :
    tt σ H fun b H3 => if b = true then te σ H3 fun y H4 => ∃ acc, H4 Dl = some (.lst acc) ∧ acc.length < sizeLine ∧ Nx (L2.upd H4 Dl (.lst (acc ++ [y]))) else Nx H3 := by
  refine qt H st S φ _ E A.si ?_
  cases e1 : evC cf gs cond env st with
  | err => rw [e1] at hf; cases hf
  | ok t s1 =>
    simp only [e1, Out.bind] at hf
    intro H3 S3 φ3 x3 I3
    have A3 := A.go x3 I3
    have E3 := E.mono x3 A.si
    cases t with
    | false =>
      rw [if_neg Bool.false_ne_true] at hf ⊢
      cases hf
      rw [List.append_nil] at hn
      exact hn S3 φ3 H3 A3
    | true =>
      rw [if_pos rfl] at hf ⊢
      refine qe H3 s1 S3 φ3 _ E3 I3 ?_
      cases e2 : ev cf gs false elt env s1 with
      | err => rw [e2] at hf; cases hf
      | ok y s2 =>
        rw [e2] at hf
        cases hf
        intro v H4 S4 φ4 x4 I4 r4
        have A4 := A3.go x4 I4
        obtain ⟨acc, h, r⟩ := A4.acc
        refine ⟨acc, h, by rw [line_eq, r.length]; simp at hz; have : LINE = 16777216 := rfl; omega, hn S4 φ4 _ (A4.push h r r4.val)⟩
theorem sf_cp1 (Γok : CtxOk Γ) {x t i : Expr} {ifs : List Expr} {scope : Scope} {pos : Pos} {elt : Ex} {tg : Tg} {it : Src} {cond : OEx} {vs : List Nat}
    (hI : SS Γ L true t i (evI Γ.cf Γ.gs true it)) (hb : blkC Γ.m.N L.sc scope (ownOf Γ.m.N vs) = true) (hv : (ownOf Γ.m.N vs).map (·.2) = vs) (ht : tgIn vs tg = true)
    (hG : SG Γ ⟨relS scope L.sc, fbC scope, L.xk⟩ t tg) (hC : SC Γ ⟨relS scope L.sc, fbC scope, L.xk⟩ ifs (evC Γ.cf Γ.gs cond)) (hE : SE Γ ⟨relS scope L.sc, fbC scope, L.xk⟩ false x (ev Γ.cf Γ.gs false elt))
    (hs : ∀ env v, foldedSetIterable i env v = pure v) :
    ∃ te : TE, (∀ X, Good Γ L X → PE X (.ListComp x [⟨t, i, ifs, 0⟩] scope pos) te ∧ ∀ (j : Nat) (y : Str) (py spos : Pos), Γ.m.N[j]? = some y → L.sc.names.lookup y = some .local → swapsWith (.ListComp x [⟨t, i, ifs, 0⟩] scope pos) (some (.Name y py)) spos.line X.env = pure true →
        PS X (.Assign [.Name y py] (.ListComp x [⟨t, i, ifs, 0⟩] scope pos) spos) (tAsg te (gName j))) ∧
      ∀ σ H env st S φ Q, EI Γ.K S φ H σ env → SI Γ.K S φ H st → FinF Γ.K S φ H Q (evF Γ.cf Γ.gs (.cp1 elt tg it cond vs) env st) → te σ H Q := by
  obtain ⟨wi, pI, qI⟩ := hI
  obtain ⟨g, pG, qG⟩ := hG
  obtain ⟨tt, pC, qC⟩ := hC
  obtain ⟨te, pE, qE⟩ := hE
  refine ⟨tLc wi g tt te vs, fun X gd => ⟨?_, fun j y py spos h1 h2 h3 => ?_⟩, fun σ H env st S φ Q E I f => ?_⟩
  · have := pe_lc (X := X) (pos := pos) (own := ownOf Γ.m.N vs) gd.calm (by rw [gd.N]; exact Γok.nd) (pI X gd) (blkOk_by (by rw [gd.N, gd.sc]; exact hb)) (fun s H C cl fp => pG _ (gd.blk s H C cl fp)) (fun s H C cl fp => pC _ (gd.blk s H C cl fp)) (fun s H C cl fp => pE _ (gd.blk s H C cl fp)) (hs _)
    rw [hv] at this; exact this
  · have := ps_setLc (X := X) (pos := pos) (own := ownOf Γ.m.N vs) (i := j) gd.calm (by rw [gd.N]; exact Γok.nd) (by rw [gd.N]; exact h1) (by rw [gd.sc]; exact h2) h3 (pI X gd) (blkOk_by (by rw [gd.N, gd.sc]; exact hb)) (fun s H C cl fp => pG _ (gd.blk s H C cl fp)) (fun s H C cl fp => pC _ (gd.blk s H C cl fp)) (fun s H C cl fp => pE _ (gd.blk s H C cl fp)) (hs _)
    rw [hv] at this; exact this
  · unfold evF at f
    obtain ⟨xs, s1, e1, f1⟩ := f.bind
    obtain ⟨ys, s2, e2, f2⟩ := f1.bind
    by_cases hz : ys.length ≤ LINE
    · rw [if_pos hz] at f2
      refine qI σ H env st S φ _ E I ?_
      rw [e1]
      intro J H1 S1 φ1 x1 I1 J1 Dl hD
      obtain ⟨nS, nφ⟩ := I1.fresh hD
      have A0 : AR Γ.K Dl S1 φ1 H1 S1 φ1 (L2.upd H1 Dl (.lst [])) s1 [] := ⟨.upd, I1.alloc0 hD, nS, nφ, [], upd_same, .nil⟩
      have E1 := E.mono x1 I
      refine comp_loop I1 nS J1 (.inl hD) A0 e2 (by simpa using hz) (fun d S3 φ3 H3 st3 db zs st' hd A ef hz3 v rv Nx hN => ?_) fun S3 φ3 H3 A => ?_
      · cases eb : bindT tg d (wipeE (noOwn env) vs) with
        | none => rw [eb] at ef; cases ef
        | some env1 =>
          simp only [eb] at ef
          have E3 : EI Γ.K S3 φ3 H3 (wipe σ vs) (wipeE (noOwn env) vs) := ((E1.no).wipe (noOwn_no env) vs).monoD ((noOwn_no env).wipe vs) A.stp I1 nS
          refine qG v d _ H3 _ env1 S3 φ3 st3 _ E3 A.si rv eb fun σ' hw E4 => ⟨?_, ?_⟩
          · rw [hw.1 vs ht, wipe_idem fun _ h => h]
          · exact elt_turn (fun H st S φ Q => qC σ' H env1 st S φ Q) (fun H st S φ Q => qE σ' H env1 st S φ Q) E4 A hz3 ef hN
      · obtain ⟨acc, h, r⟩ := A.acc
        rw [List.nil_append] at r
        exact f2 Dl acc H3 S3 φ3 (x1.trans (A.stp.to hD)) A.si (x1.free hD) A.ns A.nφ h r
    · rw [if_neg hz] at f2; exact False.elim f2
theorem sf_cp2 (Γok : CtxOk Γ) {x t i t1 i1 : Expr} {ifs ifs1 : List Expr} {scope : Scope} {pos : Pos} {elt : Ex} {tg tg1 : Tg} {it it1 : Src} {cond cond1 : OEx} {vs vs1 : List Nat}
    (hI : SS Γ L true t i (evI Γ.cf Γ.gs true it)) (hb : blkC Γ.m.N L.sc scope (ownOf Γ.m.N vs) = true) (hv : (ownOf Γ.m.N vs).map (·.2) = vs) (hv1 : ∀ j ∈ vs1, j ∈ vs) (ht : tgIn vs tg = true) (ht1 : tgIn vs1 tg1 = true)
    (hG : SG Γ ⟨relS scope L.sc, fbC scope, L.xk⟩ t tg) (hC : SC Γ ⟨relS scope L.sc, fbC scope, L.xk⟩ ifs (evC Γ.cf Γ.gs cond)) (hI1 : SS Γ ⟨relS scope L.sc, fbC scope, L.xk⟩ false t1 i1 (evI Γ.cf Γ.gs false it1)) (hG1 : SG Γ ⟨relS scope L.sc, fbC scope, L.xk⟩ t1 tg1)
    (hC1 : SC Γ ⟨relS scope L.sc, fbC scope, L.xk⟩ ifs1 (evC Γ.cf Γ.gs cond1)) (hE : SE Γ ⟨relS scope L.sc, fbC scope, L.xk⟩ false x (ev Γ.cf Γ.gs false elt))
    (hs : ∀ env v, foldedSetIterable i env v = pure v) (hs1 : ∀ env v, foldedSetIterable i1 env v = pure v) :
    ∃ te : TE, (∀ X, Good Γ L X → PE X (.ListComp x [⟨t, i, ifs, 0⟩, ⟨t1, i1, ifs1, 0⟩] scope pos) te ∧ ∀ (j : Nat) (y : Str) (py spos : Pos), Γ.m.N[j]? = some y → L.sc.names.lookup y = some .local → swapsWith (.ListComp x [⟨t, i, ifs, 0⟩, ⟨t1, i1, ifs1, 0⟩] scope pos) (some (.Name y py)) spos.line X.env = pure true →
        PS X (.Assign [.Name y py] (.ListComp x [⟨t, i, ifs, 0⟩, ⟨t1, i1, ifs1, 0⟩] scope pos) spos) (tAsg te (gName j))) ∧
      ∀ σ H env st S φ Q, EI Γ.K S φ H σ env → SI Γ.K S φ H st → FinF Γ.K S φ H Q (evF Γ.cf Γ.gs (.cp2 elt tg it cond tg1 it1 cond1 vs vs1) env st) → te σ H Q := by
  obtain ⟨wi, pI, qI⟩ := hI
  obtain ⟨g, pG, qG⟩ := hG
  obtain ⟨tt, pC, qC⟩ := hC
  obtain ⟨wi1, pI1, qI1⟩ := hI1
  obtain ⟨g1, pG1, qG1⟩ := hG1
  obtain ⟨tt1, pC1, qC1⟩ := hC1
  obtain ⟨te, pE, qE⟩ := hE
  have hvo : ∀ j ∈ vs1, j ∈ (ownOf Γ.m.N vs).map (·.2) := fun j hj => by rw [hv]; exact hv1 j hj
  refine ⟨tLc2 wi g tt wi1 g1 tt1 te vs vs1, fun X gd => ⟨?_, fun j y py spos h1 h2 h3 => ?_⟩, fun σ H env st S φ Q E I f => ?_⟩
  · have := pe_lc2 (X := X) (pos := pos) (own := ownOf Γ.m.N vs) gd.calm (by rw [gd.N]; exact Γok.nd) (pI X gd) (blkOk_by (by rw [gd.N, gd.sc]; exact hb)) hvo (fun s H C cl fp => pG _ (gd.blk s H C cl fp)) (fun s H C cl fp => pC _ (gd.blk s H C cl fp))
      (fun s H C cl fp => pI1 _ (gd.blk s H C cl fp)) (fun s H C cl fp => pG1 _ (gd.blk s H C cl fp)) (fun s H C cl fp => pC1 _ (gd.blk s H C cl fp)) (fun s H C cl fp => pE _ (gd.blk s H C cl fp)) (hs _) hs1
    rw [hv] at this; exact this
  · have := ps_setLc2 (X := X) (pos := pos) (own := ownOf Γ.m.N vs) (i := j) gd.calm (by rw [gd.N]; exact Γok.nd) (by rw [gd.N]; exact h1) (by rw [gd.sc]; exact h2) h3 (pI X gd) (blkOk_by (by rw [gd.N, gd.sc]; exact hb)) hvo (fun s H C cl fp => pG _ (gd.blk s H C cl fp)) (fun s H C cl fp => pC _ (gd.blk s H C cl fp))
      (fun s H C cl fp => pI1 _ (gd.blk s H C cl fp)) (fun s H C cl fp => pG1 _ (gd.blk s H C cl fp)) (fun s H C cl fp => pC1 _ (gd.blk s H C cl fp)) (fun s H C cl fp => pE _ (gd.blk s H C cl fp)) (hs _) hs1
    rw [hv] at this; exact this
  · unfold evF at f
    obtain ⟨xs, s1, e1, f1⟩ := f.bind
    obtain ⟨ys, s2, e2, f2⟩ := f1.bind
    by_cases hz : ys.length ≤ LINE
    · rw [if_pos hz] at f2
      refine qI σ H env st S φ _ E I ?_
      rw [e1]
      intro J H1 S1 φ1 x1 I1 J1 Dl hD
      obtain ⟨nS, nφ⟩ := I1.fresh hD
      have A0 : AR Γ.K Dl S1 φ1 H1 S1 φ1 (L2.upd H1 Dl (.lst [])) s1 [] := ⟨.upd, I1.alloc0 hD, nS, nφ, [], upd_same, .nil⟩
      have E1 := E.mono x1 I
      refine comp_loop I1 nS J1 (.inl hD) A0 e2 (by simpa using hz) (fun d S3 φ3 H3 st3 db zs st' hd A ef hz3 v rv Nx hN => ?_) fun S3 φ3 H3 A => ?_
      · cases eb : bindT tg d (wipeE (noOwn env) vs) with
        | none => rw [eb] at ef; cases ef
        | some env1 =>
          simp only [eb] at ef
          have n1 := NoOwn.bind ((noOwn_no env).wipe vs) eb
          have E3 : EI Γ.K S3 φ3 H3 (wipe σ vs) (wipeE (noOwn env) vs) := ((E1.no).wipe (noOwn_no env) vs).monoD ((noOwn_no env).wipe vs) A.stp I1 nS
          refine qG v d _ H3 _ env1 S3 φ3 st3 _ E3 A.si rv eb fun σ' hw E4 => ⟨?_, ?_⟩
          · rw [hw.1 vs ht, wipe_idem fun _ h => h]
          · refine qC σ' H3 env1 st3 S3 φ3 _ E4 A.si ?_
            cases ec : evC Γ.cf Γ.gs cond env1 st3 with
            | err => rw [ec] at ef; cases ef
            | ok tb s4 =>
              simp only [ec, Out.bind] at ef
              intro H5 S5 φ5 x5 I5
              have A5 := A.go x5 I5
              have E5 := E4.mono x5 A.si
              cases tb with
              | false =>
                rw [if_neg Bool.false_ne_true] at ef ⊢
                cases ef
                rw [List.append_nil] at hN
                exact hN S5 φ5 H5 A5
              | true =>
                rw [if_pos rfl] at ef ⊢
                refine qI1 σ' H5 env1 s4 S5 φ5 _ E5 I5 ?_
                cases ei : evI Γ.cf Γ.gs false it1 env1 s4 with
                | err => rw [ei] at ef; cases ef
                | ok ws s6 =>
                  rw [ei] at ef
                  intro J2 H6 S6 φ6 x6 I6 JJ
                  have A6 := A5.go x6 I6
                  have E6 := E5.mono x6 I5
                  refine comp_loop (da := db) I6 A6.ns JJ (.inr rfl) A6.base ef hz3 (fun d2 S7 φ7 H7 st7 db2 zs2 st7' hd2 A7 ef2 hz7 v2 rv2 Nx2 hN2 => ?_) fun S7 φ7 H7 A7 => ?_
                  · cases eb2 : bindT tg1 d2 (wipeE env1 vs1) with
                    | none => rw [eb2] at ef2; cases ef2
                    | some env2 =>
                      simp only [eb2] at ef2
                      have E7 : EI Γ.K S7 φ7 H7 (wipe σ' vs1) (wipeE env1 vs1) := (E6.wipe n1 vs1).monoD (n1.wipe vs1) A7.stp I6 A6.ns
                      refine qG1 v2 d2 _ H7 _ env2 S7 φ7 st7 _ E7 A7.si rv2 eb2 fun σ2 hw2 E8 => ⟨?_, ?_⟩
                      · rw [hw2.1 vs1 ht1, wipe_idem fun _ h => h]
                      · exact elt_turn (fun H st S φ Q => qC1 σ2 H env2 st S φ Q) (fun H st S φ Q => qE σ2 H env2 st S φ Q) E8 A7 hz7 ef2 hN2
                  · exact hN S7 φ7 H7 (A7.over (A6.stp))
      · obtain ⟨acc, h, r⟩ := A.acc
        rw [List.nil_append] at r
        exact f2 Dl acc H3 S3 φ3 (x1.trans (A.stp.to hD)) A.si (x1.free hD) A.ns A.nφ h r
    · rw [if_neg hz] at f2; exact False.elim f2
end
end PV
set_option maxRecDepth 100000
set_option maxHeartbeats 4000000
/-! An attribute as a target (HandS has it as a whole statement alone). -/
namespace PV
open PySem PySem.Spec PyProof.Rows L2
def gFld (K : PySem.W.Frag) (ta : TE) (f : Str) : TG := fun v σ H Q => ta σ H fun x H2 => ∃ a C dx fs, x = .ref a ∧ H2 a = some (.ins C dx fs) ∧ Cls K C ∧ NoAttr K C f ∧ fs.length < 1000 ∧ Q σ (upd H2 a (.ins C dx (putF f v fs)))
section
variable {X : Cx} {o : Expr} {f : Str} {pos : Pos} {ta : TE}
theorem pg_fld (ha : PE X o ta) (he : ∀ v, assign (.Attribute o f pos) X.env v = (do
    let ov ← holding [v] (eval o X.env)
    standAt pos.atName
    holding [v, ov] (setAttr ov f v)
    release [v, ov] []) := by intro _; rfl) : PG X (.Attribute o f pos) (gFld X.K ta f) := by
  refine ⟨fun pins s σ H v u Q I r h => ?_⟩
  rw [he]
  refine wpAny_bind (wpAny_holding (thn (ha.run pins s σ H _ I h) fun ov s1 ⟨x, H1, I1, r1, a, C, dx, fs, ex, ea, c, n, l, q⟩ => ?_))
  subst ex
  obtain rfl : ov = Value.ref a := r1
  refine wpAny_bind (wpAny_standAt (wpAny_bind (wpAny_holding (setattr_ok I1 ea c n l r fun s2 I2 => ?_))))
  exact wpAny_release ⟨σ, _, I2, q⟩
end
end PV
set_option maxRecDepth 100000
set_option maxHeartbeats 4000000
/-! Attributes, methods, instances. -/
namespace PV
open PySem PySem.Spec PyProof.Rows L2
theorem flds_get {K : PySem.W.Frag} {S : Addr → Prop} {φ : List Addr} {H : Hp} {f : Str} {d : D} : ∀ {us : List (Str × V)} {fs : List (Str × D)}, us.map (·.1) = fs.map (·.1) → RepL K S φ H (us.map (·.2)) (fs.map (·.2)) → fs.lookup f = some d → ∃ v, us.lookup f = some v ∧ Rep K S φ H v d
  | [], [], _, _, h => by cases h
  | [], _ :: _, e, _, _ => by cases e
  | _ :: _, [], e, _, _ => by cases e
  | (g, v) :: us, (g', d') :: fs, e, r, h => by
    simp only [List.map_cons, List.cons.injEq] at e
    obtain ⟨e1, e2⟩ := e
    subst e1
    cases r with
    | cons r1 r2 =>
      rw [List.lookup_cons] at h ⊢
      cases q : f == g with
      | true => rw [q] at h; cases h; exact ⟨v, rfl, r1⟩
      | false => rw [q] at h; exact flds_get e2 r2 h
theorem flds_none {f : Str} : ∀ {us : List (Str × V)} {fs : List (Str × D)}, us.map (·.1) = fs.map (·.1) → fs.lookup f = none → us.lookup f = none
  | [], [], _, _ => rfl
  | [], _ :: _, e, _ => by cases e
  | _ :: _, [], e, _ => by cases e
  | (g, v) :: us, (g', d') :: fs, e, h => by
    simp only [List.map_cons, List.cons.injEq] at e
    obtain ⟨e1, e2⟩ := e
    subst e1
    rw [List.lookup_cons] at h ⊢
    cases q : f == g with
    | true => rw [q] at h; cases h
    | false => rw [q] at h; exact flds_none e2 h
theorem lookup_mem {α : Type} {f : Str} {d : α} : ∀ {fs : List (Str × α)}, fs.lookup f = some d → (f, d) ∈ fs
  | [], h => by cases h
  | (g, e) :: fs, h => by
    rw [List.lookup_cons] at h
    cases q : f == g with
    | true => rw [q] at h; cases h; rw [eq_of_beq q]; exact List.mem_cons_self
    | false => rw [q] at h; exact List.mem_cons_of_mem _ (lookup_mem h)
section
variable {Γ : Ctx} {L : LC} {o : Bool} {e a : Expr}
theorem RepM.locv {K : PySem.W.Frag} {S : Addr → Prop} {φ : List Addr} {H : Hp} {v : V} {n : Nat} (h : RepM o K S φ H v (.loc n)) : ∃ a, v = .ref a ∧ φ[n]? = some a := by
  rcases h with h | ⟨_, _, _, _, _, e, _⟩
  · cases h with
    | loc h => exact ⟨_, rfl, h⟩
  · cases e
theorem nameBase (h : isNameE a = true) (f : Str) (env : PySem.Env) : attributeBase a f env (eval a env) = eval a env := by
  cases a <;> first | rfl | cases h
theorem se_fld {ca : Ex} {f : Str} {pos : Pos} {cf gs} (hn : isNameE a = true) (h : SE Γ L true a (ev cf gs true ca)) : SE Γ L o (.Attribute a f pos) (ev cf gs o (.fld ca f)) := by
  obtain ⟨t, p, q⟩ := h
  refine ⟨tFld Γ.K t f, fun X g => by rw [← g.K]; exact pe_fld (p X g) (nameBase hn _ _), fun σ H env st S φ Q E I fn => ?_⟩
  unfold ev at fn
  obtain ⟨d, s1, e1, f1⟩ := fn.bind
  refine SE.use q E I e1 fun v H1 S1 φ1 x1 E1 I1 r1 => ?_
  cases d with
  | loc n =>
    obtain ⟨ad, rfl, hφ⟩ := r1.locv
    simp only at f1
    split at f1
    · rename_i x fs hs
      obtain ⟨dx, us, g1, g2, g3, g4, g5⟩ := I1.obj n ad (.obj x fs) hφ hs
      obtain ⟨d', ed, f2⟩ := f1.lift
      obtain ⟨v', hv, rv⟩ := flds_get g2 g3 ed
      exact ⟨ad, _, dx, us, v', rfl, g1, g4, g5 (f, d') (lookup_mem ed), hv, f2 v' H1 S1 φ1 x1 I1 (.inl rv)⟩
    · exact False.elim f1
  | _ => exact False.elim f1
theorem pd_rep {K : PySem.W.Frag} {S : Addr → Prop} {φ : List Addr} {H : Hp} : ∀ {vs : List V} {ds : List D}, Paired (RepM false K S φ H) vs ds → RepL K S φ H vs ds
  | _, _, .nil => .nil
  | _, _, .cons h t => .cons h.val (pd_rep t)
/-- the form of a method's call, where the arguments are plain and few -/
theorem mth_form {id : Str} {ip apos pos : Pos} {m : Str} {es : List Expr} {env : PySem.Env} (hl : (apos.endLine == pos.line) = true) (hf : methodCallForm es.length (backTo pos (starEach es env)) (backToKw pos (keywordEach [] env)) = true) :
    eval (.Call (.Attribute (.Name id ip) m apos) es [] pos) env = (do
      let ov ← eval (.Name id ip) env
      standAt apos.atName
      let (f, first) ← holding [ov] (getMethod ov m (do return (← importBound (.Name id ip) env).getD true))
      callWith pos f first (backTo pos (starEach es env)) (backToKw pos (keywordEach [] env))) := by
  have e : eval (.Call (.Attribute (.Name id ip) m apos) es [] pos) env = (do
    let ov ← eval (.Name id ip) env
    standAt apos.atName
    methodCall (.Name id ip) m apos pos env ov (es.length + 0) (backTo pos (starEach es env)) (backToKw pos (keywordEach [] env))) := rfl
  rw [e]
  unfold methodCall
  rw [Nat.add_zero, hf]
  unfold methodCallPos calleeOf
  simp [hl]
/-- o.m(..) of an instance -/
theorem se_mth (Γok : CtxOk Γ) {ca : Ex} {x m : Str} {k : Nat} {cs : Exs} {es : List Expr} {apos pos : Pos} (hn : isNameE a = true) (hm : (x, m, k, es.length) ∈ Γ.m.ms) (hl : (apos.endLine == pos.line) = true) (hlen : es.length < 30) (hne : es ≠ [])
    (hst : ∀ y ∈ es, ∀ env r, starEach (y :: r) env = (false, eval y env) :: starEach r env) (h1 : SE Γ L true a (ev Γ.cf Γ.gs true ca)) (h2 : SL Γ L false es (evL Γ.cf Γ.gs false cs)) :
    SE Γ L o (.Call (.Attribute a m apos) es [] pos) (ev Γ.cf Γ.gs o (.mth x ca m k cs)) := by
  obtain ⟨t1, p1, q1⟩ := h1
  obtain ⟨t2, p2, q2⟩ := h2
  obtain ⟨fa, fd, ps, c1, c2, c3, c4⟩ := Γok.ms x m k _ hm
  refine ⟨tMeth (He.ga Γ.K x) m (spF Γ.K Γ.cf k) [] E0 t1 t2, fun X g => ?_, fun σ H env st S φ Q E I f => ?_⟩
  · have F : FnOk X.prog X.w X.K X.mg X.base (L2.CX X.prog X.w) Γ.k fa fd ps (spF Γ.K Γ.cf k) := by rw [g.prog, g.w, g.K, g.mg, g.base]; exact c4
    have pa := p2 X g
    have hc : Cls X.K (He.ga Γ.K x) := by rw [g.K]; exact c1
    have hme : Meth X.K (He.ga Γ.K x) m fa := by rw [g.K]; exact c2
    have hb : Binds X.K fd ps [] := by rw [g.K]; exact c3
    have po := p1 X g
    have hf : methodCallForm es.length (backTo pos (starEach es X.env)) (backToKw pos (keywordEach [] X.env)) = true := by
      have h1 : (backTo pos (starEach es X.env)).all (fun x => !x.1) = true := by
        have := star_plain (e := a) (es := es) (env := X.env) (pos := pos) hst
        rw [List.all_eq_not_any_not]
        simpa using this
      unfold methodCallForm
      rw [h1]
      simp only [Bool.true_and]
      show (true && decide (es.length + 0 < 30)) = true
      simp; omega
    cases a with
    | Name id ip =>
      cases es with
      | nil => exact absurd rfl hne
      | cons y ys =>
        exact pe_meth po hc hme F (g.room.mono (Nat.le_succ _)) hb .nil passL pa (hst y List.mem_cons_self _ _) (star_plain (e := y) fun z hz => hst z (List.mem_cons_of_mem _ hz)) (mth_form hl hf)
    | _ => cases hn
  · unfold ev at f
    obtain ⟨d, s1, e1, f1⟩ := f.bind
    refine SE.use q1 E I e1 fun v H1 S1 φ1 x1 E1 I1 r1 => ?_
    cases d with
    | loc n =>
      obtain ⟨ad, rfl, hφ⟩ := r1.locv
      simp only at f1
      split at f1
      · rename_i x' fs hs
        split at f1
        · rename_i hx
          obtain ⟨rfl, hno⟩ := hx
          obtain ⟨dx, us, g1, g2, g3, g4, g5⟩ := I1.obj n ad (.obj x' fs) hφ hs
          obtain ⟨ds, s2, e2, f2⟩ := f1.bind
          refine ⟨ad, dx, us, rfl, g1, flds_none g2 (by simpa using hno), ?_⟩
          refine q2 σ H1 env s1 S1 φ1 _ E1 I1 ?_
          rw [e2]
          intro vs H2 S2 φ2 x2 I2 r2
          rw [List.append_nil]
          refine ⟨S2, φ2, s2, .loc n :: ds, I2, .cons (.loc ?_) (pd_rep r2), .inl ?_⟩
          · obtain ⟨ψ, eψ, _⟩ := x2.phi
            rw [eψ, List.getElem?_append_left (List.getElem?_eq_some_iff.mp hφ).1]; exact hφ
          · cases e3 : Γ.cf k (.loc n :: ds) s2 with
            | err => rw [e3] at f2; exact f2
            | ok d s3 => rw [e3] at f2; exact fun v H' S' φ' x3 I' r' => f2 v H' S' φ' ((x1.trans x2).trans x3) I' (.inl r'.val)
        · exact False.elim f1
      · exact False.elim f1
    | _ => exact False.elim f1
theorem se_mth0 (Γok : CtxOk Γ) {ca : Ex} {x m : Str} {k : Nat} {apos pos : Pos} (hn : isNameE a = true) (hm : (x, m, k, 0) ∈ Γ.m.ms) (hl : (apos.endLine == pos.line) = true) (h1 : SE Γ L true a (ev Γ.cf Γ.gs true ca)) :
    SE Γ L o (.Call (.Attribute a m apos) [] [] pos) (ev Γ.cf Γ.gs o (.mth x ca m k .nil)) := by
  obtain ⟨t1, p1, q1⟩ := h1
  obtain ⟨fa, fd, ps, c1, c2, c3, c4⟩ := Γok.ms x m k _ hm
  refine ⟨tMeth (He.ga Γ.K x) m (spF Γ.K Γ.cf k) [] E0 t1 tNil, fun X g => ?_, fun σ H env st S φ Q E I f => ?_⟩
  · have F : FnOk X.prog X.w X.K X.mg X.base (L2.CX X.prog X.w) Γ.k fa fd ps (spF Γ.K Γ.cf k) := by rw [g.prog, g.w, g.K, g.mg, g.base]; exact c4
    have hc : Cls X.K (He.ga Γ.K x) := by rw [g.K]; exact c1
    have hme : Meth X.K (He.ga Γ.K x) m fa := by rw [g.K]; exact c2
    have hb : Binds X.K fd ps [] := by rw [g.K]; exact c3
    have po := p1 X g
    cases a with
    | Name id ip => exact pe_meth0 po hc hme F (g.room.mono (Nat.le_succ _)) hb .nil passL (mth_form hl rfl)
    | _ => cases hn
  · unfold ev at f
    obtain ⟨d, s1, e1, f1⟩ := f.bind
    refine SE.use q1 E I e1 fun v H1 S1 φ1 x1 E1 I1 r1 => ?_
    cases d with
    | loc n =>
      obtain ⟨ad, rfl, hφ⟩ := r1.locv
      simp only at f1
      split at f1
      · rename_i x' fs hs
        split at f1
        · rename_i hx
          obtain ⟨rfl, hno⟩ := hx
          obtain ⟨dx, us, g1, g2, g3, g4, g5⟩ := I1.obj n ad (.obj x' fs) hφ hs
          unfold evL at f1
          refine ⟨ad, dx, us, rfl, g1, flds_none g2 (by simpa using hno), ?_⟩
          refine ⟨S1, φ1, s1, [.loc n], I1, .cons (.loc hφ) .nil, .inl ?_⟩
          have f2 : FinE Γ.K o S φ H Q (Γ.cf k [.loc n] s1) := f1
          cases e3 : Γ.cf k [.loc n] s1 with
          | err => rw [e3] at f2; exact f2
          | ok d s3 => rw [e3] at f2; exact fun v H' S' φ' x3 I' r' => f2 v H' S' φ' (x1.trans x3) I' (.inl r'.val)
        · exact False.elim f1
      · exact False.elim f1
    | _ => exact False.elim f1
/-- C(..) -/
theorem se_new (Γok : CtxOk Γ) {x : Str} {k : Nat} {cs : Exs} {es : List Expr} {p pos : Pos} (hm : (x, k, es.length + 1) ∈ Γ.m.cl) (hg : glB L.sc x = true) (hk : okN x = true)
    (hst : ∀ y ∈ e :: es, ∀ env r, starEach (y :: r) env = (false, eval y env) :: starEach r env) (h2 : SL Γ L false (e :: es) (evL Γ.cf Γ.gs false cs)) :
    SE Γ L o (.Call (.Name x p) (e :: es) [] pos) (ev Γ.cf Γ.gs o (.new x k cs)) := by
  obtain ⟨t2, p2, q2⟩ := h2
  obtain ⟨c0, c1, fa, fd, ps, c2, c3, c4⟩ := Γok.cl x k _ hm
  obtain ⟨n1, n2, n3⟩ := okN_of hk
  refine ⟨tMake (He.ga Γ.K x) (spF Γ.K Γ.cf k) [] E0 t2, fun X g => ?_, fun σ H env st S φ Q E I f => ?_⟩
  · have F : FnOk X.prog X.w X.K X.mg X.base (L2.CX X.prog X.w) Γ.k fa fd ps (spF Γ.K Γ.cf k) := by rw [g.prog, g.w, g.K, g.mg, g.base]; exact c4
    exact pe_make (by rw [g.K]; exact c2) F g.room (g.gl hg) (by rw [g.mg]; exact c0) (by rw [g.K]; exact c3) .nil passL (p2 X g) n1 (hst e List.mem_cons_self _ _) (star_plain (e := e) fun z hz => hst z (List.mem_cons_of_mem _ hz))
  · unfold ev at f
    obtain ⟨ds, s1, e1, f1⟩ := f.bind
    refine q2 σ H env st S φ _ E I ?_
    rw [e1]
    intro vs H1 S1 φ1 x1 I1 r1 ad dx hx hdx hne
    rw [List.append_nil]
    have hx' : upd H1 dx (.own ad) ad = none := by rw [upd_ne (Ne.symm hne)]; exact hx
    have J1 := I1.alloc0 (o := .own ad) hdx
    have J2 := J1.alloc0 (o := .ins (He.ga Γ.K x) dx []) hx'
    have y1 : Stp S1 φ1 H1 S1 φ1 (upd (upd H1 dx (.own ad)) ad (.ins (He.ga Γ.K x) dx [])) := (Stp.alloc0 hdx).trans (Stp.alloc0 hx')
    obtain ⟨f1S, f1φ⟩ := I1.fresh hx
    have J3 := J2.moreO (o := .obj x []) f1S f1φ ⟨dx, [], upd_same, rfl, .nil, c1, fun q hq => by cases hq⟩
    have y2 : Stp S1 φ1 H1 S1 (φ1 ++ [ad]) (upd (upd H1 dx (.own ad)) ad (.ins (He.ga Γ.K x) dx [])) := y1.addP hx
    refine ⟨S1, φ1 ++ [ad], s1 ++ [.obj x []], .loc s1.length :: ds, J3, .cons (.loc ?_) ((pd_rep r1).mono y2 I1), .inl ?_⟩
    · rw [← I1.len, List.getElem?_append_right (Nat.le_refl _)]; simp
    · obtain ⟨r, s2, e2, f2⟩ := f1.bind
      rw [e2]
      cases r with
      | non =>
        intro v H2 S2 φ2 x2 I2 r2
        refine ⟨r2.rd0.non, f2 (.ref ad) H2 S2 φ2 ((x1.trans y2).trans x2) I2 (.inl (.loc ?_))⟩
        obtain ⟨ψ, eψ, _⟩ := x2.phi
        rw [eψ, List.getElem?_append_left (by rw [← I1.len]; simp), ← I1.len, List.getElem?_append_right (Nat.le_refl _)]; simp
      | _ => exact False.elim f2
end
end PV
set_option maxRecDepth 100000
set_option maxHeartbeats 4000000
/-! All expressions. -/
namespace PV
open PySem PySem.Spec PyProof.Rows L2
section
variable {K : PySem.W.Frag} {S : Addr → Prop} {φ : List Addr} {H : Hp} {st : Sto} {a : Addr} {n : Nat} {vs : List V} {ds : List D}
/-- an object of the store changes -/
theorem Stp.chg {o : HO} (h : a ∈ φ) : Stp S φ H S φ (L2.upd H a o) :=
  ⟨fun b o' e n => by rw [L2.upd_ne (fun q : b = a => n (by rw [q]; exact h))]; exact e, fun b e => by
    by_cases q : b = a
    · rw [q, L2.upd_same]; simp
    · rw [L2.upd_ne q]; exact e, fun _ h => h, fun _ h => .inl h, [], by simp⟩
theorem SI.chgO {ho : HO} {o : SO} (I : SI K S φ H st) (h : φ[n]? = some a) (r : ORep K S φ (L2.upd H a ho) a o) : SI K S φ (L2.upd H a ho) (st.set n o) := by
  have ha : a ∈ φ := List.mem_of_getElem? h
  refine ⟨fun b hb => ?_, I.dis, by simp [I.len], I.nd, fun m b es e1 e2 => ?_⟩
  · by_cases q : b = a
    · rw [q, L2.upd_same]; simp
    · rw [L2.upd_ne q]; exact I.dom b hb
  · by_cases q : n = m
    · subst q
      rw [h] at e1; cases e1
      have hn : n < st.length := by rw [← I.len]; exact (List.getElem?_eq_some_iff.mp h).1
      rw [List.getElem?_set_self hn] at e2; cases e2
      exact r
    · rw [List.getElem?_set_ne q] at e2
      have hne : b ≠ a := fun e => q (nd_ix I.nd h (e ▸ e1))
      exact (I.obj m b es e1 e2).tr (fun b hb => L2.upd_ne (fun e => I.dis a ha (by rw [← e]; exact hb))) (fun _ q => q) ⟨[], by simp⟩ (L2.upd_ne hne)
theorem SI.chg (I : SI K S φ H st) (h : φ[n]? = some a) (r : RepL K S φ H vs ds) : SI K S φ (L2.upd H a (.lst vs)) (st.set n (.lst ds)) :=
  I.chgO h (o := .lst ds) ⟨vs, L2.upd_same, r.tr (fun b hb => L2.upd_ne (fun e => I.dis a (List.mem_of_getElem? h) (by rw [← e]; exact hb))) (fun _ q => q) ⟨[], by simp⟩⟩
end
section
variable {Γ : Ctx} {L : LC} {o : Bool} {e a b : Expr}
theorem folded_of {m : MC} {c : Src} {sc : Scope} {t i : Expr} (h : mI m c sc t i = true) : ∀ env v, foldedSetIterable i env v = pure v := fun env v => by
  cases i with
  | Set xs k p =>
    exfalso
    cases c with
    | seq c =>
      unfold mI at h
      cases c with
      | fz f => unfold mE at h; cases f <;> simp [mF] at h
      | alloc f => unfold mE at h; cases f <;> simp [mF] at h
      | _ => simp [mE] at h
    | _ => simp [mI] at h
  | _ => rfl
/-- the arguments of pop -/
theorem isL_get {s : Sto} {n : Nat} (h : isL s n = true) : ∃ ds, s[n]? = some (.lst ds) := by
  unfold isL at h
  split at h
  · exact ⟨_, by assumption⟩
  · cases h
theorem se_popL (Γok : CtxOk Γ) {i : Nat} {oe : OEx} {x : Str} {xs : List Expr} {p apos cpos : Pos} {cf gs} (h1 : Γ.m.N[i]? = some x) (h2 : visB L.sc x = true) (h3 : okN x = true) (hl : (apos.endLine == cpos.line) = true)
    (ha : (xs = [] ∧ oe = .n) ∨ ∃ y c, xs = [y] ∧ oe = .s c ∧ (∀ env r, starEach (y :: r) env = (false, eval y env) :: starEach r env) ∧ SE Γ L true y (ev cf gs true c)) :
    SE Γ L o (.Call (.Attribute (.Name x p) ("pop" : Str) apos) xs [] cpos) (ev cf gs o (.popL i oe)) := by
  obtain ⟨n1, n2, _⟩ := okN_of h3
  have pvar : ∀ X, Good Γ L X → PE X (.Name x p) (tVar i) := fun X g => pe_var (by rw [g.N]; exact h1) (by rw [g.sc]; exact vis_of h2) n1 n2
  rcases ha with ⟨rfl, rfl⟩ | ⟨y, c, rfl, rfl, hst, t, p1, q1⟩
  · refine ⟨tBM0 Γ.K "list" rPop (tVar i), fun X g => by
      rw [← g.K]
      exact pe_bm0 PySem.F.plainAttrs_list PySem.F.slot_list_pop PySem.F.type_list_pop mt_pop (pvar X g) rfl hl, fun σ H env st S φ Q E I f => ?_⟩
    unfold ev at f
    split at f
    · rename_i n he
      by_cases hL : isL st n = true
      rotate_left
      · rw [if_pos (by simpa using hL)] at f; exact False.elim f
      rw [if_neg (by simp [hL])] at f
      simp only [evO, Out.bind] at f
      obtain ⟨v, e1, r⟩ := E.val i _ he
      cases r with
      | @loc a n hφ =>
        split at f
        · rename_i ds hs
          obtain ⟨vs, hv, rv⟩ := I.obj n a (.lst ds) hφ hs
          split at f
          · rename_i d hd
            obtain ⟨w, hw, rw'⟩ := rv.get hd
            have hm : a ∈ φ := List.mem_of_getElem? hφ
            have I2 := I.chg hφ rv.dropLast
            refine ⟨_, e1, .inl ⟨rfl, vs, .inl (.inl hv)⟩, a, vs, w, rfl, rfl, hv, by rw [rv.length]; exact hw, ?_⟩
            exact f w _ S φ (Stp.chg hm) I2 (.inl (rw'.tr (fun b hb => upd_ne (fun e => I.dis a hm (by rw [← e]; exact hb))) (fun _ q => q) ⟨[], by simp⟩))
          · exact False.elim f
        · exact False.elim f
    · exact False.elim f
  · refine ⟨tBM Γ.K "list" rPopAt (tVar i) (tCons t tNil), fun X g => by
      rw [← g.K]
      exact pe_bm PySem.F.plainAttrs_list PySem.F.slot_list_pop PySem.F.type_list_pop mt_popAt (pvar X g) (pa_cons (p1 X g) pa_nil (hst _ _)) rfl (by rw [hst]; rfl) hl (hst _ _) rfl, fun σ H env st S φ Q E I f => ?_⟩
    unfold ev at f
    split at f
    · rename_i n he
      by_cases hL : isL st n = true
      rotate_left
      · rw [if_pos (by simpa using hL)] at f; exact False.elim f
      rw [if_neg (by simp [hL])] at f
      obtain ⟨v, e1, r⟩ := E.val i _ he
      obtain ⟨ko, s1, ek, f1⟩ := f.bind
      unfold evO at ek
      cases e2 : ev cf gs true c env st with
      | err => rw [e2] at ek; cases ek
      | ok dk s2 =>
        simp only [e2, Out.bind] at ek
        cases r with
        | @loc a n hφ =>
          obtain ⟨ds0, hs0⟩ := isL_get hL
          obtain ⟨vs0, hv0, rv0⟩ := I.obj n a (.lst ds0) hφ hs0
          refine ⟨_, e1, .inl ⟨rfl, vs0, .inl (.inl hv0)⟩, ?_⟩
          refine SE.use q1 E I e2 fun w H1 S1 φ1 x1 E1 I1 r1 => ?_
          split at ek
          · rename_i k
            cases ek
            have ew := r1.rd0.int
            subst ew
            simp only at f1
            have hφ1 : φ1[n]? = some a := by
              obtain ⟨ψ, e, _⟩ := x1.phi
              rw [e, List.getElem?_append_left (List.getElem?_eq_some_iff.mp hφ).1]; exact hφ
            split at f1
            · rename_i ds hs
              obtain ⟨vs, hv, rv⟩ := I1.obj n a (.lst ds) hφ1 hs
              by_cases hk : -9223372036854775808 ≤ k ∧ k < 9223372036854775808
              rotate_left
              · rw [if_neg hk] at f1; exact False.elim f1
              rw [if_pos hk] at f1
              split at f1
              · rename_i j hj
                split at f1
                · rename_i d hd
                  obtain ⟨z, hw, rw'⟩ := rv.get hd
                  have hm : a ∈ φ1 := List.mem_of_getElem? hφ1
                  have I2 := I1.chg hφ1 (rv.eraseIdx j)
                  obtain ⟨q1, q2, q3, q4⟩ := ixN_seq hj
                  refine ⟨a, vs, k, j, z, rfl, rfl, hv, hk.1, hk.2, by rw [rv.length]; exact q1, hw, ?_⟩
                  exact f1 z _ S1 φ1 (x1.trans (Stp.chg hm)) I2 (.inl (rw'.tr (fun b hb => upd_ne (fun e => I1.dis a hm (by rw [← e]; exact hb))) (fun _ q => q) ⟨[], by simp⟩))
                · exact False.elim f1
              · exact False.elim f1
            · exact False.elim f1
          · cases ek
    · exact False.elim f

theorem se1_of {c : Ex} (ht : SE Γ L true e (ev Γ.cf Γ.gs true c)) (hf : SE Γ L false e (ev Γ.cf Γ.gs false c)) (h : mE Γ.m c L.sc e = true) : SE1 Γ L e c Γ.cf Γ.gs := by
  have plain : ev Γ.cf Γ.gs true c = ev Γ.cf Γ.gs false c → SE1 Γ L e c Γ.cf Γ.gs := fun he => by
    obtain ⟨t, p, q⟩ := hf
    refine ⟨t, p, fun σ H env st S φ Q E I f => q σ H env st S φ Q E I ?_⟩
    rw [he] at f
    cases e1 : ev Γ.cf Γ.gs false c env st with
    | err => rw [e1] at f; exact f
    | ok d s1 => rw [e1] at f; exact fun v H' S' φ' x I' r => f v H' S' φ' x I' (.inl r.val) fun _ => r.val
  cases c with
  | var i =>
    unfold mE at h
    split at h
    · rename_i x pos
      simp only [Bool.and_eq_true, decide_eq_true_eq] at h
      obtain ⟨⟨h1, h2⟩, h3⟩ := h
      obtain ⟨n1, n2, _⟩ := okN_of h3
      refine ⟨tVar i, fun X g => pe_var (by rw [g.N]; exact h1) (by rw [g.sc]; exact vis_of h2) n1 n2, fun σ H env st S φ Q E I f => ?_⟩
      unfold ev at f
      cases he : env[i]? with
      | none => rw [he] at f; exact False.elim f
      | some sv =>
        cases sv with
        | none => rw [he] at f; exact False.elim f
        | some sv =>
          cases sv with
          | val d =>
            rw [he] at f
            obtain ⟨v, e1, r⟩ := E.val i d he
            exact ⟨v, e1, f v H S φ .refl I (.inl r) fun _ => r⟩
          | own ds =>
            rw [he] at f
            obtain ⟨a, vs, e1, e2, _, e4, r⟩ := E.own i ds he
            refine ⟨_, e1, f _ H S φ .refl I (.inr ⟨rfl, a, vs, ds, rfl, rfl, e4, e2, r⟩) fun hb => ?_⟩
            simp [isOwn, he] at hb
    · cases h
  | bop and es =>
    obtain ⟨t, p, q⟩ := ht
    refine ⟨t, p, fun σ H env st S φ Q E I f => q σ H env st S φ Q E I ?_⟩
    cases e1 : ev Γ.cf Γ.gs true (.bop and es) env st with
    | err => rw [e1] at f; exact f
    | ok d s1 => rw [e1] at f; exact fun v H' S' φ' x I' r => f v H' S' φ' x I' r fun hb => by simp [isOwn] at hb
  | _ => exact plain (by funext env s; simp only [ev])
mutual
theorem sE (Γok : CtxOk Γ) : ∀ (c : Ex) (L : LC) (o : Bool) (e : Expr), mE Γ.m c L.sc e = true → SE Γ L o e (ev Γ.cf Γ.gs o c)
  | .var i, L, o, e, h => se_var _ _ h
  | .int i, L, o, e, h => by
    unfold mE at h
    split at h
    · cases of_decide_eq_true h
      exact se_const (d := .int i) (fun X => pe_int) (fun _ _ => by unfold ev; rfl) fun _ _ _ _ => .int i
    · cases h
  | .str x, L, o, e, h => by
    unfold mE at h
    split at h
    · cases of_decide_eq_true h
      exact se_const (d := .str x) (fun X => pe_str) (fun _ _ => by unfold ev; rfl) fun _ _ _ _ => .str x
    · cases h
  | .bl b, L, o, e, h => by
    unfold mE at h
    split at h
    · cases of_decide_eq_true h
      exact se_const (d := .bl b) (fun X => pe_bl) (fun _ _ => by unfold ev; rfl) fun _ _ _ _ => .bl b
    · cases h
  | .non, L, o, e, h => by
    unfold mE at h
    split at h
    · exact se_const (d := .non) (fun X => pe_non) (fun _ _ => by unfold ev; rfl) fun _ _ _ _ => .non
    · cases h
  | .gl k, L, o, e, h => se_gl Γok h
  | .tup es, L, o, e, h => by
    unfold mE at h
    split at h
    · simp only [Bool.and_eq_true, decide_eq_true_eq] at h
      exact se_tup h.2 (sEs Γok es L false _ h.1)
    · cases h
  | .fz f, L, o, e, h => by
    unfold mE at h
    exact se_fz (sF Γok f L e h)
  | .alloc f, L, o, e, h => by
    unfold mE at h
    exact se_alloc (sF Γok f L e h)
  | .bin op a b, L, o, e, h => by
    unfold mE at h
    split at h
    · simp only [Bool.and_eq_true, decide_eq_true_eq] at h
      obtain ⟨⟨h1, h2⟩, h3⟩ := h
      subst h1
      exact se_bin (sE Γok a L true _ h2) (sE Γok b L true _ h3)
    · cases h
  | .neg a, L, o, e, h => by
    unfold mE at h
    split at h
    · exact se_neg (sE Γok a L true _ h)
    · cases h
  | .not a, L, o, e, h => by
    unfold mE at h
    split at h
    · exact se_not (sE Γok a L true _ h)
    · cases h
  | .cmp op a b, L, o, e, h => by
    unfold mE at h
    split at h
    · simp only [Bool.and_eq_true, decide_eq_true_eq] at h
      obtain ⟨⟨⟨h1, hm⟩, h2⟩, h3⟩ := h
      subst h1
      obtain ⟨t, p, q⟩ := sx_cmp (o := o) (op := op) (by simpa using hm) (sE Γok a L true _ h2) (sE Γok b L true _ h3)
      exact ⟨t, fun X g => (p X g).1, q⟩
    · cases h
  | .chn op op' a b c, L, o, e, h => by
    unfold mE at h
    split at h
    · simp only [Bool.and_eq_true, decide_eq_true_eq] at h
      obtain ⟨⟨⟨⟨⟨h1, h2⟩, hm⟩, h3⟩, h4⟩, h5⟩ := h
      subst h1 h2
      obtain ⟨t, p, q⟩ := sx_chn (o := o) (op := op) (op' := op') (by simpa using hm) (sE Γok a L true _ h3) (sE Γok b L true _ h4) (sE Γok c L true _ h5)
      exact ⟨t, fun X g => (p X g).1, q⟩
    · cases h
  | .bop and es, L, o, e, h => by
    unfold mE at h
    split at h
    · rename_i op xs pos
      simp only [Bool.and_eq_true, decide_eq_true_eq] at h
      obtain ⟨h1, h2⟩ := h
      subst h1
      have := sBop Γok and es L o xs pos h2
      rw [show ev Γ.cf Γ.gs o (.bop and es) = evB Γ.cf Γ.gs o and es by funext env s; simp only [ev]]
      exact this
    · cases h
  | .ite c a b, L, o, e, h => by
    unfold mE at h
    split at h
    · simp only [Bool.and_eq_true] at h
      obtain ⟨⟨⟨h1, h2⟩, h3⟩, h4⟩ := h
      exact se_ite (sT Γok c L _ h1 h2) (sE Γok a L false _ h3) (sE Γok b L false _ h4)
    · cases h
  | .idx a i, L, o, e, h => by
    unfold mE at h
    split at h
    · simp only [Bool.and_eq_true] at h
      exact se_idx (notSlice_of h.2) (sE Γok a L true _ h.1) (sE Γok i L true _ h.2)
    · cases h
  | .slc a lo hi, L, o, e, h => by
    unfold mE at h
    split at h
    · simp only [Bool.and_eq_true] at h
      exact se_slc (sE Γok a L true _ h.1.1) (sO Γok lo L _ h.1.2) (sO Γok hi L _ h.2)
    · cases h
  | .rev a, L, o, e, h => by
    unfold mE at h
    split at h
    · exact se_rev (sE Γok a L true _ h)
    · cases h
  | .call f .nil, L, o, e, h => by
    unfold mE at h
    split at h
    · rename_i x p xs pos
      simp only [Bool.and_eq_true, decide_eq_true_eq] at h
      obtain ⟨⟨⟨h1, h2⟩, h3⟩, h4⟩ := h
      cases xs with
      | nil => exact se_call0 Γok h1 h2 h3
      | cons y ys => simp [mEs] at h4
    · cases h
  | .call f (.c e1 es), L, o, e, h => by
    unfold mE at h
    split at h
    · rename_i x p xs pos
      simp only [Bool.and_eq_true, decide_eq_true_eq] at h
      obtain ⟨⟨⟨h1, h2⟩, h3⟩, h4⟩ := h
      refine se_call Γok ?_ h1 h2 h3 (stars_of h4) (sAs Γok (.c e1 es) L _ h4)
      intro z; subst z; simp [mEs] at h4
    · cases h
  | .blt b es, L, o, e, h => by
    unfold mE at h
    split at h
    · rename_i x p y ys pos
      simp only [Bool.and_eq_true, decide_eq_true_eq] at h
      obtain ⟨⟨⟨⟨h1, h2⟩, h3⟩, h4⟩, h5⟩ := h
      exact se_blt Γok h1 h2 h3 h4 (stars_of h5) (sEs Γok es L true _ h5)
    · cases h
  | .isi a t, L, o, e, h => by
    unfold mE at h
    split at h
    · rename_i x p y z pz pos
      simp only [Bool.and_eq_true, decide_eq_true_eq] at h
      obtain ⟨⟨⟨⟨⟨⟨⟨⟨h1, h2⟩, h3⟩, h4⟩, h5⟩, h6⟩, h7⟩, h8⟩, h9⟩ := h
      subst h1
      exact se_isi Γok h2 h3 h5 h6 h7 h8 (fun env r => star_of h9) (sE Γok a L true _ h9)
    · cases h
  | .popL i .n, L, o, e, h => by
    unfold mE at h
    split at h
    · rename_i x p a apos xs cpos
      simp only [Bool.and_eq_true, decide_eq_true_eq] at h
      obtain ⟨⟨⟨⟨⟨h1, h2⟩, h3⟩, h4⟩, h5⟩, h6⟩ := h
      subst h4
      refine se_popL Γok h1 h2 h3 h5 ?_
      cases xs with
      | nil => exact .inl ⟨rfl, rfl⟩
      | cons y ys =>
        cases ys with
        | nil => simp [mO] at h6
        | cons z zs => simp at h6
    · cases h
  | .popL i (.s c), L, o, e, h => by
    unfold mE at h
    split at h
    · rename_i x p a apos xs cpos
      simp only [Bool.and_eq_true, decide_eq_true_eq] at h
      obtain ⟨⟨⟨⟨⟨h1, h2⟩, h3⟩, h4⟩, h5⟩, h6⟩ := h
      subst h4
      refine se_popL Γok h1 h2 h3 h5 ?_
      cases xs with
      | nil => simp [mO] at h6
      | cons y ys =>
        cases ys with
        | nil =>
          have h7 : mE Γ.m c L.sc y = true := by simpa [mO] using h6
          exact .inr ⟨y, c, rfl, rfl, fun env r => star_of h7, sE Γok c L true _ h7⟩
        | cons z zs => simp at h6
    · cases h
  | .fld a f, L, o, e, h => by
    unfold mE at h
    split at h
    · simp only [Bool.and_eq_true, decide_eq_true_eq] at h
      obtain ⟨⟨h1, h2⟩, h3⟩ := h
      subst h1
      exact se_fld h2 (sE Γok a L true _ h3)
    · cases h
  | .mth x a f k es, L, o, e, h => by
    unfold mE at h
    split at h
    · rename_i ob g apos xs cpos
      simp only [Bool.and_eq_true, decide_eq_true_eq] at h
      obtain ⟨⟨⟨⟨⟨⟨h1, h2⟩, h3⟩, h4⟩, h5⟩, h6⟩, h7⟩ := h
      subst h1
      cases xs with
      | nil =>
        cases es with
        | nil => exact se_mth0 Γok h3 h2 h4 (sE Γok a L true _ h6)
        | c e es => simp [mEs] at h7
      | cons y ys => exact se_mth Γok h3 h2 h4 h5 (by simp) (stars_of h7) (sE Γok a L true _ h6) (sEs Γok es L false _ h7)
    · cases h
  | .new x k es, L, o, e, h => by
    unfold mE at h
    split at h
    · simp only [Bool.and_eq_true, decide_eq_true_eq] at h
      obtain ⟨⟨⟨⟨h1, h2⟩, h3⟩, h4⟩, h5⟩ := h
      subst h1
      exact se_new Γok h2 h3 h4 (stars_of h5) (sEs Γok es L false _ h5)
    · cases h
termination_by c => 2 * sizeOf c
decreasing_by all_goals first | (simp_wf; omega) | (simp_wf; done)
theorem sT (Γok : CtxOk Γ) : ∀ (c : Ex) (L : LC) (e : Expr), mE Γ.m c L.sc e = true → tstB c = true → ST Γ L e fun env s => (ev Γ.cf Γ.gs true c env s).bind fun d s => truthS s d
  | .var i, L, e, h, _ => by
    refine st_of ?_ (sE Γok (.var i) L true e h)
    unfold mE at h; split at h
    · exact fun _ _ => rfl
    · cases h
  | .int i, L, e, h, _ => by
    refine st_of ?_ (sE Γok (.int i) L true e h)
    unfold mE at h; split at h
    · exact fun _ _ => rfl
    · cases h
  | .str i, L, e, h, _ => by
    refine st_of ?_ (sE Γok (.str i) L true e h)
    unfold mE at h; split at h
    · exact fun _ _ => rfl
    · cases h
  | .bl i, L, e, h, _ => by
    refine st_of ?_ (sE Γok (.bl i) L true e h)
    unfold mE at h; split at h
    · exact fun _ _ => rfl
    · cases h
  | .non, L, e, h, _ => by
    refine st_of ?_ (sE Γok .non L true e h)
    unfold mE at h; split at h
    · exact fun _ _ => rfl
    · cases h
  | .gl k, L, e, h, _ => by
    refine st_of ?_ (sE Γok (.gl k) L true e h)
    unfold mE at h; split at h
    · exact fun _ _ => rfl
    · cases h
  | .tup es, L, e, h, t => by cases t
  | .fz f, L, e, h, t => by cases t
  | .alloc f, L, e, h, t => by cases t
  | .bin op a b, L, e, h, _ => by
    refine st_of ?_ (sE Γok (.bin op a b) L true e h)
    unfold mE at h; split at h
    · exact fun _ _ => rfl
    · cases h
  | .neg a, L, e, h, _ => by
    refine st_of ?_ (sE Γok (.neg a) L true e h)
    unfold mE at h; split at h
    · exact fun _ _ => rfl
    · cases h
  | .not a, L, e, h, t => by
    unfold mE at h
    split at h
    · exact st_not (sT Γok a L _ h t)
    · cases h
  | .cmp op a b, L, e, h, _ => by
    unfold mE at h
    split at h
    · simp only [Bool.and_eq_true, decide_eq_true_eq] at h
      obtain ⟨⟨⟨h1, hm⟩, h2⟩, h3⟩ := h
      subst h1
      obtain ⟨t, p, q⟩ := sx_cmp (o := true) (op := op) (by simpa using hm) (sE Γok a L true _ h2) (sE Γok b L true _ h3)
      exact ⟨tTest t, fun X g => (p X g).2, fun σ H env st S φ Q E I f => st_bl (fun _ _ _ _ h => ev_cmp_bl h) q E I f⟩
    · cases h
  | .chn op op' a b c, L, e, h, _ => by
    unfold mE at h
    split at h
    · simp only [Bool.and_eq_true, decide_eq_true_eq] at h
      obtain ⟨⟨⟨⟨⟨h1, h2⟩, hm⟩, h3⟩, h4⟩, h5⟩ := h
      subst h1 h2
      obtain ⟨t, p, q⟩ := sx_chn (o := true) (op := op) (op' := op') (by simpa using hm) (sE Γok a L true _ h3) (sE Γok b L true _ h4) (sE Γok c L true _ h5)
      exact ⟨tTest t, fun X g => (p X g).2, fun σ H env st S φ Q E I f => st_bl (fun _ _ _ _ h => ev_chn_bl h) q E I f⟩
    · cases h
  | .bop and es, L, e, h, t => by
    unfold mE at h
    split at h
    · rename_i op xs pos
      simp only [Bool.and_eq_true, decide_eq_true_eq] at h
      obtain ⟨h1, h2⟩ := h
      subst h1
      have := (sBopT Γok and es L xs pos h2 t).st
      simp only [ev]
      exact this
    · cases h
  | .ite c a b, L, e, h, t => by cases t
  | .idx a i, L, e, h, _ => by
    refine st_of ?_ (sE Γok (.idx a i) L true e h)
    unfold mE at h; split at h
    · exact fun _ _ => rfl
    · cases h
  | .slc a lo hi, L, e, h, _ => by
    refine st_of ?_ (sE Γok (.slc a lo hi) L true e h)
    unfold mE at h; split at h
    · exact fun _ _ => rfl
    · cases h
  | .rev a, L, e, h, _ => by
    refine st_of ?_ (sE Γok (.rev a) L true e h)
    unfold mE at h; split at h
    · exact fun _ _ => rfl
    · cases h
  | .call f es, L, e, h, _ => by
    refine st_of ?_ (sE Γok (.call f es) L true e h)
    unfold mE at h; split at h
    · exact fun _ _ => rfl
    · cases h
  | .blt f es, L, e, h, _ => by
    refine st_of ?_ (sE Γok (.blt f es) L true e h)
    unfold mE at h; split at h
    · exact fun _ _ => rfl
    · cases h
  | .isi f es, L, e, h, _ => by
    refine st_of ?_ (sE Γok (.isi f es) L true e h)
    unfold mE at h; split at h
    · exact fun _ _ => rfl
    · cases h
  | .popL f es, L, e, h, _ => by
    refine st_of ?_ (sE Γok (.popL f es) L true e h)
    unfold mE at h; split at h
    · exact fun _ _ => rfl
    · cases h
  | .fld a f, L, e, h, _ => by
    refine st_of ?_ (sE Γok (.fld a f) L true e h)
    unfold mE at h; split at h
    · exact fun _ _ => rfl
    · cases h
  | .mth x a f k es, L, e, h, _ => by
    refine st_of ?_ (sE Γok (.mth x a f k es) L true e h)
    unfold mE at h; split at h
    · exact fun _ _ => rfl
    · cases h
  | .new x k es, L, e, h, _ => by
    refine st_of ?_ (sE Γok (.new x k es) L true e h)
    unfold mE at h; split at h
    · exact fun _ _ => rfl
    · cases h
termination_by c => 2 * sizeOf c + 1
decreasing_by all_goals first | (simp_wf; omega) | (simp_wf; done)
theorem sEs (Γok : CtxOk Γ) : ∀ (cs : Exs) (L : LC) (o : Bool) (es : List Expr), mEs Γ.m cs L.sc es = true → SL Γ L o es (evL Γ.cf Γ.gs o cs)
  | .nil, L, o, es, h => by
    unfold mEs at h
    split at h
    · exact sl_nil
    · cases h
  | .c c cs, L, o, es, h => by
    unfold mEs at h
    split at h
    · simp only [Bool.and_eq_true] at h
      exact sl_cons (fun env => star_of h.1) (sE Γok c L o _ h.1) (sEs Γok cs L o _ h.2)
    · cases h
termination_by c => 2 * sizeOf c
decreasing_by all_goals first | (simp_wf; omega) | (simp_wf; done)
theorem sAs (Γok : CtxOk Γ) : ∀ (cs : Exs) (L : LC) (es : List Expr), mEs Γ.m cs L.sc es = true → SA Γ L es cs Γ.cf Γ.gs
  | .nil, L, es, h => by
    unfold mEs at h
    split at h
    · exact sa_nil
    · cases h
  | .c c cs, L, es, h => by
    unfold mEs at h
    split at h
    · simp only [Bool.and_eq_true] at h
      exact sa_cons (fun env => star_of h.1) (se1_of (sE Γok c L true _ h.1) (sE Γok c L false _ h.1) h.1) (sAs Γok cs L _ h.2)
    · cases h
termination_by c => 2 * sizeOf c
decreasing_by all_goals first | (simp_wf; omega) | (simp_wf; done)
theorem sBop (Γok : CtxOk Γ) (and : Bool) : ∀ (cs : Exs) (L : LC) (o : Bool) (es : List Expr) (pos : Pos), mEs Γ.m cs L.sc es = true → SE Γ L o (.BoolOp (bopOf and) es pos) (evB Γ.cf Γ.gs o and cs)
  | .nil, L, o, es, pos, h => ⟨fun _ _ _ => False, fun X _ => ⟨fun _ _ _ _ _ _ q => q.elim⟩, fun σ H env st S φ Q E I f => by unfold evB at f; exact f⟩
  | .c c .nil, L, o, es, pos, h => by
    unfold mEs at h
    split at h
    · rename_i x xs
      simp only [Bool.and_eq_true] at h
      have h2 := h.2
      unfold mEs at h2
      split at h2
      · exact se_bop1 (sE Γok c L o _ h.1)
      · cases h2
    · cases h
  | .c c (.c c' cs), L, o, es, pos, h => by
    unfold mEs at h
    split at h
    · rename_i x xs
      simp only [Bool.and_eq_true] at h
      have h2 := h.2
      have ih := sBop Γok and (.c c' cs) L o xs pos h2
      unfold mEs at h2
      split at h2
      · exact se_bopc (sE Γok c L o _ h.1) ih
      · cases h2
    · cases h
termination_by c => 2 * sizeOf c
decreasing_by all_goals first | (simp_wf; omega) | (simp_wf; done)
theorem sBopT (Γok : CtxOk Γ) (and : Bool) : ∀ (cs : Exs) (L : LC) (es : List Expr) (pos : Pos), mEs Γ.m cs L.sc es = true → tstsB cs = true → SW Γ L (.BoolOp (bopOf and) es pos) fun env s => (evB Γ.cf Γ.gs true and cs env s).bind fun d s => truthS s d
  | .nil, L, es, pos, h, _ => ⟨fun _ _ _ => False, fun X _ => ⟨fun _ _ _ _ _ _ _ q => q.elim⟩, fun σ H env st S φ Q E I f => by unfold evB at f; exact f⟩
  | .c c .nil, L, es, pos, h, t => by
    have t' := Bool.and_eq_true_iff.mp (show (tstB c && tstsB .nil) = true from t)
    unfold mEs at h
    split at h
    · rename_i x xs
      simp only [Bool.and_eq_true] at h
      have h2 := h.2
      unfold mEs at h2
      split at h2
      · exact sw_bop1 (sT Γok c L _ h.1 t'.1)
      · cases h2
    · cases h
  | .c c (.c c' cs), L, es, pos, h, t => by
    have t' := Bool.and_eq_true_iff.mp (show (tstB c && tstsB (.c c' cs)) = true from t)
    unfold mEs at h
    split at h
    · rename_i x xs
      simp only [Bool.and_eq_true] at h
      have h2 := h.2
      have ih := sBopT Γok and (.c c' cs) L xs pos h2 t'.2
      unfold mEs at h2
      split at h2
      · exact sw_bopc (sT Γok c L _ h.1 t'.1) ih
      · cases h2
    · cases h
termination_by c => 2 * sizeOf c
decreasing_by all_goals first | (simp_wf; omega) | (simp_wf; done)
theorem sO (Γok : CtxOk Γ) : ∀ (c : OEx) (L : LC) (e : Option Expr), mO Γ.m c L.sc e = true → SO' Γ L e (evO Γ.cf Γ.gs c)
  | .n, L, e, h => by
    unfold mO at h
    split at h
    · exact so_none
    · cases h
  | .s c, L, e, h => by
    unfold mO at h
    split at h
    · exact so_some (sE Γok c L true _ h)
    · cases h
termination_by c => 2 * sizeOf c
decreasing_by all_goals first | (simp_wf; omega) | (simp_wf; done)
theorem sC (Γok : CtxOk Γ) : ∀ (c : OEx) (L : LC) (e : List Expr), mC Γ.m c L.sc e = true → SC Γ L e (evC Γ.cf Γ.gs c)
  | .n, L, e, h => by
    unfold mC at h
    split at h
    · exact sc_nil
    · cases h
  | .s c, L, e, h => by
    unfold mC at h
    split at h
    · simp only [Bool.and_eq_true] at h
      exact sc_one (sT Γok c L _ h.1 h.2)
    · cases h
termination_by c => 2 * sizeOf c
decreasing_by all_goals first | (simp_wf; omega) | (simp_wf; done)
theorem sF (Γok : CtxOk Γ) : ∀ (c : Fx) (L : LC) (e : Expr), mF Γ.m c L.sc e = true → SF Γ L e (evF Γ.cf Γ.gs c)
  | .dsp es, L, e, h => by
    unfold mF at h
    split at h
    · simp only [Bool.and_eq_true, decide_eq_true_eq] at h
      exact sf_dsp h.2 (sEs Γok es L false _ h.1)
    · cases h
  | .cp1 elt tg it cond vs, L, e, h => by
    unfold mF at h
    split at h
    · rename_i x t i ifs a scope pos
      simp only [Bool.and_eq_true, decide_eq_true_eq] at h
      obtain ⟨⟨⟨⟨⟨⟨⟨h1, h2⟩, h3⟩, h4⟩, h5⟩, h6⟩, h7⟩, h8⟩ := h
      subst h1
      obtain ⟨te, p, q⟩ := sf_cp1 (pos := pos) Γok (sI Γok it L true t i h2) h3 h4 h5 (sg_of (L := ⟨relS scope L.sc, fbC scope, L.xk⟩) Γok h6) (sC Γok cond ⟨relS scope L.sc, fbC scope, L.xk⟩ ifs h7) (sE Γok elt ⟨relS scope L.sc, fbC scope, L.xk⟩ false x h8) (folded_of h2)
      exact ⟨te, fun X g => (p X g).1, q⟩
    · cases h
  | .cp2 elt tg it cond tg1 it1 cond1 vs vs1, L, e, h => by
    unfold mF at h
    split at h
    · rename_i x t i ifs a t1 i1 ifs1 a1 scope pos
      simp only [Bool.and_eq_true, decide_eq_true_eq] at h
      obtain ⟨⟨⟨⟨⟨⟨⟨⟨⟨⟨⟨⟨⟨h1, h1'⟩, h2⟩, h3⟩, h4⟩, h5⟩, h6⟩, h7⟩, h8⟩, h9⟩, h10⟩, h11⟩, h12⟩, h13⟩ := h
      subst h1 h1'
      have hv1 : ∀ j ∈ vs1, j ∈ vs := fun j hj => by
        have := List.all_eq_true.mp h5 j hj
        simpa using this
      obtain ⟨te, p, q⟩ := sf_cp2 (pos := pos) Γok (sI Γok it L true t i h2) h3 h4 hv1 h6 h7 (sg_of (L := ⟨relS scope L.sc, fbC scope, L.xk⟩) Γok h8) (sC Γok cond ⟨relS scope L.sc, fbC scope, L.xk⟩ ifs h9) (sI Γok it1 ⟨relS scope L.sc, fbC scope, L.xk⟩ false t1 i1 h10)
        (sg_of (L := ⟨relS scope L.sc, fbC scope, L.xk⟩) Γok h11) (sC Γok cond1 ⟨relS scope L.sc, fbC scope, L.xk⟩ ifs1 h12) (sE Γok elt ⟨relS scope L.sc, fbC scope, L.xk⟩ false x h13) (folded_of h2) (folded_of h10)
      exact ⟨te, fun X g => (p X g).1, q⟩
    · cases h
  | .lrg a, L, e, h => by
    unfold mF at h
    split at h
    · simp only [Bool.and_eq_true, decide_eq_true_eq] at h
      obtain ⟨⟨⟨⟨⟨⟨⟨⟨h1, h2⟩, h3⟩, h4⟩, h5⟩, h6⟩, h7⟩, h8⟩, h9⟩ := h
      exact sf_lrg Γok h1 h2 h3 h4 h5 h6 h7 h8 (fun env r => star_of h9) (sE Γok a L true _ h9)
    · cases h
  | .lof a, L, e, h => by
    unfold mF at h
    split at h
    · simp only [Bool.and_eq_true, decide_eq_true_eq] at h
      obtain ⟨⟨⟨⟨h1, h2⟩, h3⟩, h4⟩, h5⟩ := h
      exact sf_lof Γok h1 h2 h3 h4 (fun env r => star_of h5) (sE Γok a L true _ h5)
    · cases h
termination_by c => 2 * sizeOf c
decreasing_by all_goals first | (simp_wf; omega) | (simp_wf; done)
theorem sI (Γok : CtxOk Γ) : ∀ (c : Src) (L : LC) (o : Bool) (t e : Expr), mI Γ.m c L.sc t e = true → SS Γ L o t e (evI Γ.cf Γ.gs o c)
  | .seq a, L, o, t, e, h => by
    unfold mI at h
    exact ss_seq (sE Γok a L o _ h)
  | .rg1 a, L, o, t, e, h => by
    unfold mI at h
    split at h
    · simp only [Bool.and_eq_true, decide_eq_true_eq] at h
      obtain ⟨⟨⟨⟨h1, h2⟩, h3⟩, h4⟩, h5⟩ := h
      exact ss_rg1 Γok h1 h2 h3 (fun env r => star_of h5) (sE Γok a L true _ h5)
    · cases h
  | .rg2 a b, L, o, t, e, h => by
    unfold mI at h
    split at h
    · simp only [Bool.and_eq_true, decide_eq_true_eq] at h
      obtain ⟨⟨⟨⟨⟨h1, h2⟩, h3⟩, h4⟩, h5⟩, h6⟩ := h
      exact ss_rg2 Γok h1 h2 h3 (fun env r => star_of h5) (fun env r => star_of h6) (sE Γok a L true _ h5) (sE Γok b L true _ h6)
    · cases h
  | .rg3 a b c, L, o, t, e, h => ⟨fun _ _ _ => False, fun X _ => ⟨fun _ _ _ _ _ _ q => q.elim⟩, fun σ H env st S φ R E I f => by
      unfold evI at f
      obtain ⟨d, s1, e1, f1⟩ := f.bind
      obtain ⟨d2, s2, e2, f2⟩ := f1.bind
      obtain ⟨d3, s3, e3, f3⟩ := f2.bind
      exact False.elim f3⟩
  | .enm a, L, o, t, e, h => by
    unfold mI at h
    split at h
    · simp only [Bool.and_eq_true, decide_eq_true_eq] at h
      obtain ⟨⟨⟨⟨⟨h0, h1⟩, h2⟩, h3⟩, h4⟩, h5⟩ := h
      cases t with
      | Tuple elts kk tpos => exact ss_enm Γok h1 h2 h3 (fun env r => star_of h5) (sE Γok a L o _ h5)
      | _ => cases h0
    · cases h
  | .zip a b, L, o, t, e, h => by
    unfold mI at h
    split at h
    · simp only [Bool.and_eq_true, decide_eq_true_eq] at h
      obtain ⟨⟨⟨⟨⟨⟨h0, h1⟩, h2⟩, h3⟩, h4⟩, h5⟩, h6⟩ := h
      cases t with
      | Tuple elts kk tpos => exact ss_zip Γok h1 h2 h3 (fun env r => star_of h5) (fun env r => star_of h6) (sE Γok a L o _ h5) (sE Γok b L o _ h6)
      | _ => cases h0
    · cases h
termination_by c => 2 * sizeOf c
decreasing_by all_goals first | (simp_wf; omega) | (simp_wf; done)
end
end
end PV
set_option maxRecDepth 100000
set_option maxHeartbeats 4000000
/-! Statements. -/
namespace PV
open PySem PySem.Spec PyProof.Rows L2
/-- a def's entry -/
structure Ent where
  S : Addr → Prop
  φ : List Addr
  H : Hp
structure KP (S : Addr → Prop) (φ : List Addr) (H : Hp) (S' : Addr → Prop) (φ' : List Addr) (H' : Hp) : Prop where
  sub : ∀ a, S a → S' a
  same : ∀ a, S a → H' a = H a
  pre : ∃ ψ, φ' = φ ++ ψ
structure FI (K : PySem.W.Frag) (E0 : Ent) (S : Addr → Prop) (φ : List Addr) (H : Hp) (σ : L2.St) (env : Env) (st : Sto) : Prop where
  ei : EI K S φ H σ env
  si : SI K S φ H st
  ent : Stp E0.S E0.φ E0.H S φ H
  own : ∀ (i : Nat) ds a, env[i]? = some (some (.own ds)) → σ[i]? = some (some (.ref a)) → E0.H a = none
section
variable {K : PySem.W.Frag} {XE : XK} {E0 : Ent} {S S' S2 : Addr → Prop} {φ φ' φ2 : List Addr} {H H' H2 : Hp} {σ : L2.St} {env : Env} {st st' : Sto}
theorem KP.refl : KP S φ H S φ H := ⟨fun _ h => h, fun _ _ => rfl, [], by simp⟩
theorem KP.trans (x : KP S φ H S' φ' H') (y : KP S' φ' H' S2 φ2 H2) : KP S φ H S2 φ2 H2 :=
  ⟨fun a h => y.sub a (x.sub a h), fun a h => (y.same a (x.sub a h)).trans (x.same a h), by
    obtain ⟨ψ, e⟩ := x.pre
    obtain ⟨ψ2, e2⟩ := y.pre
    exact ⟨ψ ++ ψ2, by rw [e2, e, List.append_assoc]⟩⟩
theorem Stp.kp (x : Stp S φ H S' φ' H') (I : SI K S φ H st) : KP S φ H S' φ' H' := ⟨x.sub, x.same I.dom I.dis, let ⟨ψ, e, _⟩ := x.phi; ⟨ψ, e⟩⟩
theorem FI.go (F : FI K E0 S φ H σ env st) (x : Stp S φ H S' φ' H') (I : SI K S' φ' H' st') : FI K E0 S' φ' H' σ env st' :=
  ⟨F.ei.mono x F.si, I, F.ent.trans x, F.own⟩
def FinX (K : PySem.W.Frag) (XE : XK) (E0 : Ent) (S : Addr → Prop) (φ : List Addr) (H : Hp) (Dn : Ends) : Out Flow → Prop
  | .ok (.nx env') st' => ∀ σ' H' S' φ', KP S φ H S' φ' H' → FI K E0 S' φ' H' σ' env' st' → Dn.nx σ' H'
  | .ok (.ct env') st' => ∀ σ' H' S' φ', KP S φ H S' φ' H' → FI K E0 S' φ' H' σ' env' st' → Dn.ct σ' H'
  | .ok (.bk env') st' => ∀ σ' H' S' φ', KP S φ H S' φ' H' → FI K E0 S' φ' H' σ' env' st' → Dn.bk σ' H'
  | .ok (.ret d) st' => ∀ v H' S' φ', Stp E0.S E0.φ E0.H S' φ' H' → SI K S' φ' H' st' → Rep K S' φ' H' v d → Dn.rt v H'
  | .ok (.rs x d) st' => ∀ H' S' φ' q v, Stp E0.S E0.φ E0.H S' φ' H' → SI K S' φ' H' st' → H' q = some (.xd [("step", v)]) → Rep K S' φ' H' v d → XE (.ref (He.ga K x)) (some q) H'
  | .err => False
theorem FinX.kp {Dn : Ends} {m : Out Flow} (x : KP S φ H S' φ' H') (h : FinX K XE E0 S φ H Dn m) : FinX K XE E0 S' φ' H' Dn m := by
  cases m with
  | err => exact h
  | ok f s =>
    cases f with
    | nx env' => exact fun σ' H2 S2 φ2 y F => h σ' H2 S2 φ2 (x.trans y) F
    | ct env' => exact fun σ' H2 S2 φ2 y F => h σ' H2 S2 φ2 (x.trans y) F
    | bk env' => exact fun σ' H2 S2 φ2 y F => h σ' H2 S2 φ2 (x.trans y) F
    | ret d => exact h
    | rs x d => exact h
theorem FinX.bind {α : Type} {Dn : Ends} {m : Out α} {f : α → Sto → Out Flow} (h : FinX K XE E0 S φ H Dn (m.bind f)) : ∃ x s, m = .ok x s ∧ FinX K XE E0 S φ H Dn (f x s) := by
  cases m with
  | ok x s => exact ⟨x, s, rfl, h⟩
  | err => exact False.elim h
end
structure GoodS (Γ : Ctx) (L : LC) (X : Cx) : Prop extends Good Γ L X where
  own : PassesOwn (model X.prog X.w) X.A X.env X.xe
  tk : Takes X (fun c d _ H => L.xk c d H)
  stk : X.stack = X.env :: X.outer
  frm : X.env.frame = some X.env.locals
def SX (Γ : Ctx) (L : LC) (s : Stmt) (m : Env → Sto → Out Flow) : Prop :=
  ∃ t : TS, (∀ X, GoodS Γ L X → PS X s t) ∧ ∀ E0 σ H env st S φ Dn, FI Γ.K E0 S φ H σ env st → FinX Γ.K L.xk E0 S φ H Dn (m env st) → t Dn σ H
def SXs (Γ : Ctx) (L : LC) (s : List Stmt) (m : Env → Sto → Out Flow) : Prop :=
  ∃ t : TS, (∀ X, GoodS Γ L X → PSs X s t) ∧ ∀ E0 σ H env st S φ Dn, FI Γ.K E0 S φ H σ env st → FinX Γ.K L.xk E0 S φ H Dn (m env st) → t Dn σ H
section
variable {Γ : Ctx} {L : LC} {e : Expr}
theorem sx_never {s : Stmt} {m : Env → Sto → Out Flow} (h : ∀ env s, m env s = .err) : SX Γ L s m :=
  ⟨tNever, fun X _ => ps_never, fun E0 σ H env st S φ Dn F f => by rw [h] at f; exact False.elim f⟩
theorem sx_pass {pos : Pos} : SX Γ L (.Pass pos) fun env s => .ok (.nx env) s :=
  ⟨tNext, fun X _ => ps_pass, fun E0 σ H env st S φ Dn F f => f σ H S φ .refl F⟩
theorem sx_brk {pos : Pos} : SX Γ L (.Break pos) fun env s => .ok (.bk env) s :=
  ⟨tBreak, fun X _ => ps_break, fun E0 σ H env st S φ Dn F f => f σ H S φ .refl F⟩
theorem sx_cnt {pos : Pos} : SX Γ L (.Continue pos) fun env s => .ok (.ct env) s :=
  ⟨tCont, fun X _ => ps_continue, fun E0 σ H env st S φ Dn F f => f σ H S φ .refl F⟩
theorem sx_retN {pos : Pos} : SX Γ L (.Return none pos) fun env s => .ok (.ret .non) s :=
  ⟨tRetN, fun X _ => ps_retN, fun E0 σ H env st S φ Dn F f => f .non H S φ F.ent F.si .non⟩
/-- a list of one's own becomes a value -/
theorem FI.frz {K : PySem.W.Frag} {E0 : Ent} {S : Addr → Prop} {φ : List Addr} {H : Hp} {σ : L2.St} {env : Env} {st : Sto} (F : FI K E0 S φ H σ env st) (i : Nat) : ∃ S', KP S φ H S' φ H ∧ FI K E0 S' φ H σ (frzAt env i) st := by
  unfold frzAt
  split
  · rename_i ds he
    obtain ⟨a, vs, e1, e2, e3, e4, e5⟩ := F.ei.own i ds he
    have n0 := F.own i ds a he e1
    refine ⟨PV.add S a, ⟨fun _ h => .inl h, fun _ _ => rfl, [], by simp⟩, ⟨by simp [F.ei.len], fun j d h => ?_, fun j es h => ?_, fun j l es es' b h1 h2 => ?_⟩, F.si.add e4 (by rw [e2]; simp), F.ent.addS n0, fun j es b h => ?_⟩
    · rcases set_get h with ⟨rfl, q, hi⟩ | ⟨n, h⟩
      · cases q; exact ⟨_, e1, .lst (.inr rfl) e2 (e5.tr (fun _ _ => rfl) (fun _ q => .inl q) ⟨[], by simp⟩)⟩
      · obtain ⟨v, q, r⟩ := F.ei.val j d h
        exact ⟨v, q, r.tr (fun _ _ => rfl) (fun _ q => .inl q) ⟨[], by simp⟩⟩
    · rcases set_get h with ⟨_, q, _⟩ | ⟨n, h⟩
      · cases q
      · obtain ⟨b, ws, q1, q2, q3, q4, q5⟩ := F.ei.own j es h
        refine ⟨b, ws, q1, q2, fun z => ?_, q4, q5.tr (fun _ _ => rfl) (fun _ q => .inl q) ⟨[], by simp⟩⟩
        rcases z with z | z
        · exact q3 z
        · subst z; exact n (F.ei.inj i j ds es b he h e1 q1)
    · rcases set_get h1 with ⟨_, q, _⟩ | ⟨n, h1⟩
      · cases q
      · rcases set_get h2 with ⟨_, q, _⟩ | ⟨n2, h2⟩
        · cases q
        · exact F.ei.inj j l es es' b h1 h2
    · rcases set_get h with ⟨_, q, _⟩ | ⟨n, h⟩
      · cases q
      · exact F.own j es b h
  · exact ⟨S, .refl, F⟩
theorem FI.frzE {K : PySem.W.Frag} {E0 : Ent} {S : Addr → Prop} {φ : List Addr} {H : Hp} {σ : L2.St} {env : Env} {st : Sto} (F : FI K E0 S φ H σ env st) (c : Ex) : ∃ S', KP S φ H S' φ H ∧ FI K E0 S' φ H σ (PV.frzE env c) st := by
  cases c with
  | var i => exact F.frz i
  | _ => exact ⟨S, .refl, F⟩
theorem FI.frzI {K : PySem.W.Frag} {E0 : Ent} {S : Addr → Prop} {φ : List Addr} {H : Hp} {σ : L2.St} {env : Env} {st : Sto} (F : FI K E0 S φ H σ env st) (c : Src) : ∃ S', KP S φ H S' φ H ∧ FI K E0 S' φ H σ (PV.frzI env c) st := by
  cases c with
  | seq e => exact F.frzE e
  | enm e => exact F.frzE e
  | zip a b =>
    obtain ⟨S1, k1, F1⟩ := F.frzE a
    obtain ⟨S2, k2, F2⟩ := F1.frzE b
    exact ⟨S2, k1.trans k2, F2⟩
  | _ => exact ⟨S, .refl, F⟩
theorem FI.frzRs {K : PySem.W.Frag} {E0 : Ent} {φ : List Addr} {H : Hp} {σ : L2.St} {st : Sto} : ∀ (c : Exs) {env : Env} {S : Addr → Prop}, FI K E0 S φ H σ env st → ∃ S', KP S φ H S' φ H ∧ FI K E0 S' φ H σ (PV.frzRs env c) st
  | .nil, env, S, F => ⟨S, .refl, F⟩
  | .c e es, env, S, F => by
    cases e with
    | var i =>
      obtain ⟨S1, k1, F1⟩ := F.frz i
      obtain ⟨S2, k2, F2⟩ := FI.frzRs es F1
      exact ⟨S2, k1.trans k2, F2⟩
    | _ => exact FI.frzRs es F
theorem FI.frzR {K : PySem.W.Frag} {E0 : Ent} {S : Addr → Prop} {φ : List Addr} {H : Hp} {σ : L2.St} {env : Env} {st : Sto} (F : FI K E0 S φ H σ env st) (c : Ex) : ∃ S', KP S φ H S' φ H ∧ FI K E0 S' φ H σ (PV.frzR env c) st := by
  cases c with
  | var i => exact F.frz i
  | tup es => exact FI.frzRs es F
  | _ => exact ⟨S, .refl, F⟩
theorem sx_ret {c : Ex} {cf gs} {pos : Pos} (h : SE Γ L false e (ev cf gs false c)) : SX Γ L (.Return (some e) pos) fun env s => (ev cf gs false c (frzR env c) s).bind fun d s => .ok (.ret d) s := by
  obtain ⟨t, p, q⟩ := h
  refine ⟨tRet t, fun X g => ps_ret (p X g.toGood), fun E0 σ H env st S φ Dn F f => ?_⟩
  obtain ⟨d, s1, e1, f1⟩ := f.bind
  obtain ⟨S', k, F'⟩ := F.frzR c
  have e1' : ev cf gs false c (PV.frzR env c) st = .ok d s1 := e1
  exact SE.use q F'.ei F'.si e1' fun v H1 S1 φ1 x1 E1 I1 r1 => f1 v H1 S1 φ1 (F'.ent.trans x1) I1 r1.val
theorem sx_ite {c : Expr} {a b : List Stmt} {cc : Ex} {cf gs} {pos : Pos} {ma mb : Env → Sto → Out Flow} (h1 : ST Γ L c fun env s => (ev cf gs true cc env s).bind fun d s => truthS s d) (h2 : SXs Γ L a ma) (h3 : SXs Γ L b mb) :
    SX Γ L (.If c a b pos) fun env s => (ev cf gs true cc env s).bind fun x s => (truthS s x).bind fun t s => if t = true then ma env s else mb env s := by
  obtain ⟨t1, p1, q1⟩ := h1
  obtain ⟨t2, p2, q2⟩ := h2
  obtain ⟨t3, p3, q3⟩ := h3
  refine ⟨tIfS t1 t2 t3, fun X g => ps_if (p1 X g.toGood) (p2 X g) (p3 X g), fun E0 σ H env st S φ Dn F f => ?_⟩
  obtain ⟨d1, s1, e1, f1⟩ := f.bind
  obtain ⟨k, s2, ek, f2⟩ := f1.bind
  refine q1 σ H env st S φ _ F.ei F.si ?_
  simp only [e1, Out.bind, ek]
  intro H1 S1 φ1 x1 I1
  have F1 := F.go x1 I1
  have f3 := f2.kp (x1.kp F.si)
  cases k with
  | true => exact q2 E0 σ H1 env s2 S1 φ1 Dn F1 f3
  | false => exact q3 E0 σ H1 env s2 S1 φ1 Dn F1 f3
theorem sxs_nil : SXs Γ L [] fun env s => .ok (.nx env) s := ⟨tNext, fun X _ => pss_nil, fun E0 σ H env st S φ Dn F f => f σ H S φ .refl F⟩
theorem sxs_cons {s : Stmt} {ss : List Stmt} {m ms : Env → Sto → Out Flow} (h1 : SX Γ L s m) (h2 : SXs Γ L ss ms) : SXs Γ L (s :: ss) fun env st => (m env st).bind fun fl s => match fl with
    | .nx env' => ms env' s
    | .ret d => .ok (.ret d) s
    | .bk env' => .ok (.bk env') s
    | .ct env' => .ok (.ct env') s
    | .rs x d => .ok (.rs x d) s := by
  obtain ⟨t1, p1, q1⟩ := h1
  obtain ⟨t2, p2, q2⟩ := h2
  refine ⟨tSeq t1 t2, fun X g => pss_cons (p1 X g) (p2 X g), fun E0 σ H env st S φ Dn F f => ?_⟩
  obtain ⟨fl, s1, e1, f1⟩ := f.bind
  refine q1 E0 σ H env st S φ _ F ?_
  rw [e1]
  cases fl with
  | nx env' => exact fun σ' H' S' φ' k F' => q2 E0 σ' H' env' s1 S' φ' Dn F' (f1.kp k)
  | ret d => exact f1
  | bk env' => exact f1
  | ct env' => exact f1
  | rs x d => exact f1

/-! ### loops -/
theorem FI.bind {K : PySem.W.Frag} {E0 : Ent} {S : Addr → Prop} {φ : List Addr} {H : Hp} {σ σ' : L2.St} {env env' : Env} {st : Sto} (F : FI K E0 S φ H σ env st) (E : EI K S φ H σ' env') (h : ∀ (i : Nat) ds, env'[i]? = some (some (.own ds)) → env[i]? = some (some (.own ds)) ∧ σ'[i]? = σ[i]?) : FI K E0 S φ H σ' env' st :=
  ⟨E, F.si, F.ent, fun i ds a h1 h2 => let ⟨q1, q2⟩ := h i ds h1; F.own i ds a q1 (by rw [← q2]; exact h2)⟩
end
end PV
set_option maxRecDepth 100000
set_option maxHeartbeats 4000000
/-! Loops, stores, changes. -/
namespace PV
open PySem PySem.Spec PyProof.Rows L2
section
variable {Γ : Ctx} {L : LC} {e : Expr}
theorem sx_for {c : Tg} {it : Src} {tg i : Expr} {b : List Stmt} {pos : Pos} {cf gs} {mb : Env → Sto → Out Flow} (hI : SS Γ L false tg i (evI cf gs false it)) (hG : SG Γ L tg c) (hB : SXs Γ L b mb) (hs : ∀ env v, foldedSetIterable i env v = pure v) :
    SX Γ L (.For tg i b [] pos) fun env s => (evI cf gs false it (frzI env it) s).bind fun xs s => forF (fun d env s => match bindT c d env with
    | some env1 => mb env1 s
    | none => .err) xs (frzI env it) s := by
  obtain ⟨tI, pI, qI⟩ := hI
  obtain ⟨tG, pG, qG⟩ := hG
  obtain ⟨tB, pB, qB⟩ := hB
  refine ⟨tFor tI tG tB, fun X g => ps_for g.own g.calm (pI X g.toGood) (pG X g.toGood) (pB X g) (hs _), fun E0 σ H env st S φ Dn F f => ?_⟩
  obtain ⟨xs, s1, e1, f1⟩ := f.bind
  obtain ⟨S0, k0, F0⟩ := F.frzI it
  refine qI σ H (frzI env it) st S0 φ _ F0.ei F0.si ?_
  rw [e1]
  intro J H1 S1 φ1 x1 I1 JO
  have F1 := F0.go x1 I1
  have k1 := k0.trans (x1.kp F0.si)
  obtain ⟨wt, hw, hJ⟩ := JO
  refine ⟨fun i m σ2 H2 => m = xs.length - i ∧ i ≤ xs.length ∧ ∃ S2 φ2 env2 st2, KP S1 φ1 H1 S2 φ2 H2 ∧ FI Γ.K E0 S2 φ2 H2 σ2 env2 st2 ∧ FinX Γ.K L.xk E0 S2 φ2 H2 Dn (forF (fun d env s => match bindT c d env with
    | some env1 => mb env1 s
    | none => .err) (xs.drop i) env2 st2), ⟨xs.length, by simp, by simp, S1, φ1, _, _, .refl, F1, by simpa using f1.kp k1⟩, ?_⟩
  rintro i m σ2 H2 ⟨hm, hi, S2, φ2, env2, st2, k2, F2, f2⟩
  obtain ⟨g1, g2, g3⟩ := hJ S2 φ2 H2 (fun a ha => k2.same a ((hw a ha).2.2 rfl)) k2.same k2.sub k2.pre
  by_cases hlt : i < xs.length
  · right
    refine ⟨g1 i hlt, fun σ' H' => ∃ m', m' < m ∧ (m' = xs.length - (i + 1) ∧ i + 1 ≤ xs.length ∧ ∃ S2 φ2 env2 st2, KP S1 φ1 H1 S2 φ2 H' ∧ FI Γ.K E0 S2 φ2 H' σ' env2 st2 ∧ FinX Γ.K L.xk E0 S2 φ2 H' Dn (forF (fun d env s => match bindT c d env with
      | some env1 => mb env1 s
      | none => .err) (xs.drop (i + 1)) env2 st2)), fun σ' H' h => h, fun x H3 hy => ?_⟩
    have hd : xs[i]? = some xs[i] := List.getElem?_eq_getElem hlt
    obtain ⟨S3, x3, I3, r3⟩ := g3 i xs[i] x H3 hd hy st2 F2.si
    have F3 := F2.go x3 I3
    rw [List.drop_eq_getElem_cons hlt] at f2
    have f2' : FinX Γ.K L.xk E0 S2 φ2 H2 Dn (((match bindT c xs[i] env2 with
      | some env1 => mb env1 st2
      | none => .err) : Out Flow).bind fun fl s => match fl with
        | .nx env' => forF (fun d env s => match bindT c d env with
          | some env1 => mb env1 s
          | none => .err) (xs.drop (i + 1)) env' s
        | .ct env' => forF (fun d env s => match bindT c d env with
          | some env1 => mb env1 s
          | none => .err) (xs.drop (i + 1)) env' s
        | .bk env' => .ok (.nx env') s
        | .ret d => .ok (.ret d) s
        | .rs x d => .ok (.rs x d) s) := f2
    have k3 : KP S2 φ2 H2 S3 φ2 H3 := x3.kp F2.si
    cases eb : bindT c xs[i] env2 with
    | none => rw [eb] at f2'; exact False.elim f2'
    | some env3 =>
      simp only [eb] at f2'
      refine qG x _ σ2 H3 env2 env3 S3 φ2 st2 _ F3.ei I3 r3 eb fun σ3 w3 E4 => ?_
      have F4 : FI Γ.K E0 S3 φ2 H3 σ3 env3 st2 := FI.bind F3 E4 w3.2
      refine qB E0 σ3 H3 env3 st2 S3 φ2 _ F4 ?_
      obtain ⟨fl, s5, e5, f5⟩ := f2'.bind
      rw [e5]
      cases fl with
      | nx env' => exact fun σ' H' S' φ' k F' => ⟨xs.length - (i + 1), by omega, rfl, hlt, S', φ', env', s5, (k2.trans k3).trans k, F', f5.kp (k3.trans k)⟩
      | ct env' => exact fun σ' H' S' φ' k F' => ⟨xs.length - (i + 1), by omega, rfl, hlt, S', φ', env', s5, (k2.trans k3).trans k, F', f5.kp (k3.trans k)⟩
      | bk env' => exact f5.kp k3
      | ret d => exact f5
      | rs x d => exact f5
  · left
    have hi' : i = xs.length := by omega
    subst hi'
    refine ⟨g2, ?_⟩
    rw [List.drop_length] at f2
    exact f2 σ2 H2 S2 φ2 .refl F2
theorem sx_while {c : Expr} {b : List Stmt} {pos : Pos} {mc : Env → Sto → Out Bool} {mb : Env → Sto → Out Flow} (hC : ST Γ L c mc) (hB : SXs Γ L b mb) :
    SX Γ L (.While c b [] pos) fun env s => whileF mc mb env s := by
  obtain ⟨tC, pC, qC⟩ := hC
  obtain ⟨tB, pB, qB⟩ := hB
  refine ⟨tWhile tC tB, fun X g => ps_while g.own (pC X g.toGood) (pB X g), fun E0 σ H env st S φ Dn F f => ?_⟩
  obtain ⟨n, fn⟩ : ∃ n, FinX Γ.K L.xk E0 S φ H Dn (whileN mc mb n env st) := by
    simp only [whileF] at f
    split at f
    · exact ⟨_, f⟩
    · exact False.elim f
  refine ⟨fun m σ2 H2 => ∃ S2 φ2 env2 st2, KP S φ H S2 φ2 H2 ∧ FI Γ.K E0 S2 φ2 H2 σ2 env2 st2 ∧ FinX Γ.K L.xk E0 S2 φ2 H2 Dn (whileN mc mb m env2 st2), ⟨n, S, φ, env, st, .refl, F, fn⟩, ?_⟩
  rintro m σ2 H2 ⟨S2, φ2, env2, st2, k2, F2, f2⟩
  cases m with
  | zero => exact False.elim f2
  | succ m =>
    have f2' : FinX Γ.K L.xk E0 S2 φ2 H2 Dn ((mc env2 st2).bind fun t s => if t = true then (mb env2 s).bind fun fl s => (match fl with
      | .nx env' => whileN mc mb m env' s
      | .ct env' => whileN mc mb m env' s
      | .bk env' => .ok (.nx env') s
      | .ret d => .ok (.ret d) s
      | .rs x d => .ok (.rs x d) s) else .ok (.nx env2) s) := f2
    obtain ⟨t, s3, e3, f3⟩ := f2'.bind
    refine qC σ2 H2 env2 st2 S2 φ2 _ F2.ei F2.si ?_
    rw [e3]
    intro H3 S3 φ3 x3 I3
    have F3 := F2.go x3 I3
    have k3 := x3.kp F2.si
    cases t with
    | false =>
      rw [if_neg Bool.false_ne_true] at f3 ⊢
      exact f3 σ2 H3 S3 φ3 k3 F3
    | true =>
      rw [if_pos rfl] at f3 ⊢
      obtain ⟨fl, s5, e5, f5⟩ := f3.bind
      refine ⟨fun σ' H' => ∃ m', m' < m + 1 ∧ ∃ S2 φ2 env2 st2, KP S φ H S2 φ2 H' ∧ FI Γ.K E0 S2 φ2 H' σ' env2 st2 ∧ FinX Γ.K L.xk E0 S2 φ2 H' Dn (whileN mc mb m' env2 st2), fun _ _ h => h, qB E0 σ2 H3 env2 s3 S3 φ3 _ F3 ?_⟩
      rw [e5]
      cases fl with
      | nx env' => exact fun σ' H' S' φ' k F' => ⟨m, by omega, S', φ', env', s5, (k2.trans k3).trans k, F', f5.kp (k3.trans k)⟩
      | ct env' => exact fun σ' H' S' φ' k F' => ⟨m, by omega, S', φ', env', s5, (k2.trans k3).trans k, F', f5.kp (k3.trans k)⟩
      | bk env' => exact f5.kp k3
      | ret d => exact f5
      | rs x d => exact f5

/-! ### stores -/
def isLcE : Expr → Bool
  | .ListComp _ _ _ _ => true
  | .SetComp _ _ _ _ => true
  | .DictComp _ _ _ _ _ => true
  | _ => false
theorem noSwap {v : Expr} (h : isLcE v = false) (t : Option Expr) (n : Nat) (env : PySem.Env) : swapsWith v t n env = pure false := by
  cases v <;> first | rfl | cases h
theorem noSwapS {v : Expr} (h : isLcE v = false) (t : Expr) (n : Nat) (env : PySem.Env) : swapsWithSole [t] v n env = pure false := noSwap h (some t) n env
/-- what a store into slot i says -/
def SFA (Γ : Ctx) (L : LC) (i : Nat) (x : Str) (px : Pos) (e : Expr) (pos : Pos) (m : Env → Sto → Out (List D)) : Prop :=
  ∃ t : TE, (∀ X, GoodS Γ L X → PS X (.Assign [.Name x px] e pos) (tAsg t (gName i))) ∧ ∀ σ H env st S φ Q, EI Γ.K S φ H σ env → SI Γ.K S φ H st → FinF Γ.K S φ H Q (m env st) → t σ H Q
theorem FI.setV {K : PySem.W.Frag} {E0 : Ent} {S : Addr → Prop} {φ : List Addr} {H : Hp} {σ : L2.St} {env : Env} {st : Sto} {i : Nat} {v : V} {d : D} (F : FI K E0 S φ H σ env st) (r : Rep K S φ H v d) : FI K E0 S φ H (σ.set i (some v)) (env.set i (some (.val d))) st :=
  FI.bind F (F.ei.setV r) kept_set
/-- a new list of one's own comes into slot i -/
theorem FI.setO {K : PySem.W.Frag} {E0 : Ent} {S : Addr → Prop} {φ : List Addr} {H : Hp} {σ : L2.St} {env : Env} {st : Sto} {i : Nat} {a : Addr} {vs : List V} {ds : List D} (F : FI K E0 S φ H σ env st) (h0 : E0.H a = none)
    (hn : ∀ (j : Nat) es, env[j]? = some (some (.own es)) → σ[j]? ≠ some (some (.ref a))) (h1 : ¬ S a) (h2 : a ∉ φ) (h3 : H a = some (.lst vs)) (r : RepL K S φ H vs ds) :
    FI K E0 S φ H (σ.set i (some (.ref a))) (env.set i (some (.own ds))) st := by
  refine ⟨⟨by simp [F.ei.len], fun j d h => ?_, fun j es h => ?_, fun j l es es' b h1 h2 h3 h4 => ?_⟩, F.si, F.ent, fun j es b h h' => ?_⟩
  · rcases set_get h with ⟨_, e, _⟩ | ⟨n, h⟩
    · cases e
    · obtain ⟨w, e, q⟩ := F.ei.val j d h
      exact ⟨w, by rw [List.getElem?_set_ne n]; exact e, q⟩
  · rcases set_get h with ⟨rfl, e, hi⟩ | ⟨n, h⟩
    · cases e; exact ⟨a, vs, List.getElem?_set_self (by rw [← F.ei.len]; exact hi), h3, h1, h2, r⟩
    · obtain ⟨b, ws, e, q⟩ := F.ei.own j es h
      exact ⟨b, ws, by rw [List.getElem?_set_ne n]; exact e, q⟩
  · rcases set_get h1 with ⟨rfl, e, hi⟩ | ⟨n, h1⟩
    · rw [List.getElem?_set_self (by rw [← F.ei.len]; exact hi)] at h3
      cases h3
      rcases set_get h2 with ⟨rfl, e, _⟩ | ⟨n2, h2⟩
      · rfl
      · rw [List.getElem?_set_ne n2] at h4
        exact absurd h4 (hn l es' h2)
    · rw [List.getElem?_set_ne n] at h3
      rcases set_get h2 with ⟨rfl, e, hi⟩ | ⟨n2, h2⟩
      · rw [List.getElem?_set_self (by rw [← F.ei.len]; exact hi)] at h4
        cases h4
        exact absurd h3 (hn j es h1)
      · rw [List.getElem?_set_ne n2] at h4
        exact F.ei.inj j l es es' b h1 h2 h3 h4
  · rcases set_get h with ⟨rfl, e, hi⟩ | ⟨n, h⟩
    · rw [List.getElem?_set_self (by rw [← F.ei.len]; exact hi)] at h'
      cases h'; exact h0
    · rw [List.getElem?_set_ne n] at h'
      exact F.own j es b h h'
theorem FI.fresh {K : PySem.W.Frag} {E0 : Ent} {S : Addr → Prop} {φ : List Addr} {H : Hp} {σ : L2.St} {env : Env} {st : Sto} {a : Addr} (F : FI K E0 S φ H σ env st) (h : H a = none) : E0.H a = none ∧ ∀ (j : Nat) es, env[j]? = some (some (.own es)) → σ[j]? ≠ some (some (.ref a)) :=
  ⟨F.ent.free h, fun j es e q => by
    obtain ⟨b, vs, e1, e2, _⟩ := F.ei.own j es e
    rw [q] at e1; cases e1
    rw [h] at e2; cases e2⟩
theorem sx_own {i : Nat} {x : Str} {px pos : Pos} {m : Env → Sto → Out (List D)} (h : SFA Γ L i x px e pos m) : SX Γ L (.Assign [.Name x px] e pos) fun env s => (m env s).bind fun ds s => .ok (.nx (env.set i (some (.own ds)))) s := by
  obtain ⟨t, p, q⟩ := h
  refine ⟨_, p, fun E0 σ H env st S φ Dn F f => ?_⟩
  obtain ⟨ds, s1, e1, f1⟩ := f.bind
  refine q σ H env st S φ _ F.ei F.si ?_
  rw [e1]
  intro a vs H' S' φ' x' I' hn h1 h2 h3 r
  have F' := F.go x' I'
  obtain ⟨n1, n2⟩ := F.fresh hn
  exact f1 _ H' S' φ' (x'.kp F.si) (F'.setO n1 n2 h1 h2 h3 r)
theorem sx_fz {i : Nat} {x : Str} {px pos : Pos} {m : Env → Sto → Out (List D)} (h : SFA Γ L i x px e pos m) : SX Γ L (.Assign [.Name x px] e pos) fun env s => (m env s).bind fun ds s => .ok (.nx (env.set i (some (.val (.lst ds))))) s := by
  obtain ⟨t, p, q⟩ := h
  refine ⟨_, p, fun E0 σ H env st S φ Dn F f => ?_⟩
  obtain ⟨ds, s1, e1, f1⟩ := f.bind
  refine q σ H env st S φ _ F.ei F.si ?_
  rw [e1]
  intro a vs H' S' φ' x' I' hn h1 h2 h3 r
  have x2 : Stp S φ H (PV.add S' a) φ' H' := x'.addS hn
  have I2 := I'.add h2 (by rw [h3]; simp)
  have F' := F.go x2 I2
  have r' : Rep Γ.K (PV.add S' a) φ' H' (.ref a) (.lst ds) := .lst (.inr rfl) h3 (r.tr (fun _ _ => rfl) (fun _ q => .inl q) ⟨[], by simp⟩)
  exact f1 _ H' _ φ' (x2.kp F.si) (F'.setV r')
theorem sfa_of (Γok : CtxOk Γ) {i : Nat} {x : Str} {px pos : Pos} {c : Fx} (h1 : Γ.m.N[i]? = some x) (h2 : locB L.sc x = true) (h3 : L.fb x = true ∨ L.sc.names.lookup x = some .local) (h : mF Γ.m c L.sc e = true) : SFA Γ L i x px e pos (evF Γ.cf Γ.gs c) := by
  have plain : isLcE e = false → SFA Γ L i x px e pos (evF Γ.cf Γ.gs c) := fun hl => by
    obtain ⟨t, p, q⟩ := sF Γok c L e h
    exact ⟨t, fun X g => ps_set (by rw [g.N]; exact Γok.nd) (by rw [g.N]; exact h1) (by rw [g.sc]; exact loc_of h2) (p X g.toGood) (noSwap hl _ _ _) (by rw [g.fn, g.sc]; exact h3), q⟩
  cases c with
  | dsp es =>
    refine plain ?_
    unfold mF at h
    split at h
    · rfl
    · cases h
  | lrg a =>
    refine plain ?_
    unfold mF at h
    split at h
    · rfl
    · cases h
  | lof a =>
    refine plain ?_
    unfold mF at h
    split at h
    · rfl
    · cases h
  | cp1 elt tg it cond vs =>
    unfold mF at h
    split at h
    · rename_i x' t i' ifs a scope p
      simp only [Bool.and_eq_true, decide_eq_true_eq] at h
      obtain ⟨⟨⟨⟨⟨⟨⟨g1, g2⟩, g3⟩, g4⟩, g5⟩, g6⟩, g7⟩, g8⟩ := h
      subst g1
      obtain ⟨te, p, q⟩ := sf_cp1 (pos := p) Γok (sI Γok it L true t i' g2) g3 g4 g5 (sg_of (L := ⟨relS scope L.sc, fbC scope, L.xk⟩) Γok g6) (sC Γok cond ⟨relS scope L.sc, fbC scope, L.xk⟩ ifs g7) (sE Γok elt ⟨relS scope L.sc, fbC scope, L.xk⟩ false _ g8) (folded_of g2)
      refine ⟨te, fun X g => ?_, q⟩
      cases hb : (X.env.blockKind == .function && X.env.kindOf x == some .local && px.line == (Expr.ListComp x' [⟨t, i', ifs, 0⟩] scope _).pos.line && !(scope.names.any fun (n, k) => n == x && (k == .local || k == .cell))) with
      | true =>
        have hk : L.sc.names.lookup x = some .local := by
          simp only [Bool.and_eq_true] at hb
          have := hb.1.1.2
          rw [← g.sc]
          exact eq_of_beq this
        exact (p X g.toGood).2 i x px pos h1 hk (congrArg (fun b => (pure b : Sem Bool)) hb)
      | false =>
        exact ps_set (by rw [g.N]; exact Γok.nd) (by rw [g.N]; exact h1) (by rw [g.sc]; exact loc_of h2) (p X g.toGood).1 (congrArg (fun b => (pure b : Sem Bool)) hb) (by rw [g.fn, g.sc]; exact h3)
    · cases h
  | cp2 elt tg it cond tg1 it1 cond1 vs vs1 =>
    unfold mF at h
    split at h
    · rename_i x' t i' ifs a t1 i1 ifs1 a1 scope p
      simp only [Bool.and_eq_true, decide_eq_true_eq] at h
      obtain ⟨⟨⟨⟨⟨⟨⟨⟨⟨⟨⟨⟨⟨g1, g1'⟩, g2⟩, g3⟩, g4⟩, g5⟩, g6⟩, g7⟩, g8⟩, g9⟩, g10⟩, g11⟩, g12⟩, g13⟩ := h
      subst g1 g1'
      have hv1 : ∀ j ∈ vs1, j ∈ vs := fun j hj => by
        have := List.all_eq_true.mp g5 j hj
        simpa using this
      obtain ⟨te, p, q⟩ := sf_cp2 (pos := p) Γok (sI Γok it L true t i' g2) g3 g4 hv1 g6 g7 (sg_of (L := ⟨relS scope L.sc, fbC scope, L.xk⟩) Γok g8) (sC Γok cond ⟨relS scope L.sc, fbC scope, L.xk⟩ ifs g9) (sI Γok it1 ⟨relS scope L.sc, fbC scope, L.xk⟩ false t1 i1 g10)
        (sg_of (L := ⟨relS scope L.sc, fbC scope, L.xk⟩) Γok g11) (sC Γok cond1 ⟨relS scope L.sc, fbC scope, L.xk⟩ ifs1 g12) (sE Γok elt ⟨relS scope L.sc, fbC scope, L.xk⟩ false _ g13) (folded_of g2) (folded_of g10)
      refine ⟨te, fun X g => ?_, q⟩
      cases hb : (X.env.blockKind == .function && X.env.kindOf x == some .local && px.line == (Expr.ListComp x' [⟨t, i', ifs, 0⟩, ⟨t1, i1, ifs1, 0⟩] scope _).pos.line && !(scope.names.any fun (n, k) => n == x && (k == .local || k == .cell))) with
      | true =>
        have hk : L.sc.names.lookup x = some .local := by
          simp only [Bool.and_eq_true] at hb
          have := hb.1.1.2
          rw [← g.sc]
          exact eq_of_beq this
        exact (p X g.toGood).2 i x px pos h1 hk (congrArg (fun b => (pure b : Sem Bool)) hb)
      | false =>
        exact ps_set (by rw [g.N]; exact Γok.nd) (by rw [g.N]; exact h1) (by rw [g.sc]; exact loc_of h2) (p X g.toGood).1 (congrArg (fun b => (pure b : Sem Bool)) hb) (by rw [g.fn, g.sc]; exact h3)
    · cases h
/-- target = e -/
theorem sx_asg {c : Ex} {k : Tg} {tg : Expr} {pos : Pos} {cf gs} (hG : SG Γ L tg k) (hE : SE Γ L false e (ev cf gs false c))
    (hs : ∀ X, GoodS Γ L X → ∀ te g, PE X e te → PG X tg g → PS X (.Assign [tg] e pos) (tAsg te g)) :
    SX Γ L (.Assign [tg] e pos) fun env s => (ev cf gs false c env s).bind fun d s => match bindT k d env with
    | some env' => .ok (.nx env') s
    | none => .err := by
  obtain ⟨g, pG, qG⟩ := hG
  obtain ⟨t, p, q⟩ := hE
  refine ⟨tAsg t g, fun X gd => hs X gd _ _ (p X gd.toGood) (pG X gd.toGood), fun E0 σ H env st S φ Dn F f => ?_⟩
  obtain ⟨d, s1, e1, f1⟩ := f.bind
  refine SE.use q F.ei F.si e1 fun v H1 S1 φ1 x1 E1 I1 r1 => ?_
  have F1 := F.go x1 I1
  cases eb : bindT k d env with
  | none => rw [eb] at f1; exact False.elim f1
  | some env1 =>
    rw [eb] at f1
    exact qG v d σ H1 env env1 S1 φ1 s1 _ E1 I1 r1.val eb fun σ' w E2 => f1 σ' H1 S1 φ1 (x1.kp F.si) (FI.bind F1 E2 w.2)
theorem asg_name (Γok : CtxOk Γ) {x : Str} {px pos : Pos} (hl : isLcE e = false) : ∀ X, GoodS Γ L X → ∀ te g, PE X e te → PG X (.Name x px) g → PS X (.Assign [.Name x px] e pos) (tAsg te g) :=
  fun X gd te g he hg => ps_asg he hg (noSwapS hl _ _ _) rfl rfl
theorem asg_tup {ts : List Expr} {k : Nat} {pt pos : Pos} (hv : isTupE e = false) (hl : isLcE e = false) : ∀ X, GoodS Γ L X → ∀ te g, PE X e te → PG X (.Tuple ts k pt) g → PS X (.Assign [.Tuple ts k pt] e pos) (tAsg te g) :=
  fun X gd te g he hg => ps_asg he hg (noSwapS hl _ _ _) (by cases e <;> first | rfl | cases hv) rfl
theorem sx_ex {c : Ex} {pos : Pos} {cf gs} (hl : isLcE e = false) (hE : SE Γ L false e (ev cf gs false c)) : SX Γ L (.Expr e pos) fun env s => (ev cf gs false c env s).bind fun _ s => .ok (.nx env) s := by
  obtain ⟨t, p, q⟩ := hE
  refine ⟨tDrop t, fun X gd => ps_expr (p X gd.toGood) (noSwap hl _ _ _), fun E0 σ H env st S φ Dn F f => ?_⟩
  obtain ⟨d, s1, e1, f1⟩ := f.bind
  exact SE.use q F.ei F.si e1 fun v H1 S1 φ1 x1 E1 I1 r1 => f1 σ H1 S1 φ1 (x1.kp F.si) (F.go x1 I1)

/-! ### changes of a list -/
section
variable {K : PySem.W.Frag} {XE : XK} {E0 : Ent} {S S' S2 : Addr → Prop} {φ φ' φ2 : List Addr} {H H' H2 : Hp} {σ : L2.St} {env : Env} {st st' : Sto} {i : Nat} {f : List D → Option (List D)}
/-- the list that slot i holds -/
theorem chg_at {Dn : Ends} (F : FI K E0 S φ H σ env st) (h : FinX K XE E0 S φ H Dn (chg env i st f)) :
    ∃ a vs ds ds', σ[i]? = some (some (.ref a)) ∧ H a = some (.lst vs) ∧ RepL K S φ H vs ds ∧ f ds = some ds' ∧ ∀ vs', RepL K S φ H vs' ds' → Dn.nx σ (upd H a (.lst vs')) := by
  unfold chg at h
  split at h
  · rename_i ds he
    obtain ⟨a, vs, e1, e2, e3, e4, e5⟩ := F.ei.own i ds he
    split at h
    · rename_i ds' hf
      refine ⟨a, vs, ds, ds', e1, e2, e5, hf, fun vs' r' => ?_⟩
      have hS : ∀ b, S b → upd H a (.lst vs') b = H b := fun b hb => upd_ne (fun q => e3 (by rw [← q]; exact hb))
      have tr : ∀ {ws : List V} {es : List D}, RepL K S φ H ws es → RepL K S φ (upd H a (.lst vs')) ws es := fun r => r.tr hS (fun _ q => q) ⟨[], by simp⟩
      have n0 := F.own i ds a he e1
      have hd : ∀ b, H b ≠ none → upd H a (.lst vs') b ≠ none := fun b hb => by
        by_cases q : b = a
        · rw [q, upd_same]; simp
        · rw [upd_ne q]; exact hb
      refine h σ _ S φ ⟨fun _ q => q, hS, [], by simp⟩ ⟨⟨by simp [F.ei.len], fun j d hj => ?_, fun j es hj => ?_, fun j l es es' b h1 h2 h3 h4 => ?_⟩, ⟨fun b hb => hd b (F.si.dom b hb), F.si.dis, F.si.len, F.si.nd, fun n b o' h1 h2 => ?_⟩, ⟨fun b o hb hn => ?_, fun b hb => hd b (F.ent.some b hb), F.ent.sub, F.ent.new, F.ent.phi⟩, fun j es b hj hb => ?_⟩
      · rcases set_get hj with ⟨_, q, _⟩ | ⟨n, hj⟩
        · cases q
        · obtain ⟨v, q1, q2⟩ := F.ei.val j d hj
          exact ⟨v, q1, q2.tr hS (fun _ q => q) ⟨[], by simp⟩⟩
      · rcases set_get hj with ⟨rfl, q, hi⟩ | ⟨n, hj⟩
        · cases q; exact ⟨a, vs', e1, upd_same, e3, e4, tr r'⟩
        · obtain ⟨b, ws, q1, q2, q3, q4, q5⟩ := F.ei.own j es hj
          have hb : b ≠ a := fun q => n (F.ei.inj i j ds es a he hj e1 (by rw [← q]; exact q1))
          exact ⟨b, ws, q1, by rw [upd_ne hb]; exact q2, q3, q4, tr q5⟩
      · have back : ∀ {j : Nat} {es : List D}, (env.set i (some (.own ds')))[j]? = some (some (.own es)) → ∃ es', env[j]? = some (some (.own es')) := fun {j es} hj => by
          rcases set_get hj with ⟨rfl, q, hi⟩ | ⟨n, hj⟩
          · exact ⟨_, he⟩
          · exact ⟨_, hj⟩
        obtain ⟨_, h1⟩ := back h1
        obtain ⟨_, h2⟩ := back h2
        exact F.ei.inj j l _ _ b h1 h2 h3 h4
      · exact (F.si.obj n b o' h1 h2).tr hS (fun _ q => q) ⟨[], by simp⟩ (upd_ne (fun q => e4 (by rw [← q]; exact List.mem_of_getElem? h1)))
      · rw [upd_ne (fun q => by rw [q, n0] at hb; cases hb)]; exact F.ent.keep b o hb hn
      · rcases set_get hj with ⟨rfl, q, hi⟩ | ⟨n, hj⟩
        · exact F.own _ _ b he hb
        · exact F.own j es b hj hb
    · exact False.elim h
  · rename_i n he
    obtain ⟨v, e1, r⟩ := F.ei.val i _ he
    cases r with
    | @loc a _ hφ =>
      split at h
      · rename_i ds hs
        obtain ⟨vs, hv, rv⟩ := F.si.obj n a (.lst ds) hφ hs
        split at h
        · rename_i ds' hf
          refine ⟨a, vs, ds, ds', e1, hv, rv, hf, fun vs' r' => ?_⟩
          have hm : a ∈ φ := List.mem_of_getElem? hφ
          have x := Stp.chg (S := S) (o := .lst vs') (H := H) hm
          exact h σ _ S φ ⟨fun _ q => q, fun b hb => upd_ne (fun q => F.si.dis a hm (by rw [← q]; exact hb)), [], by simp⟩ ⟨F.ei.mono x F.si, F.si.chg hφ r', F.ent.trans x, F.own⟩
        · exact False.elim h
      · exact False.elim h
  · exact False.elim h
end
theorem getL_v {K : PySem.W.Frag} {S : Addr → Prop} {φ : List Addr} {H : Hp} {σ : L2.St} {env : Env} {st : Sto} {i : Nat} {ds : List D} (E : EI K S φ H σ env) (h : getL env i st = some ds) : ∃ a, σ[i]? = some (some (.ref a)) := by
  unfold getL at h
  split at h
  · rename_i es he
    obtain ⟨a, vs, e1, _⟩ := E.own i es he
    exact ⟨a, e1⟩
  · rename_i n he
    obtain ⟨v, e1, r⟩ := E.val i _ he
    cases r
    exact ⟨_, e1⟩
  · cases h
theorem getL_at {K : PySem.W.Frag} {S : Addr → Prop} {φ : List Addr} {H : Hp} {σ : L2.St} {env : Env} {st : Sto} {i : Nat} {ds : List D} (E : EI K S φ H σ env) (I : SI K S φ H st) (h : getL env i st = some ds) : ∃ a vs, σ[i]? = some (some (.ref a)) ∧ H a = some (.lst vs) ∧ RepL K S φ H vs ds := by
  unfold getL at h
  split at h
  · rename_i es he
    cases h
    obtain ⟨a, vs, e1, e2, _, _, r⟩ := E.own i ds he
    exact ⟨a, vs, e1, e2, r⟩
  · rename_i n he
    obtain ⟨v, e1, r⟩ := E.val i _ he
    cases r with
    | @loc a _ hφ =>
      split at h
      · rename_i es hs
        cases h
        obtain ⟨vs, hv, rv⟩ := I.obj n a (.lst ds) hφ hs
        exact ⟨a, vs, e1, hv, rv⟩
      · cases h
  · cases h
theorem isSome_get {α : Type} {x : Option α} (h : ¬ x.isNone = true) : ∃ a, x = some a := by
  cases x with
  | none => exact absurd rfl h
  | some a => exact ⟨a, rfl⟩
theorem pvar_of {i : Nat} {x : Str} {p : Pos} (h1 : Γ.m.N[i]? = some x) (h2 : visB L.sc x = true) (h3 : okN x = true) : ∀ X, Good Γ L X → PE X (.Name x p) (tVar i) := fun X g => by
  obtain ⟨n1, n2, _⟩ := okN_of h3
  exact pe_var (by rw [g.N]; exact h1) (by rw [g.sc]; exact vis_of h2) n1 n2
theorem sx_app {i : Nat} {x : Str} {y : Expr} {c : Ex} {p apos cpos pos : Pos} {cf gs} (h1 : Γ.m.N[i]? = some x) (h2 : visB L.sc x = true) (h3 : okN x = true) (hl : (apos.endLine == cpos.line) = true)
    (hst : ∀ env r, starEach (y :: r) env = (false, eval y env) :: starEach r env) (hE : SE Γ L false y (ev cf gs false c)) :
    SX Γ L (.Expr (.Call (.Attribute (.Name x p) ("append" : Str) apos) [y] [] cpos) pos) fun env s => if (getL env i s).isNone = true then .err else (ev cf gs false c env s).bind fun d s => chg env i s fun ds => if ds.length < LINE then some (ds ++ [d]) else none := by
  obtain ⟨t, p1, q1⟩ := hE
  refine ⟨tDrop (tBM Γ.K "list" rAppend (tVar i) (tCons t tNil)), fun X g => by
    rw [← g.K]
    exact ps_expr (pe_bm PySem.F.plainAttrs_list PySem.F.slot_list_append PySem.F.type_list_append mt_append (pvar_of h1 h2 h3 X g.toGood) (pa_cons (p1 X g.toGood) pa_nil (hst _ _)) rfl (by rw [hst]; rfl) hl (hst _ _) rfl) rfl, fun E0 σ H env st S φ Dn F f => ?_⟩
  by_cases hG : (getL env i st).isNone = true
  · simp only [hG, if_true] at f; exact False.elim f
  simp only [hG, Bool.false_eq_true, if_false] at f
  obtain ⟨ds00, hG2⟩ := isSome_get hG
  obtain ⟨a0, vs0, g1, g2, _⟩ := getL_at F.ei F.si hG2
  obtain ⟨d, s1, e1, f1⟩ := f.bind
  refine ⟨_, g1, .inl ⟨rfl, vs0, .inl (.inl g2)⟩, ?_⟩
  refine SE.use q1 F.ei F.si e1 fun v H1 S1 φ1 x1 E1 I1 r1 => ?_
  have F1 := F.go x1 I1
  obtain ⟨a, vs, ds, ds', k1, k2, k3, k4, k5⟩ := chg_at F1 (f1.kp (x1.kp F.si))
  rw [g1] at k1; cases k1
  by_cases hz : ds.length < LINE
  · rw [if_pos hz] at k4; cases k4
    exact ⟨_, vs, v, rfl, rfl, k2, by rw [k3.length]; exact hz, k5 _ (k3.append (.cons r1.val .nil))⟩
  · rw [if_neg hz] at k4; cases k4
theorem sx_ext {i : Nat} {x : Str} {y : Expr} {c : Ex} {p apos cpos pos : Pos} {cf gs} (h1 : Γ.m.N[i]? = some x) (h2 : visB L.sc x = true) (h3 : okN x = true) (hl : (apos.endLine == cpos.line) = true)
    (hst : ∀ env r, starEach (y :: r) env = (false, eval y env) :: starEach r env) (hE : SE Γ L true y (ev cf gs true c)) :
    SX Γ L (.Expr (.Call (.Attribute (.Name x p) ("extend" : Str) apos) [y] [] cpos) pos) fun env s => if (getL env i s).isNone = true then .err else (ev cf gs true c env s).bind fun d s => (match d with
    | .lst zs => chg env i s fun ds => if ds.length + zs.length ≤ LINE then some (ds ++ zs) else none
    | _ => .err) := by
  obtain ⟨t, p1, q1⟩ := hE
  refine ⟨tDrop (tBM Γ.K "list" rExtend (tVar i) (tCons t tNil)), fun X g => by
    rw [← g.K]
    exact ps_expr (pe_bm PySem.F.plainAttrs_list PySem.F.slot_list_extend PySem.F.type_list_extend mt_extend (pvar_of h1 h2 h3 X g.toGood) (pa_cons (p1 X g.toGood) pa_nil (hst _ _)) rfl (by rw [hst]; rfl) hl (hst _ _) rfl) rfl, fun E0 σ H env st S φ Dn F f => ?_⟩
  by_cases hG : (getL env i st).isNone = true
  · simp only [hG, if_true] at f; exact False.elim f
  simp only [hG, Bool.false_eq_true, if_false] at f
  obtain ⟨ds00, hG2⟩ := isSome_get hG
  obtain ⟨a0, vs0, g1, g2, _⟩ := getL_at F.ei F.si hG2
  obtain ⟨d, s1, e1, f1⟩ := f.bind
  cases d with
  | lst zs =>
    refine ⟨_, g1, .inl ⟨rfl, vs0, .inl (.inl g2)⟩, ?_⟩
    refine SE.use q1 F.ei F.si e1 fun v H1 S1 φ1 x1 E1 I1 r1 => ?_
    have F1 := F.go x1 I1
    obtain ⟨a, vs, ds, ds', k1, k2, k3, k4, k5⟩ := chg_at F1 (f1.kp (x1.kp F.si))
    rw [g1] at k1; cases k1
    obtain ⟨b, ws, rfl, hb, rb⟩ := r1.rd0.lst
    by_cases hz : ds.length + zs.length ≤ LINE
    · rw [if_pos hz] at k4; cases k4
      exact ⟨_, b, vs, ws, rfl, rfl, k2, hb, by rw [k3.length, rb.length]; exact hz, k5 _ (k3.append rb)⟩
    · rw [if_neg hz] at k4; cases k4
  | _ => exact False.elim f1
theorem sx_setV {i : Nat} {x : Str} {y : Expr} {c ck : Ex} {p sp pos : Pos} {cf gs} (h1 : Γ.m.N[i]? = some x) (h2 : visB L.sc x = true) (h3 : okN x = true) (hl : isLcE e = false)
    (hy : ∀ env v, assign (.Subscript (.Name x p) y sp) env v = (do
      let ov ← holding [v] (eval (.Name x p) env)
      let iv ← holding [v, ov] (eval y env)
      standAt sp
      holding [v, ov, iv] (setItem ov iv v)
      release [v, ov, iv] []))
    (hE : SE Γ L false e (ev cf gs false c)) (hK : SE Γ L true y (ev cf gs true ck)) :
    SX Γ L (.Assign [.Subscript (.Name x p) y sp] e pos) fun env s => if (getL env i s).isNone = true then .err else (ev cf gs false c env s).bind fun d s => (ev cf gs true ck env s).bind fun x s => (match x with
    | .int k => chg env i s fun ds => (L2.ixN ds.length k).map fun j => ds.set j d
    | _ => .err) := by
  obtain ⟨t, p1, q1⟩ := hE
  obtain ⟨t2, p2, q2⟩ := hK
  refine ⟨tAsg t (gSub (tVar i) t2 rSetL), fun X g => ps_asg (p1 X g.toGood) (pg_sub (pvar_of h1 h2 h3 X g.toGood) (p2 X g.toGood) set_list (hy _)) (noSwapS hl _ _ _) rfl rfl, fun E0 σ H env st S φ Dn F f => ?_⟩
  by_cases hG : (getL env i st).isNone = true
  · simp only [hG, if_true] at f; exact False.elim f
  simp only [hG, Bool.false_eq_true, if_false] at f
  obtain ⟨ds00, hG2⟩ := isSome_get hG
  obtain ⟨a0, vs0, g1, g2, _⟩ := getL_at F.ei F.si hG2
  obtain ⟨d, s1, e1, f1⟩ := f.bind
  obtain ⟨x, s2, e2, f2⟩ := f1.bind
  refine SE.use q1 F.ei F.si e1 fun v H1 S1 φ1 x1 E1 I1 r1 => ?_
  cases x with
  | int k =>
    refine ⟨_, g1, ?_⟩
    refine SE.use q2 E1 I1 e2 fun w H2 S2 φ2 x2 E2 I2 r2 => ?_
    have F2 := (F.go x1 I1).go x2 I2
    obtain ⟨a, vs, ds, ds', k1, k2, k3, k4, k5⟩ := chg_at F2 (f2.kp ((x1.kp F.si).trans (x2.kp I1)))
    rw [g1] at k1; cases k1
    cases ej : L2.ixN ds.length k with
    | none => rw [ej] at k4; cases k4
    | some j =>
      rw [ej] at k4; cases k4
      exact ⟨_, vs, k, j, rfl, r2.rd0.int, k2, by rw [k3.length]; exact ej, k5 _ (k3.set j (r1.val.mono x2 I1))⟩
  | _ => exact False.elim f2

/-! ### op= -/
def ipR (op : BOp) : TIp := ipI fun i j => (augI op i j).getD 0
def augB : BOp → Bool
  | .add => true
  | .sub => true
  | _ => false
theorem ip_of {X : Cx} {op : BOp} (h : augB op = true) : PIp X op.py (ipR op) := by
  cases op with
  | add => exact ip_add
  | sub => exact ip_sub
  | _ => cases h
theorem sx_aug {i : Nat} {x : Str} {c : Ex} {px pos : Pos} {cf gs} {op : BOp} (Γok : CtxOk Γ) (h1 : Γ.m.N[i]? = some x) (h2 : locB L.sc x = true) (h3 : L.fb x = true ∨ L.sc.names.lookup x = some .local) (ho : augB op = true) (hE : SE Γ L true e (ev cf gs true c)) :
    SX Γ L (.AugAssign (.Name x px) op.py e pos) fun env s => (match env[i]? with
    | some (some (.val (.int a))) => (ev cf gs true c env s).bind fun y s => (match y with
      | .int b => (match augI op a b with
        | some c => .ok (.nx (env.set i (some (.val (.int c))))) s
        | none => .err)
      | _ => .err)
    | _ => .err) := by
  obtain ⟨t, p, q⟩ := hE
  refine ⟨tAug i t (ipR op), fun X g => ps_aug (by rw [g.N]; exact Γok.nd) (by rw [g.N]; exact h1) (by rw [g.sc]; exact loc_of h2) (p X g.toGood) (ip_of ho) (by rw [g.fn, g.sc]; exact h3), fun E0 σ H env st S φ Dn F f => ?_⟩
  simp only at f
  split at f
  · rename_i a he
    obtain ⟨v, e1, r⟩ := F.ei.val i _ he
    cases r
    refine ⟨_, e1, ?_⟩
    obtain ⟨d, s1, ed, f1⟩ := f.bind
    refine SE.use q F.ei F.si ed fun w H1 S1 φ1 x1 E1 I1 r1 => ?_
    cases d with
    | int b =>
      simp only at f1
      cases r1.rd0.int
      split at f1
      · rename_i c hc
        refine ⟨a, b, rfl, rfl, ?_⟩
        show Dn.nx (σ.set i (some (.int ((augI op a b).getD 0)))) H1
        rw [hc]
        exact f1 _ H1 S1 φ1 (x1.kp F.si) ((F.go x1 I1).setV (.int _))
      · exact False.elim f1
    | _ => exact False.elim f1
  · exact False.elim f
theorem sx_augV {i : Nat} {x : Str} {y : Expr} {c ck : Ex} {p sp pos : Pos} {cf gs} {op : BOp} (h1 : Γ.m.N[i]? = some x) (h2 : visB L.sc x = true) (h3 : okN x = true) (ho : augB op = true)
    (hy : ∀ ov iv new, augStore y ov iv new = (do holding [new, ov, iv] (setItem ov iv new); release [new, ov, iv] []; pure .next)) (hK : SE Γ L true y (ev cf gs true ck)) (hE : SE Γ L true e (ev cf gs true c)) :
    SX Γ L (.AugAssign (.Subscript (.Name x p) y sp) op.py e pos) fun env s => (ev cf gs true ck env s).bind fun x s => (match x with
    | .int k => (match getL env i s with
      | some ds => (match L2.atI ds k with
        | some (.int a) => (ev cf gs true c env s).bind fun y s => (match y with
          | .int b => (match augI op a b with
            | some c => chg env i s fun ds => (L2.ixN ds.length k).map fun j => ds.set j (.int c)
            | none => .err)
          | _ => .err)
        | _ => .err)
      | none => .err)
    | _ => .err) := by
  obtain ⟨t1, p1, q1⟩ := hK
  obtain ⟨t2, p2, q2⟩ := hE
  refine ⟨tAugS (tVar i) t1 t2 rGetL (ipR op) rSetL, fun X g => ps_augS (pvar_of h1 h2 h3 X g.toGood) (p1 X g.toGood) get_list (p2 X g.toGood) (ip_of ho) set_list hy, fun E0 σ H env st S φ Dn F f => ?_⟩
  obtain ⟨dk, s1, e1, f1⟩ := f.bind
  cases dk with
  | int k =>
    simp only at f1
    split at f1
    · rename_i ds hg
      split at f1
      · rename_i a hat
        obtain ⟨d2, s2, e2, f2⟩ := f1.bind
        obtain ⟨ad, g1⟩ := getL_v F.ei hg
        refine ⟨_, g1, ?_⟩
        refine SE.use q1 F.ei F.si e1 fun v H1 S1 φ1 x1 E1 I1 r1 => ?_
        obtain ⟨ad', vs, g2, g3, g4⟩ := getL_at E1 I1 hg
        rw [g1] at g2; cases g2
        obtain ⟨va, hva, ra⟩ := g4.atI hat
        cases ra
        refine ⟨ad, vs, k, _, rfl, r1.rd0.int, g3, hva, ?_⟩
        refine SE.use q2 E1 I1 e2 fun w H2 S2 φ2 x2 E2 I2 r2 => ?_
        cases d2 with
        | int b =>
          simp only at f2
          split at f2
          · rename_i c hc
            have F2 := (F.go x1 I1).go x2 I2
            obtain ⟨a3, vs3, ds3, ds3', k1, k2, k3, k4, k5⟩ := chg_at F2 (f2.kp ((x1.kp F.si).trans (x2.kp I1)))
            rw [g1] at k1; cases k1
            cases r2.rd0.int
            refine ⟨a, b, rfl, rfl, ?_⟩
            simp only [hc, Option.getD_some]
            cases ej : L2.ixN ds3.length k with
            | none => rw [ej] at k4; cases k4
            | some j =>
              rw [ej] at k4; cases k4
              exact ⟨ad, vs3, k, j, rfl, r1.rd0.int, k2, by rw [k3.length]; exact ej, k5 _ (k3.set j (.int c))⟩
          · exact False.elim f2
        | _ => exact False.elim f2
      · exact False.elim f1
    · exact False.elim f1
  | _ => exact False.elim f1
end
end PV
set_option maxRecDepth 100000
set_option maxHeartbeats 4000000
/-! Stores side by side; all statements. -/
namespace PV
open PySem PySem.Spec PyProof.Rows L2
inductive RepP (K : PySem.W.Frag) (S : Addr → Prop) (φ : List Addr) (H : Hp) : (Addr → Prop) → List V → List SV → Prop
  | nil {T : Addr → Prop} : RepP K S φ H T [] []
  | val {T : Addr → Prop} {v : V} {d : D} {vs : List V} {sv : List SV} : Rep K S φ H v d → RepP K S φ H T vs sv → RepP K S φ H T (v :: vs) (.val d :: sv)
  | own {T : Addr → Prop} {a : Addr} {ws : List V} {ds : List D} {vs : List V} {sv : List SV} : ¬ T a → ¬ S a → a ∉ φ → H a = some (.lst ws) → RepL K S φ H ws ds → RepP K S φ H (fun b => T b ∨ b = a) vs sv → RepP K S φ H T (.ref a :: vs) (.own ds :: sv)
def FinP (K : PySem.W.Frag) (S : Addr → Prop) (φ : List Addr) (H : Hp) (Q : List V → Hp → Prop) : Out (List SV) → Prop
  | .ok sv st' => ∀ vs H' S' φ', Stp S φ H S' φ' H' → SI K S' φ' H' st' → RepP K S' φ' H' (fun a => H a ≠ none) vs sv → Q vs H'
  | .err => False
def SP (Γ : Ctx) (L : LC) (es : List Expr) (m : Env → Sto → Out (List SV)) : Prop :=
  ∃ t : TA, (∀ X, Good Γ L X → PA X es t) ∧ ∀ σ H env st S φ Q, EI Γ.K S φ H σ env → SI Γ.K S φ H st → FinP Γ.K S φ H Q (m env st) → t σ H Q
def setSt (σ : L2.St) : List Nat → List V → L2.St
  | i :: is, v :: vs => setSt (σ.set i (some v)) is vs
  | _, _ => σ
section
variable {K : PySem.W.Frag} {XE : XK} {E0 : Ent} {S S' : Addr → Prop} {φ φ' : List Addr} {H H' : Hp} {σ : L2.St} {env : Env} {st : Sto}
theorem RepP.mono {T T' : Addr → Prop} {vs : List V} {sv : List SV} (h : RepP K S φ H T vs sv) : (∀ a, T' a → T a) → RepP K S φ H T' vs sv := by
  intro ht
  induction h generalizing T' with
  | nil => exact .nil
  | val r _ ih => exact .val r (ih ht)
  | own n1 n2 n3 h1 h2 _ ih => exact .own (fun q => n1 (ht _ q)) n2 n3 h1 h2 (ih fun b q => q.elim (fun q => .inl (ht b q)) .inr)
theorem RepP.length {T : Addr → Prop} {vs : List V} {sv : List SV} (h : RepP K S φ H T vs sv) : vs.length = sv.length := by
  induction h with
  | nil => rfl
  | val _ _ ih => simp [ih]
  | own _ _ _ _ _ _ ih => simp [ih]
theorem RepP.alloc0 {T : Addr → Prop} {vs : List V} {sv : List SV} {p : Addr} {o : HO} (I : SI K S φ H st) (hp : H p = none) (h : RepP K S φ H T vs sv) : RepP K S φ (upd H p o) T vs sv := by
  induction h with
  | nil => exact .nil
  | val r _ ih => exact .val (r.mono (Stp.alloc0 hp) I) ih
  | own n1 n2 n3 h1 h2 _ ih => exact .own n1 n2 n3 (by rw [upd_ne (ne_of_none h1 hp)]; exact h1) (h2.mono (Stp.alloc0 hp) I) ih
theorem FI.setAll : ∀ {is : List Nat} {vs : List V} {sv : List SV} {σ : L2.St} {env env' : Env} {T : Addr → Prop}, FI K E0 S φ H σ env st → RepP K S φ H T vs sv → (∀ a, E0.H a ≠ none → T a) →
    (∀ (j : Nat) es b, env[j]? = some (some (.own es)) → σ[j]? = some (some (.ref b)) → T b) → setAll env is sv = some env' → FI K E0 S φ H (setSt σ is vs) env' st
  | [], vs, sv, σ, env, env', T, F, r, h1, h2, e => by
    cases sv with
    | nil => cases r; cases e; exact F
    | cons x sv => cases e
  | i :: is, vs, sv, σ, env, env', T, F, r, h1, h2, e => by
    cases r with
    | nil => cases e
    | val r rs =>
      simp only [setSt]
      refine FI.setAll (F.setV r) rs h1 (fun j es b q1 q2 => ?_) e
      rcases set_get q1 with ⟨_, q, _⟩ | ⟨n, q⟩
      · cases q
      · rw [List.getElem?_set_ne n] at q2; exact h2 j es b q q2
    | own n1 n2 n3 g1 g2 rs =>
      simp only [setSt]
      refine FI.setAll (F.setO (Classical.byContradiction fun q => n1 (h1 _ q)) (fun j es q1 q2 => n1 (h2 j es _ q1 q2)) n2 n3 g1 g2) rs (fun a q => .inl (h1 a q)) (fun j es b q1 q2 => ?_) e
      rcases set_get q1 with ⟨rfl, q, hi⟩ | ⟨n, q⟩
      · rw [List.getElem?_set_self (by rw [← F.ei.len]; exact hi)] at q2; cases q2; exact .inr rfl
      · rw [List.getElem?_set_ne n] at q2; exact .inl (h2 j es b q q2)
theorem setAll_len : ∀ {is : List Nat} {sv : List SV} {env env' : Env}, setAll env is sv = some env' → is.length = sv.length
  | [], [], _, _, _ => rfl
  | [], _ :: _, _, _, e => by cases e
  | _ :: _, [], _, _, e => by cases e
  | i :: is, v :: sv, env, env', e => by
    have : setAll (env.set i (some v)) is sv = some env' := e
    simp [setAll_len this]
end
section
variable {Γ : Ctx} {L : LC} {e : Expr}
theorem FinP.bind {α : Type} {K : PySem.W.Frag} {S : Addr → Prop} {φ : List Addr} {H : Hp} {Q : List V → Hp → Prop} {m : Out α} {f : α → Sto → Out (List SV)} (h : FinP K S φ H Q (m.bind f)) : ∃ x st, m = .ok x st ∧ FinP K S φ H Q (f x st) := by
  cases m with
  | ok x st => exact ⟨x, st, rfl, h⟩
  | err => exact h.elim
theorem sp_nil {cf gs} : SP Γ L [] (evP cf gs .nil) :=
  ⟨tNil, fun X _ => pa_nil, fun σ H env st S φ Q E I f => by unfold evP at f; exact f [] H S φ .refl I .nil⟩
theorem sp_v {c : Ex} {ps : Pxs} {es : List Expr} {cf gs} (hst : ∀ env, starEach (e :: es) env = (false, eval e env) :: starEach es env) (h1 : SE Γ L false e (ev cf gs false c)) (h2 : SP Γ L es (evP cf gs ps)) : SP Γ L (e :: es) (evP cf gs (.v c ps)) := by
  obtain ⟨t1, p1, q1⟩ := h1
  obtain ⟨t2, p2, q2⟩ := h2
  refine ⟨tCons t1 t2, fun X g => pa_cons (p1 X g) (p2 X g) (hst _), fun σ H env st S φ Q E I f => ?_⟩
  unfold evP at f
  obtain ⟨d, s1, e1, f1⟩ := f.bind
  obtain ⟨r, s2, e2, f2⟩ := f1.bind
  refine SE.use q1 E I e1 fun v H1 S1 φ1 x1 E1 I1 r1 => ?_
  refine q2 σ H1 env s1 S1 φ1 _ E1 I1 ?_
  rw [e2]
  exact fun vs H2 S2 φ2 x2 I2 rs => f2 _ H2 S2 φ2 (x1.trans x2) I2 (.val (r1.val.mono x2 I1) (rs.mono fun a h => x1.some a h))
theorem sp_o {c : Fx} {ps : Pxs} {es : List Expr} {cf gs} (hst : ∀ env, starEach (e :: es) env = (false, eval e env) :: starEach es env) (h1 : SF Γ L e (evF cf gs c)) (h2 : SP Γ L es (evP cf gs ps)) : SP Γ L (e :: es) (evP cf gs (.o c ps)) := by
  obtain ⟨t1, p1, q1⟩ := h1
  obtain ⟨t2, p2, q2⟩ := h2
  refine ⟨tCons t1 t2, fun X g => pa_cons (p1 X g) (p2 X g) (hst _), fun σ H env st S φ Q E I f => ?_⟩
  unfold evP at f
  obtain ⟨d, s1, e1, f1⟩ := f.bind
  obtain ⟨r, s2, e2, f2⟩ := f1.bind
  refine q1 σ H env st S φ _ E I ?_
  rw [e1]
  intro a ws H1 S1 φ1 x1 I1 hn n1 n2 h1 r1
  refine q2 σ H1 env s1 S1 φ1 _ (E.mono x1 I) I1 ?_
  rw [e2]
  refine fun vs H2 S2 φ2 x2 I2 rs => f2 _ H2 S2 φ2 (x1.trans x2) I2 (.own (fun q => q hn) (fun q => ?_) (fun q => ?_) (x2.keep a _ h1 n2) (r1.mono x2 I1) (rs.mono fun b h => ?_))
  · rcases x2.new a q with q | q
    · exact n1 q
    · rw [h1] at q; cases q
  · obtain ⟨ψ, eψ, hf⟩ := x2.phi
    rw [eψ] at q
    rcases List.mem_append.mp q with q | q
    · exact n2 q
    · have := hf a q; rw [h1] at this; cases this
  · rcases h with h | h
    · exact x1.some b h
    · rw [h, h1]; simp

/-! ### a, b = x, y -/
def noStar : Expr → Bool
  | .Starred _ _ => false
  | _ => true
def nmsB (m : MC) (fb : Str → Bool) (sc : Scope) : List Nat → List Expr → Bool
  | [], [] => true
  | i :: is, .Name x _ :: ts => decide (m.N[i]? = some x) && locB sc x && (fb x || decide (sc.names.lookup x = some .local)) && nmsB m fb sc is ts
  | _, _ => false
def swB (sc : Scope) (is : List Nat) (ts es : List Expr) : Bool := match is, ts, es with
  | [i, j], [.Name x px, .Name y py], [a, b] => decide (i ≠ j) && decide (x ≠ y) && (py.line == px.line) && (sc.names.lookup x == some .local) && (sc.names.lookup y == some .local) && (sc.kind == .function) && noStar a && noStar b && !([a, b].all (foldedForSure 8)) && !([a, b].all (constantsAlone 8))
  | [i, j, l], [.Name x px, .Name y py, .Name z pz], [a, b, c] => decide (i ≠ j) && decide (i ≠ l) && decide (j ≠ l) && decide (x ≠ y) && decide (x ≠ z) && decide (y ≠ z) && (py.line == px.line) && (pz.line == px.line) && (sc.names.lookup x == some .local) && (sc.names.lookup y == some .local) && (sc.names.lookup z == some .local) && (sc.kind == .function) && noStar a && noStar b && noStar c && !([a, b, c].all (foldedForSure 8)) && !([a, b, c].all (constantsAlone 8))
  | _, _, _ => false
def notLocal (sc : Scope) : Expr → Bool
  | .Name x _ => !(sc.names.lookup x == some .local)
  | .Attribute _ _ _ => true
  | _ => false
def unB (sc : Scope) (ts es : List Expr) : Bool := !(ts.length == 2 || ts.length == 3) || es.all (foldedForSure 8) || ts.any (notLocal sc)
theorem fm_lt {α β : Type} {f : α → Option β} : ∀ {l : List α}, (∃ x ∈ l, f x = none) → (l.filterMap f).length < l.length
  | [], h => by obtain ⟨x, hx, _⟩ := h; cases hx
  | a :: l, h => by
    have le := List.length_filterMap_le f l
    cases e : f a with
    | none => rw [List.filterMap_cons_none e]; simp only [List.length_cons]; omega
    | some b =>
      rw [List.filterMap_cons_some e]
      obtain ⟨x, hx, hn⟩ := h
      rcases List.mem_cons.mp hx with q | q
      · rw [q, e] at hn; cases hn
      · have := fm_lt (f := f) (l := l) ⟨x, q, hn⟩
        simp only [List.length_cons]; omega
def gNs : List Nat → TGs
  | [] => gNil
  | i :: is => gCons (gName i) (gNs is)
theorem gNs_sem : ∀ {is : List Nat} {vs : List V} {σ : L2.St} {H : Hp} {Q : L2.St → Hp → Prop}, vs.length = is.length → Q (setSt σ is vs) H → gNs is vs σ H Q
  | [], vs, σ, H, Q, hl, h => by
    cases vs with
    | nil => exact ⟨rfl, h⟩
    | cons v vs => cases hl
  | i :: is, vs, σ, H, Q, hl, h => by
    cases vs with
    | nil => cases hl
    | cons v vs => exact ⟨v, vs, rfl, gNs_sem (by simpa using hl) h⟩
theorem pgs_nms (Γok : CtxOk Γ) : ∀ {is : List Nat} {ts : List Expr}, nmsB Γ.m L.fb L.sc is ts = true → ∀ X, Good Γ L X → PGs X ts (gNs is) ∧ (∀ env, (assignEach ts env).length = is.length) ∧ ∀ env, (assignEach ts env).findIdx? (·.1) = none
  | [], [], _, X, g => ⟨pgs_nil, fun _ => rfl, fun _ => rfl⟩
  | i :: is, .Name x p :: ts, h, X, g => by
    have h' : (decide (Γ.m.N[i]? = some x) && locB L.sc x && (L.fb x || decide (L.sc.names.lookup x = some .local)) && nmsB Γ.m L.fb L.sc is ts) = true := h
    simp only [Bool.and_eq_true, Bool.or_eq_true, decide_eq_true_eq] at h'
    obtain ⟨⟨⟨h1, h2⟩, h3⟩, h4⟩ := h'
    obtain ⟨a, b, c⟩ := pgs_nms Γok h4 X g
    have hs : ∀ env, assignEach (.Name x p :: ts) env = (false, assign (.Name x p) env) :: assignEach ts env := fun _ => rfl
    exact ⟨pgs_cons (pg_name (by rw [g.N]; exact Γok.nd) (by rw [g.N]; exact h1) (by rw [g.sc]; exact loc_of h2) (by rw [g.fn, g.sc]; exact h3)) a rfl, fun env => by rw [hs]; simp [b env], fun env => by rw [hs, List.findIdx?_cons]; simp [c env]⟩
theorem sw_un {ts es : List Expr} {kt k2 : Nat} {pt p2 : Pos} {env : PySem.Env} {sc : Scope} (hs : env.scope = sc) (h : unB sc ts es = true) : swappedStores [.Tuple ts kt pt] (.Tuple es k2 p2) env = pure none := by
  unfold unB at h
  rw [Bool.or_eq_true, Bool.or_eq_true] at h
  unfold swappedStores
  dsimp only
  rcases h with (h | h) | h
  · rw [h]; exact if_pos rfl
  · split
    · rfl
    · split
      · rfl
      · split
        all_goals first | rfl | exact if_pos h | (rename_i q; exact absurd h q)
  · obtain ⟨x, hx, hn⟩ := List.any_eq_true.mp h
    split
    · rfl
    · split
      · rfl
      · refine if_pos ?_
        rw [Bool.or_eq_true]
        left
        rw [bne_iff_ne]
        refine Nat.ne_of_lt (fm_lt ⟨x, hx, ?_⟩)
        cases x with
        | Name y p =>
          have e : (env.kindOf y == some .local) = false := by
            unfold Env.kindOf
            rw [hs]
            simpa [notLocal] using hn
          show (if (env.kindOf y == some .local && _) = true then some y else none) = none
          rw [e]; rfl
        | Attribute o f p => rfl
        | _ => cases hn
theorem kind_of {env : PySem.Env} {sc : Scope} (h : env.scope = sc) (hk : (sc.kind == ScopeKind.function) = true) : (env.blockKind != ScopeKind.function) = false := by
  have e : sc.kind = .function := eq_of_beq hk
  unfold Env.blockKind
  rw [h, e]; rfl
theorem star_any {a : Expr} (h : noStar a = true) : (match a with | .Starred .. => true | _ => false) = false := by
  cases a <;> first | rfl | cases h
theorem sw_2 {x y : Str} {px py : Pos} {a b : Expr} {i j kt k2 : Nat} {pt p2 : Pos} {env : PySem.Env} {sc : Scope} (hs : env.scope = sc) (h : swB sc [i, j] [.Name x px, .Name y py] [a, b] = true) : i ≠ j ∧ sc.names.lookup x = some .local ∧ sc.names.lookup y = some .local ∧ swappedStores [.Tuple [.Name x px, .Name y py] kt pt] (.Tuple [a, b] k2 p2) env = pure (some [x, y]) := by
  simp only [swB, Bool.and_eq_true, decide_eq_true_eq, Bool.not_eq_true'] at h
  obtain ⟨⟨⟨⟨⟨⟨⟨⟨⟨h1, h2⟩, h3⟩, h4⟩, h5⟩, h6⟩, h7⟩, h8⟩, h9⟩, h10⟩ := h
  have k := kind_of hs h6
  refine ⟨h1, eq_of_beq h4, eq_of_beq h5, ?_⟩
  have hx : (env.kindOf x == some .local) = true := by unfold Env.kindOf; rw [hs]; exact h4
  have hy : (env.kindOf y == some .local) = true := by unfold Env.kindOf; rw [hs]; exact h5
  have hd : [x, y].eraseDups = [x, y] := by simp [List.eraseDups_cons, h2, Ne.symm h2]
  unfold swappedStores
  simp only [k, List.length_cons, List.length_nil, List.any_cons, List.any_nil, h9, h10, List.head?_cons, Option.map_some, Option.getD_some, Expr.pos, List.filterMap_cons, List.filterMap_nil, hx, hy, h3, beq_self_eq_true, Bool.and_self, if_true, hd]
  refine (if_neg (by decide)).trans ((if_neg fun q => ?_).trans rfl)
  simp only [Bool.or_eq_true, Bool.or_false] at q
  rcases q with q | q
  · cases a <;> first | (cases h7; done) | (cases q; done)
  · cases b <;> first | (cases h8; done) | (cases q; done)
theorem sw_3 {x y z : Str} {px py pz : Pos} {a b c : Expr} {i j l kt k2 : Nat} {pt p2 : Pos} {env : PySem.Env} {sc : Scope} (hs : env.scope = sc) (h : swB sc [i, j, l] [.Name x px, .Name y py, .Name z pz] [a, b, c] = true) : i ≠ j ∧ i ≠ l ∧ j ≠ l ∧ sc.names.lookup x = some .local ∧ sc.names.lookup y = some .local ∧ sc.names.lookup z = some .local ∧ swappedStores [.Tuple [.Name x px, .Name y py, .Name z pz] kt pt] (.Tuple [a, b, c] k2 p2) env = pure (some [x, y, z]) := by
  simp only [swB, Bool.and_eq_true, decide_eq_true_eq, Bool.not_eq_true'] at h
  obtain ⟨⟨⟨⟨⟨⟨⟨⟨⟨⟨⟨⟨⟨⟨⟨⟨g1, g2⟩, g3⟩, g4⟩, g5⟩, g6⟩, g7⟩, g8⟩, g9⟩, g10⟩, g11⟩, g12⟩, g13⟩, g14⟩, g15⟩, g16⟩, g17⟩ := h
  have k := kind_of hs g12
  refine ⟨g1, g2, g3, eq_of_beq g9, eq_of_beq g10, eq_of_beq g11, ?_⟩
  have hx : (env.kindOf x == some .local) = true := by unfold Env.kindOf; rw [hs]; exact g9
  have hy : (env.kindOf y == some .local) = true := by unfold Env.kindOf; rw [hs]; exact g10
  have hz : (env.kindOf z == some .local) = true := by unfold Env.kindOf; rw [hs]; exact g11
  have hd : [x, y, z].eraseDups = [x, y, z] := by simp [List.eraseDups_cons, g4, g5, g6, Ne.symm g4, Ne.symm g5, Ne.symm g6]
  unfold swappedStores
  simp only [k, List.length_cons, List.length_nil, List.any_cons, List.any_nil, g16, g17, List.head?_cons, Option.map_some, Option.getD_some, Expr.pos, List.filterMap_cons, List.filterMap_nil, hx, hy, hz, g7, g8, beq_self_eq_true, Bool.and_self, if_true, hd]
  refine (if_neg (by decide)).trans ((if_neg fun q => ?_).trans rfl)
  simp only [Bool.or_eq_true, Bool.or_false] at q
  rcases q with q | q | q
  · cases a <;> first | (cases g13; done) | (cases q; done)
  · cases b <;> first | (cases g14; done) | (cases q; done)
  · cases c <;> first | (cases g15; done) | (cases q; done)
theorem FinP.imp {K : PySem.W.Frag} {S : Addr → Prop} {φ : List Addr} {H : Hp} {Q Q' : List V → Hp → Prop} {m : Out (List SV)} (h : FinP K S φ H Q m) (k : ∀ vs H, Q vs H → Q' vs H) : FinP K S φ H Q' m := by
  cases m with
  | ok sv s => exact fun vs H' S' φ' x I r => k _ _ (h vs H' S' φ' x I r)
  | err => exact h
/-- the side-by-side store: what is asked of the values -/
def ParQ (is : List Nat) (Dn : Ends) (σ : L2.St) (vs : List V) (H : Hp) : Prop := vs.length = is.length ∧ Dn.nx (setSt σ is vs) H ∧ ∀ p, H p = none → Dn.nx (setSt σ is vs) (upd H p (.tup vs))
theorem par_ps (Γok : CtxOk Γ) {is : List Nat} {ts es : List Expr} {kt k2 : Nat} {pt p2 pos : Pos} (hn : nmsB Γ.m L.fb L.sc is ts = true) (hz : is.length ≤ 1000) (h : (unB L.sc ts es || swB L.sc is ts es) = true) :
    ∃ tX : TA → TS, (∀ X ta, GoodS Γ L X → PA X es ta → PS X (.Assign [.Tuple ts kt pt] (.Tuple es k2 p2) pos) (tX ta)) ∧ ∀ (t : TA) Dn σ H, (∀ Q : List V → Hp → Prop, (∀ vs H, ParQ is Dn σ vs H → Q vs H) → t σ H Q) → tX t Dn σ H := by
  rw [Bool.or_eq_true] at h
  rcases h with h | h
  · refine ⟨fun ta => tAsg (tTup ta) (gTup Γ.K is.length (gNs is)), fun X ta g ha => ?_, fun t Dn σ H q => q _ fun vs H1 z => ?_⟩
    · obtain ⟨a, b, c⟩ := pgs_nms Γok hn X g.toGood
      rw [← g.K]
      exact ps_asg (pe_tup ha) (pg_tup g.calm a (b _) (c _)) rfl (sw_un g.sc h) rfl
    · obtain ⟨z1, z2, z3⟩ := z
      exact ⟨by rw [z1]; exact Nat.le_trans hz (by decide), fun p hp => ⟨p, vs, rfl, .inl (.inl upd_same), z1, gNs_sem z1 (z3 p hp)⟩⟩
  · unfold swB at h
    split at h
    · rename_i i j x px y py a b
      have h' : swB L.sc [i, j] [.Name x px, .Name y py] [a, b] = true := h
      refine ⟨fun ta => tPar i j ta, fun X ta g ha => ?_, fun t Dn σ H q => q _ fun vs H1 z => ?_⟩
      · obtain ⟨g1, g2, g3, g4⟩ := sw_2 (kt := kt) (pt := pt) (k2 := k2) (p2 := p2) (env := X.env) g.sc h'
        have n1 : nmsB Γ.m L.fb L.sc [i, j] [.Name x px, .Name y py] = true := hn
        simp only [nmsB, Bool.and_eq_true, decide_eq_true_eq] at n1
        exact ps_par g.calm (by rw [g.N]; exact Γok.nd) (by rw [g.N]; exact n1.1.1.1) (by rw [g.N]; exact n1.2.1.1.1) g1 (by rw [g.sc]; exact g2) (by rw [g.sc]; exact g3) ha g4 rfl
      · obtain ⟨z1, z2, z3⟩ := z
        match vs, z1, z2 with
        | [v, w], _, z2 => exact ⟨v, w, rfl, z2⟩
    · rename_i i j l x px y py z pz a b c
      have h' : swB L.sc [i, j, l] [.Name x px, .Name y py, .Name z pz] [a, b, c] = true := h
      refine ⟨fun ta => tPar3 i j l ta, fun X ta g ha => ?_, fun t Dn σ H q => q _ fun vs H1 z => ?_⟩
      · obtain ⟨g1, g2, g3, g4, g5, g6, g7⟩ := sw_3 (kt := kt) (pt := pt) (k2 := k2) (p2 := p2) (env := X.env) g.sc h'
        have n1 : nmsB Γ.m L.fb L.sc [i, j, l] [.Name x px, .Name y py, .Name z pz] = true := hn
        simp only [nmsB, Bool.and_eq_true, decide_eq_true_eq] at n1
        exact ps_par3 g.calm (by rw [g.N]; exact Γok.nd) (by rw [g.N]; exact n1.1.1.1) (by rw [g.N]; exact n1.2.1.1.1) (by rw [g.N]; exact n1.2.2.1.1.1) g1 g2 g3 (by rw [g.sc]; exact g4) (by rw [g.sc]; exact g5) (by rw [g.sc]; exact g6) ha g7 rfl
      · obtain ⟨z1, z2, z3⟩ := z
        match vs, z1, z2 with
        | [v, w, u], _, z2 => exact ⟨v, w, u, rfl, z2⟩
    · cases h
theorem sx_par (Γok : CtxOk Γ) {is : List Nat} {ts es : List Expr} {kt k2 : Nat} {pt p2 pos : Pos} {cf gs} {ps : Pxs} (hn : nmsB Γ.m L.fb L.sc is ts = true) (hz : is.length ≤ 1000) (h : (unB L.sc ts es || swB L.sc is ts es) = true) (hP : SP Γ L es (evP cf gs ps)) :
    SX Γ L (.Assign [.Tuple ts kt pt] (.Tuple es k2 p2) pos) fun env s => (evP cf gs ps env s).bind fun vs s => match setAll env is vs with
    | some env' => .ok (.nx env') s
    | none => .err := by
  obtain ⟨tX, pX, qX⟩ := par_ps (kt := kt) (pt := pt) (k2 := k2) (p2 := p2) (pos := pos) Γok hn hz h
  obtain ⟨t, p, q⟩ := hP
  refine ⟨tX t, fun X g => pX X t g (p X g.toGood), fun E0 σ H env st S φ Dn F f => qX t Dn σ H fun Q hQ => ?_⟩
  obtain ⟨sv, s1, e1, f1⟩ := f.bind
  refine q σ H env st S φ Q F.ei F.si ?_
  rw [e1]
  intro vs H1 S1 φ1 x1 I1 r
  cases ea : setAll env is sv with
  | none => rw [ea] at f1; exact False.elim f1
  | some env1 =>
    rw [ea] at f1
    have F1 := F.go x1 I1
    have own : ∀ (j : Nat) es b, env[j]? = some (some (.own es)) → σ[j]? = some (some (.ref b)) → H b ≠ none := fun j es b h1 h2 => by
      obtain ⟨c, ws, g1, g2, _⟩ := F.ei.own j es h1
      rw [h2] at g1; cases g1; rw [g2]; simp
    refine hQ vs H1 ⟨by rw [r.length, setAll_len ea], f1 _ H1 S1 φ1 (x1.kp F.si) (F1.setAll r (fun a h => F.ent.some a h) own ea), fun pp hp => ?_⟩
    have x2 : Stp S1 φ1 H1 S1 φ1 (upd H1 pp (.tup vs)) := Stp.alloc0 hp
    exact f1 _ _ S1 φ1 ((x1.kp F.si).trans (x2.kp I1)) ((F1.go x2 (I1.alloc0 hp)).setAll (r.alloc0 I1 hp) (fun a h => F.ent.some a h) own ea)
end
end PV
set_option maxRecDepth 100000
set_option maxHeartbeats 4000000
/-! self.a, self.b = x, y. -/
namespace PV
open PySem PySem.Spec PyProof.Rows L2
def putVs (us : List (Str × V)) : List (Str × V) → List (Str × V)
  | [] => us
  | (f, y) :: r => putVs (putF f y us) r
section
variable {K : PySem.W.Frag} {S : Addr → Prop} {φ : List Addr} {H : Hp}
theorem put_rep {f : Str} {v : V} {d : D} (r : Rep K S φ H v d) : ∀ {us : List (Str × V)} {fs : List (Str × D)}, us.map (·.1) = fs.map (·.1) → RepL K S φ H (us.map (·.2)) (fs.map (·.2)) → (putF f v us).map (·.1) = (putD f d fs).map (·.1) ∧ RepL K S φ H ((putF f v us).map (·.2)) ((putD f d fs).map (·.2))
  | [], [], _, _ => ⟨rfl, .cons r .nil⟩
  | [], _ :: _, e, _ => by cases e
  | _ :: _, [], e, _ => by cases e
  | (g, w) :: us, (g', d') :: fs, e, h => by
    simp only [List.map_cons, List.cons.injEq] at e
    obtain ⟨e1, e2⟩ := e
    subst e1
    cases h with
    | cons h1 h2 =>
      unfold putF putD
      by_cases q : g = f
      · rw [if_pos q, if_pos q]
        exact ⟨by simp [e2], .cons r h2⟩
      · rw [if_neg q, if_neg q]
        obtain ⟨a, b⟩ := put_rep r e2 h2
        exact ⟨by simp [a], .cons h1 b⟩
theorem puts_rep : ∀ {fs : List Str} {vs : List V} {ds : List D} {us : List (Str × V)} {gs : List (Str × D)}, RepL K S φ H vs ds → us.map (·.1) = gs.map (·.1) → RepL K S φ H (us.map (·.2)) (gs.map (·.2)) →
    (putVs us (fs.zip vs)).map (·.1) = (putDs gs (fs.zip ds)).map (·.1) ∧ RepL K S φ H ((putVs us (fs.zip vs)).map (·.2)) ((putDs gs (fs.zip ds)).map (·.2))
  | [], vs, ds, us, gs, _, e, h => ⟨e, h⟩
  | f :: fs, [], ds, us, gs, r, e, h => by cases r; exact ⟨e, h⟩
  | f :: fs, v :: vs, ds, us, gs, r, e, h => by
    cases r with
    | cons r1 r2 =>
      obtain ⟨a, b⟩ := put_rep (f := f) r1 e h
      exact puts_rep (fs := fs) r2 a b
theorem putD_mem {f : Str} {d : D} {q : Str × D} : ∀ {fs : List (Str × D)}, q ∈ putD f d fs → q.1 = f ∨ q ∈ fs
  | [], h => by
    have : q = (f, d) := by simpa [putD] using h
    exact .inl (by rw [this])
  | (g, e) :: fs, h => by
    unfold putD at h
    by_cases c : g = f
    · rw [if_pos c] at h
      rcases List.mem_cons.mp h with z | z
      · exact .inl (by rw [z]; exact c)
      · exact .inr (List.mem_cons_of_mem _ z)
    · rw [if_neg c] at h
      rcases List.mem_cons.mp h with z | z
      · exact .inr (by rw [z]; exact List.mem_cons_self)
      · rcases putD_mem z with z | z
        · exact .inl z
        · exact .inr (List.mem_cons_of_mem _ z)
theorem putDs_mem {q : Str × D} : ∀ {ps fs : List (Str × D)}, q ∈ putDs fs ps → (∃ p ∈ ps, q.1 = p.1) ∨ q ∈ fs
  | [], fs, h => .inr h
  | (f, d) :: ps, fs, h => by
    rcases putDs_mem (ps := ps) h with ⟨p, hp, e⟩ | h
    · exact .inl ⟨p, List.mem_cons_of_mem _ hp, e⟩
    · rcases putD_mem h with e | h
      · exact .inl ⟨_, List.mem_cons_self, e⟩
      · exact .inr h
theorem upd_upd {a : Addr} {o o' : HO} : upd (upd H a o) a o' = upd H a o' := by
  funext b
  by_cases q : b = a
  · rw [q, upd_same, upd_same]
  · rw [upd_ne q, upd_ne q, upd_ne q]
theorem upd_self {a : Addr} {o : HO} (h : H a = some o) : upd H a o = H := by
  funext b
  by_cases q : b = a
  · rw [q, upd_same, h]
  · rw [upd_ne q]
end
/-- targets self.f, .. -/
def gFl (K : PySem.W.Frag) (i : Nat) : List Str → TGs
  | [] => gNil
  | f :: r => gCons (gFld K (tVar i) f) (gFl K i r)
theorem gFl_sem {K : PySem.W.Frag} {i : Nat} {a C dx : Addr} {σ : L2.St} (hσ : σ[i]? = some (some (.ref a))) (hc : Cls K C) : ∀ {fs : List Str} {vs : List V} {us : List (Str × V)} {H : Hp} {Q : L2.St → Hp → Prop}, vs.length = fs.length → (∀ f ∈ fs, NoAttr K C f) → us.length + fs.length < 1000 →
    H a = some (.ins C dx us) → Q σ (upd H a (.ins C dx (putVs us (fs.zip vs)))) → gFl K i fs vs σ H Q
  | [], vs, us, H, Q, hl, hn, hz, hH, hq => by
    cases vs with
    | nil => exact ⟨rfl, by rw [← upd_self hH]; exact hq⟩
    | cons v vs => cases hl
  | f :: fs, vs, us, H, Q, hl, hn, hz, hH, hq => by
    cases vs with
    | nil => cases hl
    | cons v vs =>
      simp only [List.length_cons] at hz
      refine ⟨v, vs, rfl, _, hσ, a, C, dx, us, rfl, hH, hc, hn f List.mem_cons_self, by omega, ?_⟩
      refine gFl_sem hσ hc (by simpa using hl) (fun g hg => hn g (List.mem_cons_of_mem _ hg)) ?_ upd_same (by rw [upd_upd]; exact hq)
      have := length_putF f v us
      omega
/-- the instance that slot i holds is written -/
theorem FI.putF {K : PySem.W.Frag} {E0 : Ent} {S : Addr → Prop} {φ : List Addr} {H : Hp} {σ : L2.St} {env : Env} {st : Sto} {n : Nat} {a dx : Addr} {x : Str} {us : List (Str × V)} {fs : List (Str × D)} (F : FI K E0 S φ H σ env st) (hφ : φ[n]? = some a)
    (e : us.map (·.1) = fs.map (·.1)) (r : RepL K S φ H (us.map (·.2)) (fs.map (·.2))) (c : Cls K (He.ga K x)) (na : ∀ q ∈ fs, NoAttr K (He.ga K x) q.1) :
    KP S φ H S φ (upd H a (.ins (He.ga K x) dx us)) ∧ FI K E0 S φ (upd H a (.ins (He.ga K x) dx us)) σ env (st.set n (.obj x fs)) := by
  have hm : a ∈ φ := List.mem_of_getElem? hφ
  have hS : ∀ b, S b → upd H a (.ins (He.ga K x) dx us) b = H b := fun b hb => upd_ne (fun q => F.si.dis a hm (by rw [← q]; exact hb))
  have x1 : Stp S φ H S φ (upd H a (.ins (He.ga K x) dx us)) := Stp.chg hm
  exact ⟨⟨fun _ q => q, hS, [], by simp⟩, F.ei.mono x1 F.si, F.si.chgO hφ (o := .obj x fs) ⟨dx, us, upd_same, e, r.tr hS (fun _ q => q) ⟨[], by simp⟩, c, na⟩, F.ent.trans x1, F.own⟩
/-- the targets self.f, .. -/
def fldsB (m : MC) (sc : Scope) (i : Nat) : List Str → List Expr → Bool
  | [], [] => true
  | f :: fs, .Attribute (.Name y p) g _ :: ts => decide (f = g) && decide (m.N[i]? = some y) && visB sc y && okN y && fldsB m sc i fs ts
  | _, _ => false
section
variable {Γ : Ctx} {L : LC} {e : Expr}
theorem pgs_flds {i : Nat} : ∀ {fs : List Str} {ts : List Expr}, fldsB Γ.m L.sc i fs ts = true → ∀ X, Good Γ L X → PGs X ts (gFl Γ.K i fs) ∧ (∀ env, (assignEach ts env).length = fs.length) ∧ ∀ env, (assignEach ts env).findIdx? (·.1) = none
  | [], [], _, X, g => ⟨pgs_nil, fun _ => rfl, fun _ => rfl⟩
  | f :: fs, .Attribute (.Name y p) g' p2 :: ts, h, X, g => by
    have h' : (decide (f = g') && decide (Γ.m.N[i]? = some y) && visB L.sc y && okN y && fldsB Γ.m L.sc i fs ts) = true := h
    simp only [Bool.and_eq_true, decide_eq_true_eq] at h'
    obtain ⟨⟨⟨⟨h1, h2⟩, h3⟩, h4⟩, h5⟩ := h'
    subst h1
    obtain ⟨a, b, c⟩ := pgs_flds h5 X g
    have hs : ∀ env, assignEach (.Attribute (.Name y p) f p2 :: ts) env = (false, assign (.Attribute (.Name y p) f p2) env) :: assignEach ts env := fun _ => rfl
    have pf := pg_fld (o := .Name y p) (f := f) (pos := p2) (pvar_of h2 h3 h4 X g)
    rw [g.K] at pf
    exact ⟨pgs_cons pf a rfl, fun env => by rw [hs]; simp [b env], fun env => by rw [hs, List.findIdx?_cons]; simp [c env]⟩
theorem sx_setF (Γok : CtxOk Γ) {i : Nat} {x : Str} {fs : List Str} {cs : Exs} {ts es : List Expr} {kt k2 : Nat} {pt p2 pos : Pos} {cf gs} (hT : fldsB Γ.m L.sc i fs ts = true) (hu : unB L.sc ts es = true) (hz : fs.length ≤ 1000) (hna : ∀ f ∈ fs, NoAttr Γ.K (He.ga Γ.K x) f) (hE : SL Γ L false es (evL cf gs false cs)) :
    SX Γ L (.Assign [.Tuple ts kt pt] (.Tuple es k2 p2) pos) fun env s => (evL cf gs false cs env s).bind fun ds s => (match env[i]? with
    | some (some (.val (.loc n))) => (match s[n]? with
      | some (.obj x' f0) => if x' = x ∧ fs.length = ds.length ∧ f0.length + fs.length < 1000 then .ok (.nx env) (s.set n (.obj x (putDs f0 (fs.zip ds)))) else .err
      | _ => .err)
    | _ => .err) := by
  obtain ⟨t, p, q⟩ := hE
  refine ⟨tAsg (tTup t) (gTup Γ.K fs.length (gFl Γ.K i fs)), fun X g => ?_, fun E0 σ H env st S φ Dn F f => ?_⟩
  · obtain ⟨a, b, c⟩ := pgs_flds hT X g.toGood
    rw [← g.K] at a ⊢
    exact ps_asg (pe_tup (p X g.toGood)) (pg_tup g.calm a (b _) (c _)) rfl (sw_un g.sc hu) rfl
  · obtain ⟨ds, s1, e1, f1⟩ := f.bind
    refine q σ H env st S φ _ F.ei F.si ?_
    rw [e1]
    intro vs H1 S1 φ1 x1 I1 r1
    have F1 := F.go x1 I1
    have rl := pd_rep r1
    split at f1
    · rename_i n he
      split at f1
      · rename_i x' f0 hs
        split at f1
        · rename_i hc
          obtain ⟨rfl, hlen, hsz⟩ := hc
          obtain ⟨v, ev', rv⟩ := F1.ei.val i _ he
          cases rv with
          | @loc ad _ hφ =>
            refine ⟨by rw [rl.length, ← hlen]; exact Nat.le_trans hz (by decide), fun pp hp => ?_⟩
            have x2 : Stp S1 φ1 H1 S1 φ1 (upd H1 pp (.tup vs)) := Stp.alloc0 hp
            have F2 := F1.go x2 (I1.alloc0 hp)
            obtain ⟨dx, us, g1, g2, g3, g4, g5⟩ := F2.si.obj n ad (.obj x' f0) hφ hs
            have hul : us.length = f0.length := by have := congrArg List.length g2; simpa using this
            refine ⟨pp, vs, rfl, .inl (.inl upd_same), by rw [rl.length, hlen], gFl_sem ev' g4 (by rw [rl.length, hlen]) hna (by omega) g1 ?_⟩
            obtain ⟨r2, r3⟩ := puts_rep (fs := fs) (rl.mono x2 I1) g2 g3
            obtain ⟨k1, F3⟩ := F2.putF hφ r2 r3 g4 fun q hq => by
              rcases putDs_mem hq with ⟨z, hz2, e⟩ | hq
              · rw [e]; exact hna _ (List.of_mem_zip hz2).1
              · exact g5 q hq
            exact f1 σ _ S1 φ1 (((x1.kp F.si).trans (x2.kp I1)).trans k1) F3
        · exact False.elim f1
      · exact False.elim f1
    · exact False.elim f1
theorem sx_setF1 (Γok : CtxOk Γ) {i : Nat} {x y f : Str} {ce : Ex} {v : Expr} {p p2 pos : Pos} {cf gs} (h2 : Γ.m.N[i]? = some y) (h3 : visB L.sc y = true) (h4 : okN y = true) (hl : isLcE v = false) (hna : NoAttr Γ.K (He.ga Γ.K x) f) (hE : SE Γ L false v (ev cf gs false ce)) :
    SX Γ L (.Assign [.Attribute (.Name y p) f p2] v pos) fun env s => (evL cf gs false (.c ce .nil) env s).bind fun ds s => (match env[i]? with
    | some (some (.val (.loc n))) => (match s[n]? with
      | some (.obj x' f0) => if x' = x ∧ [f].length = ds.length ∧ f0.length + [f].length < 1000 then .ok (.nx env) (s.set n (.obj x (putDs f0 ([f].zip ds)))) else .err
      | _ => .err)
    | _ => .err) := by
  obtain ⟨t, pp, q⟩ := hE
  refine ⟨sFld Γ.K (tVar i) t f, fun X g => ?_, fun E0 σ H env st S φ Dn F fl => ?_⟩
  · rw [← g.K]
    exact ps_fld (pvar_of h2 h3 h4 X g.toGood) (pp X g.toGood) (noSwap hl _ _ _)
  · have e0 : evL cf gs false (.c ce .nil) env st = (ev cf gs false ce env st).bind fun d s => .ok [d] s := by
      (simp only [evL]) <;> rfl
    have fl' : FinX Γ.K L.xk E0 S φ H Dn ((evL cf gs false (.c ce .nil) env st).bind _) := fl
    rw [e0] at fl'
    cases e1 : ev cf gs false ce env st with
    | err => rw [e1] at fl'; exact False.elim fl'
    | ok d s1 =>
    rw [e1] at fl'
    have f1 : FinX Γ.K L.xk E0 S φ H Dn (match env[i]? with
    | some (some (.val (.loc n))) => (match s1[n]? with
      | some (.obj x' f0) => if x' = x ∧ [f].length = [d].length ∧ f0.length + [f].length < 1000 then .ok (.nx env) (s1.set n (.obj x (putDs f0 ([f].zip [d])))) else .err
      | _ => .err)
    | _ => .err) := fl'
    refine q σ H env st S φ _ F.ei F.si ?_
    rw [e1]
    intro v1 H1 S1 φ1 x1 I1 r1
    have F1 := F.go x1 I1
    have rl := r1.val
    split at f1
    · rename_i n he
      split at f1
      · rename_i x' f0 hs
        split at f1
        · rename_i hc
          obtain ⟨rfl, _, hsz⟩ := hc
          obtain ⟨v2, ev', rv⟩ := F1.ei.val i _ he
          cases rv with
          | @loc ad _ hφ =>
            obtain ⟨dx, us, g1, g2, g3, g4, g5⟩ := F1.si.obj n ad (.obj x' f0) hφ hs
            have hul : us.length = f0.length := by have := congrArg List.length g2; simpa using this
            have hsz' : f0.length + 1 < 1000 := hsz
            refine ⟨_, ev', ad, He.ga Γ.K x', dx, us, rfl, g1, g4, hna, by omega, ?_⟩
            obtain ⟨r2, r3⟩ := put_rep (f := f) rl g2 g3
            obtain ⟨k1, F3⟩ := F1.putF hφ r2 r3 g4 fun q hq => by
              rcases putD_mem hq with e | hq
              · rw [e]; exact hna
              · exact g5 q hq
            exact f1 σ _ S1 φ1 ((x1.kp F.si).trans k1) F3
        · exact False.elim f1
      · exact False.elim f1
    · exact False.elim f1
end
end PV
set_option maxRecDepth 100000
set_option maxHeartbeats 4000000
/-! Statements that raise, a try around a returned call, a store into a list of the store. -/
namespace PV
open PySem PySem.Spec PyProof.Rows L2
section
variable {Γ : Ctx} {L : LC} {a e : Expr}
theorem exC_err {K : PySem.W.Frag} {XE : XK} {E0 : Ent} {S : Addr → Prop} {φ : List Addr} {H : Hp} {Dn : Ends} {env : Env} {o : Out D} (h : FinX K XE E0 S φ H Dn (exC env .err o)) : ∃ x d st, o = .ok (.tup [.str x, d]) st ∧ FinX K XE E0 S φ H Dn (.ok (.rs x d) st) := by
  unfold exC at h
  split at h
  · rename_i q; cases q
  · exact ⟨_, _, _, rfl, h⟩
  · exact False.elim h
theorem tryC_err {K : PySem.W.Frag} {XE : XK} {E0 : Ent} {S : Addr → Prop} {φ : List Addr} {H : Hp} {Dn : Ends} {x : Str} {o : Out D} (h : FinX K XE E0 S φ H Dn (tryC x .err o)) : ∃ d st, o = .ok (.tup [.str x, d]) st ∧ FinX K XE E0 S φ H Dn (.ok (.ret .non) st) := by
  unfold tryC at h
  split at h
  · rename_i q; cases q
  · split at h
    · rename_i hx
      subst hx
      exact ⟨_, _, rfl, h⟩
    · exact False.elim h
  · exact False.elim h
/-- o.m(..), which may raise, as a statement -/
theorem sx_exM (Γok : CtxOk Γ) {ca : Ex} {x m : Str} {k : Nat} {cs : Exs} {es : List Expr} {apos pos epos : Pos} (hn : isNameE a = true) (hm : (x, m, k, es.length) ∈ Γ.m.ms) (hl : (apos.endLine == pos.line) = true) (hlen : es.length < 30) (hne : es ≠ [])
    (hst : ∀ y ∈ es, ∀ env r, starEach (y :: r) env = (false, eval y env) :: starEach r env) (h1 : SE Γ L true a (ev Γ.cf Γ.gs true ca)) (h2 : SL Γ L false es (evL Γ.cf Γ.gs false cs)) :
    SX Γ L (.Expr (.Call (.Attribute a m apos) es [] pos) epos) fun env s => (ev Γ.cf Γ.gs true ca env s).bind fun o s => (match o with
      | .loc n => (match s[n]? with
        | some (.obj x' fs) => if x' = x ∧ (fs.lookup m).isNone = true then (evL Γ.cf Γ.gs false cs env s).bind fun ds s => exC env (Γ.cf k (.loc n :: ds) s) (Γ.cf (RX + k) (.loc n :: ds) s) else .err
        | _ => .err)
      | _ => .err) := by
  obtain ⟨t1, p1, q1⟩ := h1
  obtain ⟨t2, p2, q2⟩ := h2
  obtain ⟨fa, fd, ps, c1, c2, c3, c4⟩ := Γok.ms x m k _ hm
  refine ⟨tDrop (tMeth (He.ga Γ.K x) m (spF Γ.K Γ.cf k) [] L.xk t1 t2), fun X g => ?_, fun E0 σ H env st S φ Dn F f => ?_⟩
  · have F : FnOk X.prog X.w X.K X.mg X.base (L2.CX X.prog X.w) Γ.k fa fd ps (spF Γ.K Γ.cf k) := by rw [g.prog, g.w, g.K, g.mg, g.base]; exact c4
    have pa := p2 X g.toGood
    have hc : Cls X.K (He.ga Γ.K x) := by rw [g.K]; exact c1
    have hme : Meth X.K (He.ga Γ.K x) m fa := by rw [g.K]; exact c2
    have hb : Binds X.K fd ps [] := by rw [g.K]; exact c3
    have po := p1 X g.toGood
    have hx : Passes (L2.CX X.prog X.w) X L.xk := passes_call g.tk (fun _ _ _ _ h => h)
    have hf : methodCallForm es.length (backTo pos (starEach es X.env)) (backToKw pos (keywordEach [] X.env)) = true := by
      have h1 : (backTo pos (starEach es X.env)).all (fun x => !x.1) = true := by
        have := star_plain (e := a) (es := es) (env := X.env) (pos := pos) hst
        rw [List.all_eq_not_any_not]
        simpa using this
      unfold methodCallForm
      rw [h1]
      simp only [Bool.true_and]
      show (true && decide (es.length + 0 < 30)) = true
      simp; omega
    refine ps_expr ?_ (noSwap rfl _ _ _)
    cases a with
    | Name id ip =>
      cases es with
      | nil => exact absurd rfl hne
      | cons y ys =>
        exact pe_meth po hc hme F (g.room.mono (Nat.le_succ _)) hb .nil hx pa (hst y List.mem_cons_self _ _) (star_plain (e := y) fun z hz => hst z (List.mem_cons_of_mem _ hz)) (mth_form hl hf)
    | _ => cases hn
  · obtain ⟨d, s1, e1, f1⟩ := f.bind
    refine SE.use q1 F.ei F.si e1 fun v H1 S1 φ1 x1 E1 I1 r1 => ?_
    cases d with
    | loc n =>
      obtain ⟨ad, rfl, hφ⟩ := r1.locv
      simp only at f1
      split at f1
      · rename_i x' fs hs
        split at f1
        · rename_i hx
          obtain ⟨rfl, hno⟩ := hx
          obtain ⟨dx, us, g1, g2, g3, g4, g5⟩ := I1.obj n ad (.obj x' fs) hφ hs
          obtain ⟨ds, s2, e2, f2⟩ := f1.bind
          refine ⟨ad, dx, us, rfl, g1, flds_none g2 (by simpa using hno), ?_⟩
          refine q2 σ H1 env s1 S1 φ1 _ E1 I1 ?_
          rw [e2]
          intro vs H2 S2 φ2 x2 I2 r2
          rw [List.append_nil]
          refine ⟨S2, φ2, s2, .loc n :: ds, I2, .cons (.loc ?_) (pd_rep r2), ?_⟩
          · obtain ⟨ψ, eψ, _⟩ := x2.phi
            rw [eψ, List.getElem?_append_left (List.getElem?_eq_some_iff.mp hφ).1]; exact hφ
          · cases e3 : Γ.cf k (.loc n :: ds) s2 with
            | err =>
              rw [e3] at f2
              obtain ⟨y, d, s4, e4, f4⟩ := exC_err f2
              refine .inr ⟨rfl, ?_⟩
              rw [e4]
              exact fun H' S' φ' q v x3 I' hq r' => f4 H' S' φ' q v (F.ent.trans ((x1.trans x2).trans x3)) I' hq r'
            | ok d s3 =>
              rw [e3] at f2
              refine .inl fun v H' S' φ' x3 I' r' => ?_
              exact f2 σ H' S' φ' (((x1.trans x2).trans x3).kp F.si) (F.go ((x1.trans x2).trans x3) I')
        · exact False.elim f1
      · exact False.elim f1
    | _ => exact False.elim f1
/-- raise C(e) -/
theorem sx_raise (Γok : CtxOk Γ) {x : Str} {c : Ex} {p pos rpos : Pos} (hx : x ∈ Γ.m.xs) (hg : glB L.sc x = true) (hk : okN x = true) (hst : ∀ env r, starEach (e :: r) env = (false, eval e env) :: starEach r env) (h1 : SE Γ L false e (ev Γ.cf Γ.gs false c)) :
    SX Γ L (.Raise (some (.Call (.Name x p) [e] [] pos)) none rpos) fun env s => (ev Γ.cf Γ.gs false c env s).bind fun d s => (match d with
      | .int i => if 0 ≤ i ∧ i ≤ 1000000000000 then .ok (.rs x (.int i)) s else .err
      | _ => .err) := by
  obtain ⟨t1, p1, q1⟩ := h1
  obtain ⟨xg, xo, ⟨fI, fd, m1, m2, m3, m4⟩, xe⟩ := Γok.xs x hx
  obtain ⟨n1, n2, n3⟩ := okN_of hk
  refine ⟨fun _ σ H => tMkO (He.ga Γ.K x) (spX Γ.K (He.ga Γ.K x)) [] (tCons t1 tNil) σ H fun cls d H' => L.xk cls d H', fun X g => ?_, fun E0 σ H env st S φ Dn F f => ?_⟩
  · have F : FnOk X.prog X.w X.K X.mg X.base (L2.CX X.prog X.w) 1 fI fd ["self", "step"] (spX Γ.K (He.ga Γ.K x)) := by rw [g.prog, g.w, g.K, g.mg, g.base]; exact m3
    have hr : Room (1 + 1) X.A := g.room.mono (by have := Γok.kk; omega)
    exact ps_raise g.calm g.tk (pmk_oex (by rw [g.K]; exact xo) (by rw [g.K]; exact m1) (by rw [g.K]; exact m2) F hr (by rw [g.K]; exact m4) .nil passL (g.gl hg) (by rw [g.mg]; exact xg) (pa_cons (p1 X g.toGood) pa_nil (hst _ _)) n1 (hst _ _) rfl)
  · obtain ⟨d, s1, e1, f1⟩ := f.bind
    refine SE.use q1 F.ei F.si e1 fun v H1 S1 φ1 x1 E1 I1 r1 => ?_
    cases d with
    | int i =>
      obtain rfl := r1.rd0.int
      simp only at f1
      split at f1
      · rename_i hi
        refine ⟨by show 1 ≤ 1000; decide, fun ad had => ⟨ad, i, rfl, hi, upd_same, fun dx h1 h2 => ?_⟩⟩
        have hd : H1 dx = none := by rw [upd_ne h2] at h1; exact h1
        refine ⟨rfl, dx, [("step", .int i)], upd_same, by rw [upd_ne h2, upd_same], hd, ?_⟩
        have eq : upd (del (upd (upd (upd H1 ad (exo ad (He.ga Γ.K x) none)) dx (exd dx [("step", .int i)])) ad (exo ad (He.ga Γ.K x) (some dx))) ad) dx (.xd [("step", .int i)]) = upd H1 dx (.xd [("step", V.int i)]) := by
          funext b
          by_cases c1 : b = dx
          · rw [c1, upd_same, upd_same]
          · rw [upd_ne c1, upd_ne c1]
            by_cases c2 : b = ad
            · rw [c2, del_same, had]
            · rw [del_ne c2, upd_ne c2, upd_ne c1, upd_ne c2]
        rw [eq]
        exact f1 (upd H1 dx (.xd [("step", .int i)])) S1 φ1 dx (.int i) ((F.ent.trans x1).trans (Stp.alloc0 hd)) (I1.alloc0 hd) upd_same (.int i)
      · exact False.elim f1
    | _ => exact False.elim f1
/-- try: return f(..) except C: return None -/
theorem sx_tryR (Γok : CtxOk Γ) {fi : Nat} {x y : Str} {cs : Exs} {es : List Expr} {p pos rp xp hp tp : Pos} {suite : Stmt} (hS : ∀ X : Cx, PS X suite tRetN) (hx : x ∈ Γ.m.xs) (hgx : glB L.sc x = true) (hkx : okN x = true)
    (hne : es ≠ []) (hf : Γ.m.fs[fi]? = some (y, es.length)) (hg : glB L.sc y = true) (hk : okN y = true)
    (hst : ∀ y ∈ es, ∀ env r, starEach (y :: r) env = (false, eval y env) :: starEach r env) (h : SA Γ L es cs Γ.cf Γ.gs) :
    SX Γ L (.Try [.Return (some (.Call (.Name y p) es [] pos)) rp] [.ExceptHandler (some (.Name x xp)) none [suite] hp] [] [] tp) fun env s => if borrows env cs = true then .err else (evL Γ.cf Γ.gs true cs env s).bind fun ds s => tryC x (Γ.cf fi ds s) (Γ.cf (RX + fi) ds s) := by
  obtain ⟨t, p1, q1⟩ := h
  obtain ⟨fa, fd, ps, h1, h2, h3, h4⟩ := Γok.fn fi y _ hf
  obtain ⟨n1, n2, n3⟩ := okN_of hk
  obtain ⟨m1, m2, m3⟩ := okN_of hkx
  obtain ⟨xg, xo, _, xe⟩ := Γok.xs x hx
  refine ⟨fun D σ H => tRet (tCallS (spF Γ.K Γ.cf fi) (WE (wOnly Γ.K (.ref (He.ga Γ.K x)) (fun _ _ _ => tRetN) (fun c d _ H => L.xk c d H) D)) t) D σ H, fun X g => ?_, fun E0 σ H env st S φ Dn F f => ?_⟩
  · have gg := g.toGood
    have ht : PS X (.Try [.Return (some (.Call (.Name y p) es [] pos)) rp] [.ExceptHandler (some (.Name x xp)) none [suite] hp] [] [] tp) (fun D σ H => (fun W => tRet (tCallS (spF Γ.K Γ.cf fi) (WE W) t)) (wOnly X.K (.ref (He.ga Γ.K x)) (fun _ _ _ => tRetN) (fun c d _ H => L.xk c d H) D) D σ H) := by
      refine ps_try_only (tb := fun W => tRet (tCallS (spF Γ.K Γ.cf fi) (WE W) t)) (ts := fun _ _ _ => tRetN) (Wout := fun c d _ H => L.xk c d H) g.stk g.frm ⟨g.gl hgx, m1, .inl (by rw [g.mg]; exact xg)⟩ g.tk (fun W pn xe tk own => ?_) (fun a oe cls d pn _ _ => pss_one (hS _))
      have g2 : Good Γ L (X.tr pn xe) := ⟨gg.prog, gg.w, gg.K, gg.mg, gg.base, gg.N, gg.calm, gg.room, gg.sc, gg.fn⟩
      have F : FnOk (X.tr pn xe).prog (X.tr pn xe).w (X.tr pn xe).K (X.tr pn xe).mg (X.tr pn xe).base (L2.CX (X.tr pn xe).prog (X.tr pn xe).w) Γ.k fa fd ps (spF Γ.K Γ.cf fi) := by rw [g2.prog, g2.w, g2.K, g2.mg, g2.base]; exact h4
      refine pss_one (ps_ret ?_)
      have pa := p1 _ g2
      cases es with
      | nil => exact absurd rfl hne
      | cons z zs => exact pe_callS F (g2.room.mono (Nat.le_succ _)) (g2.gl hg) (by rw [g2.mg]; exact h1) (by rw [g2.K]; exact h2) (by rw [g2.K]; exact h3) (fun σ => passAt tk σ) pa n1 (hst z List.mem_cons_self _ _) (star_plain (e := z) fun z hz => hst z (List.mem_cons_of_mem _ hz))
    rw [gg.K] at ht
    exact ht
  · dsimp only at f
    split at f
    · exact False.elim f
    · rename_i hb
      obtain ⟨ds, s1, e1, f1⟩ := f.bind
      refine q1 σ H env st S φ _ F.ei F.si ?_
      rw [e1]
      intro vs H1 S1 φ1 x1 I1 r1 w1
      refine ⟨S1, φ1, s1, ds, I1, w1 (by simpa using hb), ?_⟩
      cases e3 : Γ.cf fi ds s1 with
      | err =>
        rw [e3] at f1
        obtain ⟨d, s4, e4, f4⟩ := tryC_err f1
        refine .inr ⟨rfl, ?_⟩
        rw [e4]
        exact fun H' S' φ' q v x3 I' hq r' => ⟨true, xe, fun _ a ha => f4 .non H' S' φ' (F.ent.trans (x1.trans x3)) I' .non, fun z => by cases z⟩
      | ok d s3 =>
        rw [e3] at f1
        exact .inl fun v H' S' φ' x3 I' r' => f1 v H' S' φ' (F.ent.trans (x1.trans x3)) I' r'.val
/-- a[k] = e, a a list of the store -/
theorem sx_setE {y : Expr} {c ca ck : Ex} {sp pos : Pos} {cf gs} (hl : isLcE e = false)
    (hy : ∀ env v, assign (.Subscript a y sp) env v = (do
      let ov ← holding [v] (eval a env)
      let iv ← holding [v, ov] (eval y env)
      standAt sp
      holding [v, ov, iv] (setItem ov iv v)
      release [v, ov, iv] []))
    (hE : SE Γ L false e (ev cf gs false c)) (hA : SE Γ L true a (ev cf gs true ca)) (hK : SE Γ L true y (ev cf gs true ck)) :
    SX Γ L (.Assign [.Subscript a y sp] e pos) fun env s => (ev cf gs false c env s).bind fun d s => (ev cf gs true ca env s).bind fun o s => (ev cf gs true ck env s).bind fun x s => (match o, x with
      | .loc n, .int i => (match s[n]? with
        | some (.lst ds) => (match L2.ixN ds.length i with
          | some j => .ok (.nx env) (s.set n (.lst (ds.set j d)))
          | none => .err)
        | _ => .err)
      | _, _ => .err) := by
  obtain ⟨t, p1, q1⟩ := hE
  obtain ⟨t2, p2, q2⟩ := hA
  obtain ⟨t3, p3, q3⟩ := hK
  refine ⟨tAsg t (gSub t2 t3 rSetL), fun X g => ps_asg (p1 X g.toGood) (pg_sub (p2 X g.toGood) (p3 X g.toGood) set_list (hy _)) (noSwapS hl _ _ _) rfl rfl, fun E0 σ H env st S φ Dn F f => ?_⟩
  obtain ⟨d, s1, e1, f1⟩ := f.bind
  obtain ⟨o, s2, e2, f2⟩ := f1.bind
  obtain ⟨x, s3, e3, f3⟩ := f2.bind
  refine SE.use q1 F.ei F.si e1 fun v H1 S1 φ1 x1 E1 I1 r1 => ?_
  refine SE.use q2 E1 I1 e2 fun w H2 S2 φ2 x2 E2 I2 r2 => ?_
  refine SE.use q3 E2 I2 e3 fun u H3 S3 φ3 x3 E3 I3 r3 => ?_
  split at f3
  · rename_i n i
    obtain ⟨ad, rfl, hφ⟩ := r2.locv
    obtain rfl := r3.rd0.int
    have hφ3 : φ3[n]? = some ad := by
      obtain ⟨ψ, eψ, _⟩ := x3.phi
      rw [eψ, List.getElem?_append_left (List.getElem?_eq_some_iff.mp hφ).1]; exact hφ
    split at f3
    · rename_i ds hs
      obtain ⟨vs, hv, rv⟩ := I3.obj n ad (.lst ds) hφ3 hs
      split at f3
      · rename_i j hj
        have hm : ad ∈ φ3 := List.mem_of_getElem? hφ3
        have y := Stp.chg (S := S3) (o := .lst (vs.set j v)) (H := H3) hm
        have r' : RepL Γ.K S3 φ3 H3 (vs.set j v) (ds.set j d) := rv.set j ((r1.val.mono x2 I1).mono x3 I2)
        have z := ((x1.trans x2).trans x3).trans y
        have I4 := I3.chg hφ3 r'
        exact ⟨ad, vs, i, j, rfl, rfl, hv, by rw [rv.length]; exact hj, f3 σ _ S3 φ3 (z.kp F.si) (F.go z I4)⟩
      · exact False.elim f3
    · exact False.elim f3
  · exact False.elim f3
end
end PV
set_option maxRecDepth 100000
set_option maxHeartbeats 4000000
namespace PV
open PySem PySem.Spec PyProof.Rows L2
section
variable {Γ : Ctx} {L : LC} {e : Expr}
/-! ### what matches -/
section
variable (m : MC)
def mP (sc : Scope) : Pxs → List Expr → Bool
  | .nil, es => match es with
    | [] => true
    | _ => false
  | .v c ps, es => match es with
    | e :: es => mE m c sc e && mP sc ps es
    | _ => false
  | .o f ps, es => match es with
    | e :: es => mF m f sc e && mP sc ps es
    | _ => false
def isRetN : Stmt → Bool
  | .Return none _ => true
  | .Return (some (.Constant .none _ _)) _ => true
  | _ => false
def mtN (fb : Str → Bool) (sc : Scope) (i : Nat) (x : Str) : Bool := decide (m.N[i]? = some x) && locB sc x && (fb x || decide (sc.names.lookup x = some .local))
mutual
def mS (fb : Str → Bool) (sc : Scope) : Sm → Stmt → Bool
  | .asg tg c, s => match s with
    | .Assign [t] v _ => if isLcE v = true then (match tg, c, t with
      | .nm i, .fz f, .Name x _ => mtN m fb sc i x && mF m f sc v
      | _, _, _ => false) else mE m c sc v && mT m fb sc tg t && (match t with
        | .Name _ _ => true
        | .Tuple _ _ _ => !isTupE v
        | _ => false)
    | _ => false
  | .own i f, s => match s with
    | .Assign [.Name x _] v _ => mtN m fb sc i x && mF m f sc v
    | _ => false
  | .par is ps, s => match s with
    | .Assign [.Tuple ts _ _] (.Tuple es _ _) _ => nmsB m fb sc is ts && decide (is.length ≤ 1000) && (unB sc ts es || swB sc is ts es) && mP m sc ps es
    | _ => false
  | .ite c a b, s => match s with
    | .If t x y _ => mE m c sc t && tstB c && mSs fb sc a x && mSs fb sc b y
    | _ => false
  | .for tg it b, s => match s with
    | .For t i x [] _ => mI m it sc t i && mT m fb sc tg t && mSs fb sc b x
    | _ => false
  | .whl c b, s => match s with
    | .While t x [] _ => mE m c sc t && tstB c && mSs fb sc b x
    | _ => false
  | .ret c, s => match s with
    | .Return (some e) _ => mE m c sc e
    | _ => false
  | .retN, s => match s with
    | .Return none _ => true
    | _ => false
  | .pass, s => match s with
    | .Pass _ => true
    | _ => false
  | .brk, s => match s with
    | .Break _ => true
    | _ => false
  | .cnt, s => match s with
    | .Continue _ => true
    | _ => false
  | .ex c, s => match s with
    | .Expr e _ => mE m c sc e && !isLcE e
    | _ => false
  | .app i c, s => match s with
    | .Expr (.Call (.Attribute (.Name x _) a apos) [y] [] cpos) _ => decide (m.N[i]? = some x) && visB sc x && okN x && decide (a = ("append" : Str)) && (apos.endLine == cpos.line) && mE m c sc y
    | _ => false
  | .ext i c, s => match s with
    | .Expr (.Call (.Attribute (.Name x _) a apos) [y] [] cpos) _ => decide (m.N[i]? = some x) && visB sc x && okN x && decide (a = ("extend" : Str)) && (apos.endLine == cpos.line) && mE m c sc y
    | _ => false
  | .setV i k c, s => match s with
    | .Assign [.Subscript (.Name x _) y _] v _ => decide (m.N[i]? = some x) && visB sc x && okN x && !isLcE v && mE m k sc y && mE m c sc v
    | _ => false
  | .augV i k op c, s => match s with
    | .AugAssign (.Subscript (.Name x _) y _) p v _ => decide (op.py = p) && augB op && decide (m.N[i]? = some x) && visB sc x && okN x && mE m k sc y && mE m c sc v
    | _ => false
  | .pop _ _ _, _ => true
  | .aug i op c, s => match s with
    | .AugAssign (.Name x _) p v _ => decide (op.py = p) && augB op && mtN m fb sc i x && mE m c sc v
    | _ => false
  | .setF i x fs cs, s => match s with
    | .Assign [.Tuple ts _ _] (.Tuple es _ _) _ => fldsB m sc i fs ts && unB sc ts es && decide (fs.length ≤ 1000) && fs.all (fun f => decide ((x, f) ∈ m.na)) && mEs m cs sc es
    | .Assign [.Attribute (.Name y _) g _] v _ => !isLcE v && (match fs, cs with
      | [f], .c ce .nil => decide (f = g) && decide (m.N[i]? = some y) && visB sc y && okN y && decide ((x, f) ∈ m.na) && mE m ce sc v
      | _, _ => false)
    | _ => false
  | .never, _ => true
  | .setE a k c, s => match s with
    | .Assign [.Subscript x y _] v _ => !isLcE v && mE m c sc v && mE m a sc x && mE m k sc y
    | _ => false
  | .raise x c, s => match s with
    | .Raise (some (.Call (.Name y _) [v] [] _)) none _ => decide (x = y) && decide (x ∈ m.xs) && glB sc x && okN x && mE m c sc v
    | _ => false
  | .exM x a f k es, s => match s with
    | .Expr (.Call (.Attribute o g apos) xs [] cpos) _ => decide (f = g) && decide ((x, f, k, xs.length) ∈ m.ms) && isNameE o && (apos.endLine == cpos.line) && decide (xs.length < 30) && mE m a sc o && mEs m es sc xs && !xs.isEmpty
    | _ => false
  | .tryR x f es, s => match s with
    | .Try [.Return (some (.Call (.Name y _) xs [] _)) _] [.ExceptHandler (some (.Name z _)) none [r] _] [] [] _ => decide (x = z) && decide (x ∈ m.xs) && glB sc x && okN x && decide (m.fs[f]? = some (y, xs.length)) && glB sc y && okN y && mEs m es sc xs && !xs.isEmpty && isRetN r
    | _ => false
def mSs (fb : Str → Bool) (sc : Scope) : Sms → List Stmt → Bool
  | .nil, ss => match ss with
    | [] => true
    | _ => false
  | .c c cs, ss => match ss with
    | s :: ss => mS fb sc c s && mSs fb sc cs ss
    | _ => false
end
end
theorem starE {m : MC} {c : Ex} {sc : Scope} {e : Expr} {es : List Expr} (h : mE m c sc e = true) (env : PySem.Env) : starEach (e :: es) env = (false, eval e env) :: starEach es env := star_of h
theorem starF {m : MC} {c : Fx} {sc : Scope} {e : Expr} {es : List Expr} (h : mF m c sc e = true) (env : PySem.Env) : starEach (e :: es) env = (false, eval e env) :: starEach es env :=
  starE (c := .fz c) (by unfold mE; exact h) env
theorem sP (Γok : CtxOk Γ) : ∀ {ps : Pxs} {es : List Expr}, mP Γ.m L.sc ps es = true → SP Γ L es (evP Γ.cf Γ.gs ps)
  | .nil, es, h => by
    unfold mP at h
    split at h
    · exact sp_nil
    · cases h
  | .v c ps, es, h => by
    unfold mP at h
    split at h
    · rw [Bool.and_eq_true] at h
      exact sp_v (starE h.1) (sE Γok c L false _ h.1) (sP Γok h.2)
    · cases h
  | .o f ps, es, h => by
    unfold mP at h
    split at h
    · rw [Bool.and_eq_true] at h
      exact sp_o (starF h.1) (sF Γok f L _ h.1) (sP Γok h.2)
    · cases h
theorem SX.of {s : Stmt} {m m' : Env → Sto → Out Flow} (h : SX Γ L s m) (e : ∀ env s, m' env s = m env s) : SX Γ L s m' := by
  have : m' = m := by funext env s; exact e env s
  rw [this]; exact h
theorem mtN_of {i : Nat} {x : Str} (h : mtN Γ.m L.fb L.sc i x = true) : Γ.m.N[i]? = some x ∧ locB L.sc x = true ∧ (L.fb x = true ∨ L.sc.names.lookup x = some .local) := by
  unfold mtN at h
  simp only [Bool.and_eq_true, Bool.or_eq_true, decide_eq_true_eq] at h
  exact ⟨h.1.1, h.1.2, h.2⟩
theorem asg_sub {m : MC} {c : Ex} {sc : Scope} {y : Expr} {x : Str} {p sp : Pos} (h : mE m c sc y = true) : ∀ env v, assign (.Subscript (.Name x p) y sp) env v = (do
      let ov ← holding [v] (eval (.Name x p) env)
      let iv ← holding [v, ov] (eval y env)
      standAt sp
      holding [v, ov, iv] (setItem ov iv v)
      release [v, ov, iv] []) := fun env v => by
  cases y with
  | Slice l u s p =>
    exfalso
    cases c with
    | fz f => unfold mE at h; cases f <;> simp [mF] at h
    | alloc f => unfold mE at h; cases f <;> simp [mF] at h
    | _ => simp [mE] at h
  | _ => rfl
theorem aug_sub {m : MC} {c : Ex} {sc : Scope} {y : Expr} (h : mE m c sc y = true) : ∀ ov iv new, augStore y ov iv new = (do holding [new, ov, iv] (setItem ov iv new); release [new, ov, iv] []; pure .next) := fun ov iv new => by
  cases y with
  | Slice l u s p =>
    exfalso
    cases c with
    | fz f => unfold mE at h; cases f <;> simp [mF] at h
    | alloc f => unfold mE at h; cases f <;> simp [mF] at h
    | _ => simp [mE] at h
  | _ => rfl
theorem asg_subE {m : MC} {c : Ex} {sc : Scope} {y x : Expr} {sp : Pos} (h : mE m c sc y = true) : ∀ env v, assign (.Subscript x y sp) env v = (do
      let ov ← holding [v] (eval x env)
      let iv ← holding [v, ov] (eval y env)
      standAt sp
      holding [v, ov, iv] (setItem ov iv v)
      release [v, ov, iv] []) := fun env v => by
  cases y with
  | Slice l u s p =>
    exfalso
    cases c with
    | fz f => unfold mE at h; cases f <;> simp [mF] at h
    | alloc f => unfold mE at h; cases f <;> simp [mF] at h
    | _ => simp [mE] at h
  | _ => rfl
theorem retN_of {r : Stmt} (h : isRetN r = true) : ∀ X : Cx, PS X r tRetN := by
  unfold isRetN at h
  split at h
  · exact fun X => ps_retN
  · exact fun X => ps_ret pe_non
  · cases h
mutual
theorem sS (Γok : CtxOk Γ) : ∀ (c : Sm) (L : LC) (s : Stmt), mS Γ.m L.fb L.sc c s = true → SX Γ L s (exec Γ.cf Γ.gs c)
  | .asg tg c, L, s, h => by
    unfold mS at h
    split at h
    · rename_i t v pos
      split at h
      · split at h
        · rename_i i f x px
          rw [Bool.and_eq_true] at h
          obtain ⟨h1, h2, h3⟩ := mtN_of h.1
          refine (sx_fz (sfa_of Γok h1 h2 h3 h.2)).of fun env s => ?_
          unfold exec ev
          cases evF Γ.cf Γ.gs f env s <;> rfl
        · cases h
      · rename_i hl
        simp only [Bool.and_eq_true] at h
        have hl : isLcE v = false := by simpa using hl
        have hG := sg_of Γok h.1.2
        have hE := sE Γok c L false v h.1.1
        have h2 := h.2
        refine SX.of ?_ fun env s => by unfold exec; rfl
        split at h2
        · exact sx_asg hG hE (asg_name Γok hl)
        · exact sx_asg hG hE (asg_tup (by simpa using h2) hl)
        · cases h2
    · cases h
  | .own i f, L, s, h => by
    unfold mS at h
    split at h
    · rw [Bool.and_eq_true] at h
      obtain ⟨h1, h2, h3⟩ := mtN_of h.1
      exact (sx_own (sfa_of Γok h1 h2 h3 h.2)).of fun env s => by unfold exec; rfl
    · cases h
  | .par is ps, L, s, h => by
    unfold mS at h
    split at h
    · simp only [Bool.and_eq_true, decide_eq_true_eq] at h
      exact (sx_par Γok h.1.1.1 h.1.1.2 h.1.2 (sP Γok h.2)).of fun env s => by unfold exec; rfl
    · cases h
  | .ite c a b, L, s, h => by
    unfold mS at h
    split at h
    · simp only [Bool.and_eq_true] at h
      exact (sx_ite (sT Γok c L _ h.1.1.1 h.1.1.2) (sSs Γok a L _ h.1.2) (sSs Γok b L _ h.2)).of fun env s => by unfold exec; rfl
    · cases h
  | .for tg it b, L, s, h => by
    unfold mS at h
    split at h
    · simp only [Bool.and_eq_true] at h
      exact (sx_for (sI Γok it L false _ _ h.1.1) (sg_of Γok h.1.2) (sSs Γok b L _ h.2) (folded_of h.1.1)).of fun env s => by unfold exec; rfl
    · cases h
  | .whl c b, L, s, h => by
    unfold mS at h
    split at h
    · simp only [Bool.and_eq_true] at h
      exact (sx_while (sT Γok c L _ h.1.1 h.1.2) (sSs Γok b L _ h.2)).of fun env s => by unfold exec; rfl
    · cases h
  | .ret c, L, s, h => by
    unfold mS at h
    split at h
    · exact (sx_ret (sE Γok c L false _ h)).of fun env s => by unfold exec; rfl
    · cases h
  | .retN, L, s, h => by
    unfold mS at h
    split at h
    · exact sx_retN.of fun env s => by unfold exec; rfl
    · cases h
  | .pass, L, s, h => by
    unfold mS at h
    split at h
    · exact sx_pass.of fun env s => by unfold exec; rfl
    · cases h
  | .brk, L, s, h => by
    unfold mS at h
    split at h
    · exact sx_brk.of fun env s => by unfold exec; rfl
    · cases h
  | .cnt, L, s, h => by
    unfold mS at h
    split at h
    · exact sx_cnt.of fun env s => by unfold exec; rfl
    · cases h
  | .ex c, L, s, h => by
    unfold mS at h
    split at h
    · rw [Bool.and_eq_true] at h
      exact (sx_ex (by simpa using h.2) (sE Γok c L false _ h.1)).of fun env s => by unfold exec; rfl
    · cases h
  | .app i c, L, s, h => by
    unfold mS at h
    split at h
    · simp only [Bool.and_eq_true, decide_eq_true_eq] at h
      obtain ⟨⟨⟨⟨⟨h1, h2⟩, h3⟩, h4⟩, h5⟩, h6⟩ := h
      subst h4
      exact (sx_app h1 h2 h3 h5 (fun env r => star_of h6) (sE Γok c L false _ h6)).of fun env s => by unfold exec; rfl
    · cases h
  | .ext i c, L, s, h => by
    unfold mS at h
    split at h
    · simp only [Bool.and_eq_true, decide_eq_true_eq] at h
      obtain ⟨⟨⟨⟨⟨h1, h2⟩, h3⟩, h4⟩, h5⟩, h6⟩ := h
      subst h4
      exact (sx_ext h1 h2 h3 h5 (fun env r => star_of h6) (sE Γok c L true _ h6)).of fun env s => by unfold exec; rfl
    · cases h
  | .setV i k c, L, s, h => by
    unfold mS at h
    split at h
    · simp only [Bool.and_eq_true, decide_eq_true_eq] at h
      obtain ⟨⟨⟨⟨⟨h1, h2⟩, h3⟩, h4⟩, h5⟩, h6⟩ := h
      exact (sx_setV h1 h2 h3 (by simpa using h4) (asg_sub h5) (sE Γok c L false _ h6) (sE Γok k L true _ h5)).of fun env s => by unfold exec; rfl
    · cases h
  | .augV i k op c, L, s, h => by
    unfold mS at h
    split at h
    · simp only [Bool.and_eq_true, decide_eq_true_eq] at h
      obtain ⟨⟨⟨⟨⟨⟨g1, g2⟩, g3⟩, g4⟩, g5⟩, g6⟩, g7⟩ := h
      subst g1
      exact (sx_augV g3 g4 g5 g2 (aug_sub g6) (sE Γok k L true _ g6) (sE Γok c L true _ g7)).of fun env s => by (unfold exec) <;> rfl
    · cases h
  | .pop _ _ _, L, s, h => sx_never fun env s => by unfold exec; rfl
  | .aug i op c, L, s, h => by
    unfold mS at h
    split at h
    · simp only [Bool.and_eq_true, decide_eq_true_eq] at h
      obtain ⟨⟨⟨g1, g2⟩, g3⟩, g4⟩ := h
      subst g1
      obtain ⟨h1, h2, h3⟩ := mtN_of g3
      exact (sx_aug Γok h1 h2 h3 g2 (sE Γok c L true _ g4)).of fun env s => by (unfold exec) <;> rfl
    · cases h
  | .setF i x fs cs, L, s, h => by
    unfold mS at h
    split at h
    · simp only [Bool.and_eq_true, decide_eq_true_eq] at h
      obtain ⟨⟨⟨⟨h1, h2⟩, h3⟩, h4⟩, h5⟩ := h
      exact (sx_setF Γok h1 h2 h3 (fun f hf => Γok.na x f (by simpa using List.all_eq_true.mp h4 f hf)) (sEs Γok cs L false _ h5)).of fun env s => by (unfold exec) <;> rfl
    · rw [Bool.and_eq_true] at h
      obtain ⟨h0, h⟩ := h
      split at h
      · simp only [Bool.and_eq_true, decide_eq_true_eq] at h
        obtain ⟨⟨⟨⟨⟨h1, h2⟩, h3⟩, h4⟩, h5⟩, h6⟩ := h
        subst h1
        exact (sx_setF1 Γok h2 h3 h4 (by simpa using h0) (Γok.na x _ h5) (sE Γok _ L false _ h6)).of fun env s => by (unfold exec) <;> rfl
      · cases h
    · cases h
  | .never, L, s, h => sx_never fun env s => by unfold exec; rfl
  | .setE a k c, L, s, h => by
    unfold mS at h
    split at h
    · simp only [Bool.and_eq_true] at h
      obtain ⟨⟨⟨h1, h2⟩, h3⟩, h4⟩ := h
      exact (sx_setE (by simpa using h1) (asg_subE h4) (sE Γok c L false _ h2) (sE Γok a L true _ h3) (sE Γok k L true _ h4)).of fun env s => by (unfold exec) <;> rfl
    · cases h
  | .raise x c, L, s, h => by
    unfold mS at h
    split at h
    · simp only [Bool.and_eq_true, decide_eq_true_eq] at h
      obtain ⟨⟨⟨⟨h1, h2⟩, h3⟩, h4⟩, h5⟩ := h
      subst h1
      exact (sx_raise Γok h2 h3 h4 (fun env r => star_of h5) (sE Γok c L false _ h5)).of fun env s => by (unfold exec) <;> rfl
    · cases h
  | .exM x a f k es, L, s, h => by
    unfold mS at h
    split at h
    · rename_i ob g apos xs cpos epos
      simp only [Bool.and_eq_true, decide_eq_true_eq] at h
      obtain ⟨⟨⟨⟨⟨⟨⟨h1, h2⟩, h3⟩, h4⟩, h5⟩, h6⟩, h7⟩, h8⟩ := h
      subst h1
      exact (sx_exM Γok h3 h2 h4 h5 (fun z => by rw [z] at h8; cases h8) (stars_of h7) (sE Γok a L true _ h6) (sEs Γok es L false _ h7)).of fun env s => by (unfold exec) <;> rfl
    · cases h
  | .tryR x f es, L, s, h => by
    unfold mS at h
    split at h
    · simp only [Bool.and_eq_true, decide_eq_true_eq] at h
      obtain ⟨⟨⟨⟨⟨⟨⟨⟨⟨h1, h2⟩, h3⟩, h4⟩, h5⟩, h6⟩, h7⟩, h8⟩, h9⟩, h10⟩ := h
      subst h1
      exact (sx_tryR Γok (retN_of h10) h2 h3 h4 (fun z => by rw [z] at h9; cases h9) h5 h6 h7 (stars_of h8) (sAs Γok es L _ h8)).of fun env s => by (unfold exec) <;> rfl
    · cases h
theorem sSs (Γok : CtxOk Γ) : ∀ (c : Sms) (L : LC) (s : List Stmt), mSs Γ.m L.fb L.sc c s = true → SXs Γ L s (execs Γ.cf Γ.gs c)
  | .nil, L, s, h => by
    unfold mSs at h
    split at h
    · have e : execs Γ.cf Γ.gs .nil = fun env s => .ok (.nx env) s := by funext env s; unfold execs; rfl
      rw [e]; exact sxs_nil
    · cases h
  | .c c cs, L, s, h => by
    unfold mSs at h
    split at h
    · rw [Bool.and_eq_true] at h
      have e : execs Γ.cf Γ.gs (.c c cs) = fun env st => (exec Γ.cf Γ.gs c env st).bind fun fl s => match fl with
        | .nx env' => execs Γ.cf Γ.gs cs env' s
        | .ret d => .ok (.ret d) s
        | .bk env' => .ok (.bk env') s
        | .ct env' => .ok (.ct env') s
        | .rs x d => .ok (.rs x d) s := by
        funext env s
        (simp only [execs]) <;> rfl
      rw [e]; exact sxs_cons (sS Γok c L _ h.1) (sSs Γok cs L _ h.2)
    · cases h
end
end
end PV
set_option maxRecDepth 100000
set_option maxHeartbeats 4000000
/-! Every def keeps its promise, at every level. -/
namespace PV
open PySem PySem.Spec PyProof.Rows L2
structure PD where
  at_ : Str × Option Str
  name : Str
  qual : Str
  params : Arguments
  body : List Stmt
  scope : Scope
  fn : Fn
/-- what a program's defs may name: methods, classes made, no attributes -/
structure MX where
  ms : List (Str × Str × Nat × Nat) := []
  cl : List (Str × Nat × Nat) := []
  na : List (Str × Str) := []
  xs : List Str := []
def sigs (ds : List PD) : List (Str × Nat) := ds.map fun d => (d.name, d.fn.ps.length)
def fns (ds : List PD) : List Fn := ds.map PD.fn
def okD (sg : List (Str × Nat)) (gn fr : List Str) (mx : MX) (d : PD) : Bool := C8.scC d.fn.N d.fn.ps d.scope && mSs ⟨d.fn.N, sg, gn, fr, mx.ms, mx.cl, mx.na, mx.xs⟩ (fun _ => true) d.scope d.fn.body d.body
def BindOk (d : PD) : Prop := ∀ (kV doc pm : Value) (an : Option Addr) (cdv ct : Value) (us : List Value), us.length = d.fn.ps.length → bindArgs (PySem.W.fnOf d.name d.qual d.params d.body d.scope .none kV doc pm an cdv ct) ⟨us, []⟩ = pure (d.fn.ps.zip us)
/-- the first nf defs are the module's own, those behind them methods -/
structure ProgOk (P : Program) (w : World) (K : PySem.W.Frag) (mg : Str → Option Value) (base : Heap) (ds : List PD) (nf : Nat) (gs : List D) (gn fr : List Str) (mx : MX) : Prop where
  def_ : ∀ (i : Nat) d, ds[i]? = some d → ∃ fd, FunD K d.name d.qual d.params d.body d.scope [] [] (He.fAd K d.at_) fd
  glo : ∀ (i : Nat) d, i < nf → ds[i]? = some d → mg d.name = some (.ref (He.fAd K d.at_))
  bind : ∀ d ∈ ds, BindOk d
  ok : ∀ d ∈ ds, okD (sigs (ds.take nf)) gn fr mx d = true
  gl : ∀ (k : Nat) x d, gn[k]? = some x → gs[k]? = some d → ∃ v u, mg x = some u ∧ RelV v u ∧ Rep K (fun _ => False) [] (fun _ => none) v d
  fr : ∀ x ∈ fr, mg x = none
  ms : ∀ x f k n, (x, f, k, n) ∈ mx.ms → Cls K (He.ga K x) ∧ ∃ d, ds[k]? = some d ∧ Meth K (He.ga K x) f (He.fAd K d.at_)
  cl : ∀ x k n, (x, k, n) ∈ mx.cl → mg x = some (.ref (He.ga K x)) ∧ Cls K (He.ga K x) ∧ ∃ d, ds[k]? = some d ∧ Mk K (He.ga K x) (He.fAd K d.at_)
  na : ∀ x f, (x, f) ∈ mx.na → NoAttr K (He.ga K x) f
  xs : ∀ x ∈ mx.xs, XOk P w K mg base x
  few : ds.length ≤ 1000
section
variable {P : Program} {w : World} {K : PySem.W.Frag} {mg : Str → Option Value} {base : Heap} {ds : List PD} {nf : Nat} {gs : List D} {gn fr : List Str} {mx : MX}
theorem startE_get {n i : Nat} {es : List D} {x : SV} (h : (startE n es)[i]? = some (some x)) : ∃ d, x = .val d ∧ es[i]? = some d := by
  unfold startE at h
  by_cases hi : i < es.length
  · rw [List.getElem?_append_left (by simpa using hi), List.getElem?_map] at h
    cases e : es[i]? with
    | none => rw [e] at h; cases h
    | some d => rw [e] at h; cases h; exact ⟨d, rfl, rfl⟩
  · rw [List.getElem?_append_right (by simpa using Nat.le_of_not_lt hi), List.getElem?_replicate] at h
    split at h <;> cases h
theorem start_get {N : List Str} {i : Nat} {vs : List V} {v : V} (h : vs[i]? = some v) : (start N vs)[i]? = some (some v) := by
  unfold L2.start
  have hi : i < vs.length := (List.getElem?_eq_some_iff.mp h).1
  rw [List.getElem?_append_left (by simpa using hi), List.getElem?_map, h]
  rfl
theorem prog_ok (h : ProgOk P w K mg base ds nf gs gn fr mx) : ∀ (n i : Nat) (d : PD), ds[i]? = some d → ∀ a fd, FunD K d.name d.qual d.params d.body d.scope [] [] a fd → FnOk P w K mg base (L2.CX P w) (2 * n + 1) a fd d.fn.ps (spF K (callF (fns ds) gs n) i)
  | 0, i, d, hi, a, fd, F => ⟨fun vs H Q E ⟨_, _, _, _, _, _, f⟩ => f.elim False.elim fun q => False.elim q.2, fun _ _ _ _ _ _ _ _ _ _ _ _ _ ⟨_, _, _, _, _, _, f⟩ => f.elim False.elim fun q => False.elim q.2⟩
  | n + 1, i, d, hi, a, fd, F => by
    have hd : d ∈ ds := List.mem_of_getElem? hi
    have ok := h.ok d hd
    unfold okD at ok
    rw [Bool.and_eq_true] at ok
    have S := C8.fnScope_by ok.1
    have hf : (fns ds)[i]? = some d.fn := by unfold fns; rw [List.getElem?_map, hi]; rfl
    have call : ∀ es st, callF (fns ds) gs (n + 1) i es st = if es.length = d.fn.ps.length then retOf (execs (callF (fns ds) gs n) gs d.fn.body (startE d.fn.N.length es) st) else .err := fun es st => by
      show (match (fns ds)[i]? with
        | some f => if es.length = f.ps.length then retOf (execs (callF (fns ds) gs n) gs f.body (startE f.N.length es) st) else .err
        | none => if i < RX then .err else match (fns ds)[i - RX]? with
          | some f => if es.length = f.ps.length then excOf (execs (callF (fns ds) gs n) gs f.body (startE f.N.length es) st) else .err
          | none => .err) = _
      rw [hf]
    have hlt : i < ds.length := (List.getElem?_eq_some_iff.mp hi).1
    have callX : ∀ es st, callF (fns ds) gs (n + 1) (RX + i) es st = if es.length = d.fn.ps.length then excOf (execs (callF (fns ds) gs n) gs d.fn.body (startE d.fn.N.length es) st) else .err := fun es st => by
      have h0 : (fns ds)[RX + i]? = none := List.getElem?_eq_none (by unfold fns; rw [List.length_map]; have := h.few; unfold RX; omega)
      show (match (fns ds)[RX + i]? with
        | some f => if es.length = f.ps.length then retOf (execs (callF (fns ds) gs n) gs f.body (startE f.N.length es) st) else .err
        | none => if RX + i < RX then .err else match (fns ds)[RX + i - RX]? with
          | some f => if es.length = f.ps.length then excOf (execs (callF (fns ds) gs n) gs f.body (startE f.N.length es) st) else .err
          | none => .err) = _
      rw [h0]
      have h1 : RX + i - RX = i := by omega
      have h2 : ¬ RX + i < RX := by omega
      rw [h1]
      show (if RX + i < RX then Out.err else _) = _
      rw [if_neg h2, hf]
    refine FunD.ok (k := 2 * n + 1 + 1) F S (fun vs H Q E hs => ?_) fun cdv A outer s H vs Q E hr hs => ?_
    · obtain ⟨S0, φ, st, es, I, r, f⟩ := hs
      rw [call] at f
      by_cases hl : es.length = d.fn.ps.length
      · rw [r.length, hl]
      · rw [if_neg hl, callX, if_neg hl] at f; exact f.elim False.elim fun q => False.elim q.2
    · obtain ⟨S0, φ, st, es, I, r, f⟩ := hs
      rw [call] at f
      by_cases hl : es.length = d.fn.ps.length
      rotate_left
      · rw [if_neg hl, callX, if_neg hl] at f; exact f.elim False.elim fun q => False.elim q.2
      rw [if_pos hl, callX, if_pos hl] at f
      let Γ : Ctx := ⟨P, w, K, mg, base, 2 * n + 1, callF (fns ds) gs n, gs, ⟨d.fn.N, sigs (ds.take nf), gn, fr, mx.ms, mx.cl, mx.na, mx.xs⟩⟩
      have Γok : CtxOk Γ := by
        have use : ∀ (j : Nat) d2, ds[j]? = some d2 → ∃ fd2, Binds K fd2 d2.fn.ps [] ∧ PySem.W.keepIn K (.ref (He.fAd K d2.at_)) = true ∧ FnOk P w K mg base (L2.CX P w) (2 * n + 1) (He.fAd K d2.at_) fd2 d2.fn.ps (spF K (callF (fns ds) gs n) j) := fun j d2 e => by
          obtain ⟨fd2, F2⟩ := h.def_ j d2 e
          exact ⟨fd2, F2.bindsN (h.bind d2 (List.mem_of_getElem? e)), F2.kp, prog_ok h n j d2 e _ fd2 F2⟩
        refine ⟨Nat.le_add_left _ _, h.xs, S.nd, fun j x m hj => ?_, h.gl, h.fr, fun x f k m hm => ?_, fun x k m hm => ?_, h.na⟩
        · have hj' : ((ds.take nf).map fun d => (d.name, d.fn.ps.length))[j]? = some (x, m) := hj
          rw [List.getElem?_map, List.getElem?_take] at hj'
          by_cases hlt : j < nf
          · rw [if_pos hlt] at hj'
            cases e : ds[j]? with
            | none => rw [e] at hj'; cases hj'
            | some d2 =>
              rw [e] at hj'
              cases hj'
              obtain ⟨fd2, b2, k2, F2⟩ := use j d2 e
              exact ⟨_, fd2, d2.fn.ps, h.glo j d2 hlt e, k2, b2, F2⟩
          · rw [if_neg hlt] at hj'; cases hj'
        · obtain ⟨c, d2, e, me⟩ := h.ms x f k m hm
          obtain ⟨fd2, b2, k2, F2⟩ := use k d2 e
          exact ⟨_, fd2, d2.fn.ps, c, me, b2, F2⟩
        · obtain ⟨g, c, d2, e, mk⟩ := h.cl x k m hm
          obtain ⟨fd2, b2, k2, F2⟩ := use k d2 e
          exact ⟨g, c, _, fd2, d2.fn.ps, mk, b2, F2⟩
      obtain ⟨t, p, q⟩ := sSs Γok d.fn.body ⟨d.scope, fun _ => true, E⟩ d.body ok.2
      refine ⟨t, p _ ⟨⟨rfl, rfl, rfl, rfl, rfl, rfl, rfl, hr, rfl, rfl⟩, passes_of rfl, takes_of rfl rfl rfl rfl, rfl, rfl⟩, ?_⟩
      have hN : d.fn.ps.length ≤ d.fn.N.length := by have := congrArg List.length S.pre; rw [List.length_take] at this; omega
      have F0 : FI K ⟨S0, φ, H⟩ S0 φ H (start d.fn.N vs) (startE d.fn.N.length es) st := by
        refine ⟨⟨?_, fun j e hj => ?_, fun j e hj => ?_, fun j l e e' b hj _ _ _ => ?_⟩, I, .refl, fun j e b hj _ => ?_⟩
        · unfold L2.start startE; simp [r.length]
        · obtain ⟨e', q1, q2⟩ := startE_get hj
          cases q1
          obtain ⟨v, g1, g2⟩ := r.get q2
          exact ⟨v, start_get g1, g2⟩
        · obtain ⟨_, q1, _⟩ := startE_get hj; cases q1
        · obtain ⟨_, q1, _⟩ := startE_get hj; cases q1
        · obtain ⟨_, q1, _⟩ := startE_get hj; cases q1
      refine q ⟨S0, φ, H⟩ (start d.fn.N vs) H _ st S0 φ _ F0 ?_
      show FinX K E ⟨S0, φ, H⟩ S0 φ H _ (execs (callF (fns ds) gs n) gs d.fn.body (startE d.fn.N.length es) st)
      cases ex : execs (callF (fns ds) gs n) gs d.fn.body (startE d.fn.N.length es) st with
      | err => rw [ex] at f; exact f.elim False.elim fun q => False.elim q.2
      | ok fl s1 =>
        rw [ex] at f
        cases fl with
        | nx env' => exact f.elim (fun f σ' H' S' φ' k F' => f .non H' S' φ' F'.ent F'.si (.inl .non)) fun q => False.elim q.2
        | ret e => exact f.elim (fun f v H' S' φ' x I' r' => f v H' S' φ' x I' (.inl r')) fun q => False.elim q.2
        | bk env' => exact f.elim False.elim fun q => False.elim q.2
        | ct env' => exact f.elim False.elim fun q => False.elim q.2
        | rs x d => exact f.elim False.elim fun q => q.2
/-- the law's promise, where the evaluator says True -/
theorem law_sp {n i : Nat} {H : Hp} {a : Addr} {ns : List Int} {st' : Sto} (e : callF (fns ds) gs n i [.rol (ns.map D.int)] [] = .ok (.bl true) st') (hS : SqL K H a (ns.map V.int)) :
    spF K (callF (fns ds) gs n) i [.ref a] H (fun v _ => v = .bl true) fun _ _ _ => False := by
  have hints : ∀ {S : Addr → Prop} {φ : List Addr} {H : Hp} (l : List Int), RepL K S φ H (l.map V.int) (l.map D.int) := fun {S φ H} l => by
    induction l with
    | nil => exact .nil
    | cons x l ih => exact .cons (.int x) ih
  refine ⟨fun b => b = a ∧ H b ≠ none, [], [], [.rol (ns.map D.int)], ⟨fun b hb => hb.2, fun b hb => (by cases hb), rfl, .nil, fun n b ds h => (by cases n <;> cases h)⟩, .cons (.rol ?_ (hints ns)) .nil, ?_⟩
  · rcases hS with h | h
    · refine .inl ⟨⟨rfl, ?_⟩, h⟩
      rcases h with h | ⟨o, h⟩ <;> rw [h] <;> simp
    · exact .inr h
  · rw [e]
    exact .inl fun v H' S' φ' _ _ r => r.rd0.bl
/-- what lets nothing out -/
theorem FnOk.to0 {k : Nat} {f : Addr} {fd : FuncData} {ps : List Str} {sp : Sp} (F : FnOk P w K mg base (L2.CX P w) k f fd ps sp) : FnOk P w K mg base CX0 k f fd ps (fun vs H Q _ => sp vs H Q fun _ _ _ => False) :=
  ⟨fun vs H Q E h => F.len vs H Q _ h, fun A outer s H args us vs Q E hr e0 hb r h => codeAny_mono (F.run A outer s H args us vs Q _ hr e0 hb r h) fun x s' q => by
    cases x with
    | error er =>
      obtain ⟨_, _, _, _, _, _, _, _, _, _, _, _, z⟩ := q
      exact z.elim
    | ok fl => cases fl <;> exact q⟩
end
end PV
set_option maxRecDepth 100000
set_option maxHeartbeats 4000000
/-! The head: the module's constants as deep values, read off the written part. -/
namespace PV
open PySem PySem.Spec PyProof.Rows L2
mutual
def gB (K : PySem.W.Frag) : D → Value → Bool
  | .non, u => (match u with
    | .none => true
    | _ => false)
  | .bl b, u => (match u with
    | .bool c => b == c
    | _ => false)
  | .int i, u => (match u with
    | .int j _ => decide (i = j)
    | _ => false)
  | .str x, u => (match u with
    | .str y _ => decide (x = y)
    | _ => false)
  | .tup ds, u => (match u with
    | .ref a => (match K.lookup a with
      | some ⟨.type c, _, .seq its _, _⟩ => decide (c = "tuple") && decide (its.size ≤ sizeLine) && gBs K ds its.toList
      | _ => false)
    | _ => false)
  | .lst _, _ => false
  | .rol _, _ => false
  | .loc _, _ => false
def gBs (K : PySem.W.Frag) : List D → List Value → Bool
  | [], us => us.isEmpty
  | d :: ds, us => (match us with
    | u :: us => gB K d u && gBs K ds us
    | [] => false)
end
section
variable {K : PySem.W.Frag}
mutual
theorem gB_ok : ∀ {d : D} {u : Value}, gB K d u = true → ∃ v, RelV v u ∧ Rep K (fun _ => False) [] (fun _ => none) v d
  | .non, u, h => by
    unfold gB at h
    split at h
    · exact ⟨.non, rfl, .non⟩
    · cases h
  | .bl b, u, h => by
    unfold gB at h
    split at h
    · have := eq_of_beq h
      subst this
      exact ⟨.bl b, rfl, .bl b⟩
    · cases h
  | .int i, u, h => by
    unfold gB at h
    split at h
    · have := of_decide_eq_true h
      subst this
      exact ⟨.int i, ⟨_, rfl⟩, .int i⟩
    · cases h
  | .str x, u, h => by
    unfold gB at h
    split at h
    · have := of_decide_eq_true h
      subst this
      exact ⟨.str x, ⟨_, rfl⟩, .str x⟩
    · cases h
  | .tup ds, u, h => by
    unfold gB at h
    split at h
    · rename_i a
      split at h
      · rename_i c od its n sl q
        simp only [Bool.and_eq_true, decide_eq_true_eq] at h
        obtain ⟨⟨h1, h2⟩, h3⟩ := h
        obtain ⟨vs, r1, r2⟩ := gBs_ok h3
        exact ⟨.ref a, rfl, .tup (.inr ⟨_, its, n, q, congrArg Value.type h1, rfl, h2, r1⟩) r2⟩
      · cases h
    · cases h
  | .lst _, u, h => by unfold gB at h; cases h
  | .rol _, u, h => by unfold gB at h; cases h
  | .loc _, u, h => by unfold gB at h; cases h
theorem gBs_ok : ∀ {ds : List D} {us : List Value}, gBs K ds us = true → ∃ vs, Vals vs us ∧ RepL K (fun _ => False) [] (fun _ => none) vs ds
  | [], us, h => by
    unfold gBs at h
    cases us with
    | nil => exact ⟨[], .nil, .nil⟩
    | cons u us => cases h
  | d :: ds, us, h => by
    unfold gBs at h
    split at h
    · rw [Bool.and_eq_true] at h
      obtain ⟨v, r1, r2⟩ := gB_ok h.1
      obtain ⟨vs, s1, s2⟩ := gBs_ok h.2
      exact ⟨v :: vs, .cons r1 s1, .cons r2 s2⟩
    · cases h
end
def gvB (K : PySem.W.Frag) (x : Str) (d : D) : Bool := match PySem.W.nsIn K mainGlobals x with
  | some (some u) => gB K d u
  | _ => false
theorem gvB_ok {h : Heap} {mg : Str → Option Value} (X : K.In h) (G : h.Ns mainGlobals mg) {x : Str} {d : D} (e : gvB K x d = true) : ∃ v u, mg x = some u ∧ RelV v u ∧ Rep K (fun _ => False) [] (fun _ => none) v d := by
  unfold gvB at e
  split at e
  · rename_i u q
    obtain ⟨v, r1, r2⟩ := gB_ok e
    exact ⟨v, u, PySem.W.mg_of X G q, r1, r2⟩
  · cases e
/-- the constants of the module -/
def glsB (K : PySem.W.Frag) (gn : List Str) (gs : List D) : Bool := (gn.zip gs).all fun q => gvB K q.1 q.2
theorem glsB_ok {h : Heap} {mg : Str → Option Value} (X : K.In h) (G : h.Ns mainGlobals mg) {gn : List Str} {gs : List D} (e : glsB K gn gs = true) (k : Nat) (x : Str) (d : D) (h1 : gn[k]? = some x) (h2 : gs[k]? = some d) :
    ∃ v u, mg x = some u ∧ RelV v u ∧ Rep K (fun _ => False) [] (fun _ => none) v d := by
  refine gvB_ok X G (List.all_eq_true.mp e (x, d) ?_)
  rw [List.mem_iff_getElem?]
  exact ⟨k, List.getElem?_zip_eq_some.mpr ⟨h1, h2⟩⟩
end
/-- HeadHook2's hook, with a look of one's own -/
abbrev AlP : Type := He.AlD × Bool
def obsP (n : Nat) (fa : List He.Fa) (fn : List He.DefD) (ex : PySem.W.Frag → Bool) (g : Addr → Option Obj) : AlP := (He.obsD fa fn (He.frG g (He.asD g n)), ex (He.frG g (He.asD g n)))
def hookP (n : Nat) (fa : List He.Fa) (fn : List He.DefD) (ex : PySem.W.Frag → Bool) : PySem.W.Hook where
  α := AlP
  obs := fun s => obsP n fa fn ex s.heap.get?
  val := fun _ => (He.valD fn, true)
  says := fun _ h => ∃ K : PySem.W.Frag, K.In h ∧ He.SaysD fa fn K ∧ ex K = true
  of := fun _ _ e => ⟨_, He.frG_in, congrArg (fun z : AlP => z.1) e, congrArg (fun z : AlP => z.2) e⟩
  keeps := fun _ _ _ ⟨K, hK, c, d⟩ k => ⟨K, PySem.W.Frag.In.keeps hK k, c, d⟩
theorem obsP_eq {n : Nat} {fa : List He.Fa} {fn : List He.DefD} {ex : PySem.W.Frag → Bool} {g : Addr → Option Obj} {s : Shared} (h : ∀ a, g a = s.heap.get? a) : obsP n fa fn ex g = (hookP n fa fn ex).obs s := by
  have e : g = s.heap.get? := funext h
  rw [e] <;> rfl
end PV
set_option maxRecDepth 100000
set_option maxHeartbeats 4000000
/-! The head: own exceptions that are raised. -/
namespace PV
open PySem PySem.Spec PyProof.Rows L2 NdefX PySem.W
/-- an own exception: its name, its __init__'s qualified name and text -/
structure XD where
  x : Str
  q : Str
  m : Stmt
abbrev FnY : Type := Option (Str × Str × Arguments × FuncBody × Scope × Addr × Value × Value × Addr)
def XD.fI (K : Frag) (d : XD) : Addr := He.ma K (He.ga K d.x) "__init__"
def xObs (K : Frag) (d : XD) : FnY := match K.lookup (d.fI K) with
  | some ⟨_, _, .func fd, _⟩ => some (fd.name, fd.qualname, fd.params, fd.body, fd.scope, fd.globals, fd.defaults, fd.kwdefaults, fd.builtins)
  | _ => none
def XD.val (d : XD) : FnY := some ("__init__", d.q, defArgs d.m, .stmts (defBody d.m), defScope d.m, mainGlobals, .none, .none, builtinsNs)
structure XS (prog : Program) (d : XD) : Prop where
  hd : ((defArgs d.m).posonlyargs ++ (defArgs d.m).args).head?.map (·.arg) = some "self"
  sc : nscB ["self", "step", "__class__"] ["self", "step"] ["__class__"] (defScope d.m) = true
  scs : (defScope d.m).names.lookup ("super" : Str) = some .globalImplicit
  sct : (defScope d.m).names.lookup ("str" : Str) = some .globalImplicit
  bd : ∃ m j p0 p1 p2 p3 p4 p5 p6 p7 p8 p9 q1 q2 q3 q4, defBody d.m = exB m j p0 p1 p2 p3 p4 p5 p6 p7 p8 p9 q1 q2 q3 q4 ∧ m.length ≤ 1000 ∧ (p2.endLine == p8.line) = true
  bind : ∀ (cl : List (Str × Addr)) (doc pm ct code : Value) (an : Option Addr) (us : List Value), us.length = 2 → bindArgs (fnX "__init__" d.q (defArgs d.m) (defBody d.m) (defScope d.m) cl .none .none doc pm an code ct) ⟨us, []⟩ = pure ((["self", "step"] : List Str).zip us)
  top : (prog.main.scope.names.lookup ("super" : Str)).isSome = false
def clsB (K : Frag) (C : Addr) : Bool := match K.lookup C with
  | some ⟨.type t, _, .cls cd, sl⟩ => (match cd.mro, sl.toList with
    | .ref C' :: bm, [_, _, _, _, some (.builtin n), _] => decide (t = "type") && decide (C' = C) && decide (n = "ValueError.__new__") && !cd.hasDel && cd.hasDict && HandSPX.refsVE bm
    | _, _ => false)
  | _ => false
theorem clsB_ok {K : Frag} {C : Addr} (h : clsB K C = true) : ∃ nm q N bs bm sn sub ab col dd k0 k1 k2 k3 k5, K.lookup C = some (excClassObj nm q C N bs bm true sn sub ab col dd k0 k1 k2 k3 k5 "ValueError.__new__") ∧ HandSPX.refsVE bm = true := by
  unfold clsB at h
  split at h
  · rename_i t dd cd sl ho
    split at h
    · rename_i C' bm k0 k1 k2 k3 n k5 hm hs
      simp only [Bool.and_eq_true, decide_eq_true_eq, Bool.not_eq_true'] at h
      obtain ⟨⟨⟨⟨⟨rfl, rfl⟩, rfl⟩, hdel⟩, hdi⟩, hv⟩ := h
      obtain ⟨nm, bs, mro, ns, qn, hd, sn, sub, ab, col, del⟩ := cd
      dsimp only at hm hdel hdi
      subst hm hdel hdi
      have hsl : sl = #[k0, k1, k2, k3, some (.builtin "ValueError.__new__"), k5] := by
        rw [← hs]
      subst hsl
      exact ⟨nm, qn, ns, bs, bm, sn, sub, ab, col, dd, k0, k1, k2, k3, k5, ho, hv⟩
    · cases h
  · cases h
/-- __init__'s cell, code, file -/
def iniB (file : Str) (K : Frag) (C fI : Addr) : Bool := match K.lookup fI with
  | some ⟨_, _, .func fd, _⟩ => (match fd.closure, fd.code with
    | [(cn, cc)], .ref cda => decide (cn = "__class__") && codeIn K (.ref cda) fd.qualname && (match K.lookup cc with
        | some ⟨_, _, .cell (some (.ref C')), _⟩ => decide (C' = C)
        | _ => false) && (match K.lookup cda with
        | some ⟨_, _, .fields vs, _⟩ => (match (vs[2]? : Option Value) with
          | some (Value.str fl _) => (file == fl)
          | _ => false)
        | _ => false)
    | _, _ => false)
  | _ => false
def alB (K : Frag) (C : Addr) : Bool := match clsIn K C with
  | some cd => decide (alongIn K "__init__" ((cd.mro.dropWhile (· != .ref C)).drop 1) = some (some (.builtin "ValueError.__init__")))
  | none => false
def excB (file : Str) (K : Frag) (d : XD) : Bool :=
  clsB K (He.ga K d.x) && iniB file K (He.ga K d.x) (d.fI K) && alB K (He.ga K d.x)
  && decide (findIn K (.ref (He.ga K d.x)) "__init__" = some (some (.ref (d.fI K)))) && decide (typeIn K (.ref (d.fI K)) = some (.type "function"))
  && decide (findIn K (.ref (He.ga K d.x)) "step" = some none) && decide (findIn K (.ref (He.ga K d.x)) "__setattr__" = some (some (.builtin "object.__setattr__")))
  && decide (subIn K (.ref (He.ga K d.x)) (.type "BaseException") = some true) && decide (subIn K (.ref (He.ga K d.x)) (.type "ValueError") = some true)
  && decide (typeIn K (.ref (He.ga K d.x)) = some (.type "type")) && keepIn K (.ref (He.ga K d.x)) && decide (exmOne K (.ref (He.ga K d.x)) (.ref (He.ga K d.x)) = some true)
  && decide (mroIn K (He.ga K d.x) (.ref (He.ga K d.x)) = some true) && decide (nsIn K cStatics "thirdparty.any" = some none)
  && decide (nsIn K mainGlobals d.x = some (some (.ref (He.ga K d.x)))) && decide (nsIn K mainGlobals "super" = some none) && decide (nsIn K mainGlobals "str" = some none)
theorem exc_says {P : Program} {w : World} {K : Frag} {h : Heap} {mg : Str → Option Value} {base : Heap} {d : XD} (X : K.In h) (G : h.Ns mainGlobals mg) (e : xObs K d = d.val) (c : excB P.main.file K d = true) (s : XS P d) : XOk P w K mg base d.x := by
  unfold excB at c
  simp only [Bool.and_eq_true, decide_eq_true_eq] at c
  obtain ⟨⟨⟨⟨⟨⟨⟨⟨⟨⟨⟨⟨⟨⟨⟨⟨c1, c2⟩, c3⟩, c4⟩, c5⟩, c6⟩, c7⟩, c8⟩, c9⟩, c10⟩, c11⟩, c12⟩, c13⟩, c14⟩, c15⟩, c16⟩, c17⟩ := c
  have ox : OexC K (He.ga K d.x) := ⟨clsB_ok c1, c7, c8, c10, c11⟩
  refine ⟨mg_of X G c15, ox, ?_, c12⟩
  unfold iniB at c2
  unfold xObs at e
  split at c2
  · rename_i oc od fd osl lk
    rw [lk] at e
    split at c2
    · rename_i cn cc cda hcl hco
      simp only [Bool.and_eq_true, decide_eq_true_eq] at c2
      obtain ⟨⟨⟨b1, b2⟩, b3⟩, b4⟩ := c2
      subst b1
      split at b3
      · rename_i cl cld C' csl lc
        have b3 := of_decide_eq_true b3
        subst b3
        split at b4
        · rename_i ccl cdd vs ccs lcd
          split at b4
          · rename_i fl tf hvs
            obtain ⟨n1, n2, n3, n4, n5, n6, n7, n8, n9, n10, n11, n12, n13, n14, n15⟩ := fd
            have e2 : (some (n1, n2, n3, n4, n5, n6, n8, n9, n15) : FnY) = d.val := e
            unfold XD.val at e2
            simp only [Option.some.injEq, Prod.mk.injEq] at e2
            obtain ⟨h1, h2, h3, h4, h5, h6, h7, h8, h9⟩ := e2
            dsimp only at hcl hco b2
            subst h1 h2 h3 h4 h5 h6 h7 h8 h9 hcl hco
            unfold alB at c3
            split at c3
            · rename_i cd hcd
              have T : ExT P K mg (He.ga K d.x) (d.fI K) cc cda ⟨"__init__", d.q, defArgs d.m, defBody d.m, defScope d.m, [("__class__", cc)], cda⟩ (defArgs d.m) :=
                { oex := ox, noF := c6, F1 := ⟨rfl, rfl, rfl, rfl⟩, hd := s.hd, sc := s.sc, scs := s.scs, sct := s.sct, bd := s.bd, fn := ⟨_, _, _, _, _, _, _, lk⟩, code := b2, cell := ⟨_, _, _, lc⟩, file := ⟨_, _, _, _, _, _, lcd, hvs, b4⟩,
                  cls := ⟨cd, hcd, of_decide_eq_true c3⟩, mro := c13, vsub := c9, opq := c14, msup := mg_none_of X G c16, mstr := mg_none_of X G c17, top := s.top }
              exact ⟨d.fI K, _, c4, c5, exc_ok T ⟨_, _, _, lk⟩, Binds.all fun us hl => s.bind _ _ _ _ _ _ us hl⟩
            · cases c3
          · cases b4
        · cases b4
      · cases b3
    · cases c2
  · cases c2
/-- HeadHook2's hook with looks of one's own and the exceptions' texts -/
abbrev AlX : Type := He.AlD × Bool × List FnY
def obsX (n : Nat) (fa : List He.Fa) (fn : List He.DefD) (xs : List XD) (ex : Frag → Bool) (g : Addr → Option Obj) : AlX := (He.obsD fa fn (He.frG g (cStatics :: He.asD g n)), ex (He.frG g (cStatics :: He.asD g n)), xs.map (xObs (He.frG g (cStatics :: He.asD g n))))
def hookX (n : Nat) (fa : List He.Fa) (fn : List He.DefD) (xs : List XD) (ex : Frag → Bool) : Hook where
  α := AlX
  obs := fun s => obsX n fa fn xs ex s.heap.get?
  val := fun _ => (He.valD fn, true, xs.map XD.val)
  says := fun _ h => ∃ K : Frag, K.In h ∧ He.SaysD fa fn K ∧ ex K = true ∧ xs.map (xObs K) = xs.map XD.val
  of := fun _ _ e => ⟨_, He.frG_in, congrArg (fun z : AlX => z.1) e, congrArg (fun z : AlX => z.2.1) e, congrArg (fun z : AlX => z.2.2) e⟩
  keeps := fun _ _ _ ⟨K, hK, c, d⟩ k => ⟨K, Frag.In.keeps hK k, c, d⟩
theorem obsX_eq {n : Nat} {fa : List He.Fa} {fn : List He.DefD} {xs : List XD} {ex : Frag → Bool} {g : Addr → Option Obj} {s : Shared} (h : ∀ a, g a = s.heap.get? a) : obsX n fa fn xs ex g = (hookX n fa fn xs ex).obs s := by
  have e : g = s.heap.get? := funext h
  rw [e] <;> rfl
end PV
set_option maxRecDepth 100000
set_option maxHeartbeats 4000000
/-! The evaluator's equations, for simp. -/
namespace PV
open PySem
section
variable {cf : Nat → List D → Sto → Out D} {gs : List D} {o : Bool} {env : Env} {s : Sto}
@[simp] theorem ok_bind {α β : Type} {a : α} {s : Sto} {f : α → Sto → Out β} : (Out.ok a s).bind f = f a s := id rfl
@[simp] theorem err_bind {α β : Type} {f : α → Sto → Out β} : (Out.err : Out α).bind f = .err := id rfl
@[simp] theorem lift_some {α : Type} {a : α} : lift (some a) s = .ok a s := id rfl
@[simp] theorem lift_none {α : Type} : lift (none : Option α) s = .err := id rfl
def rdV (o : Bool) (x : Option (Option SV)) (s : Sto) : Out D := match x with
  | some (some (.val d)) => .ok d s
  | some (some (.own ds)) => if o = true then .ok (.lst ds) s else .err
  | _ => .err
@[simp] theorem rdV_val {d : D} : rdV o (some (some (.val d))) s = .ok d s := id rfl
@[simp] theorem rdV_own {ds : List D} : rdV true (some (some (.own ds))) s = .ok (.lst ds) s := id rfl
@[simp] theorem ev_var {i : Nat} : ev cf gs o (.var i) env s = rdV o env[i]? s := by unfold ev rdV; rfl
@[simp] theorem ev_int {i : Int} : ev cf gs o (.int i) env s = .ok (.int i) s := by unfold ev; rfl
@[simp] theorem ev_str {x : Str} : ev cf gs o (.str x) env s = .ok (.str x) s := by unfold ev; rfl
@[simp] theorem ev_bl {b : Bool} : ev cf gs o (.bl b) env s = .ok (.bl b) s := by unfold ev; rfl
@[simp] theorem ev_non : ev cf gs o .non env s = .ok .non s := by unfold ev; rfl
@[simp] theorem ev_gl {k : Nat} : ev cf gs o (.gl k) env s = lift gs[k]? s := by unfold ev; rfl
@[simp] theorem ev_tup {es : Exs} : ev cf gs o (.tup es) env s = (evL cf gs false es env s).bind fun ds s => .ok (.tup ds) s := by unfold ev; rfl
@[simp] theorem ev_fz {f : Fx} : ev cf gs o (.fz f) env s = (evF cf gs f env s).bind fun ds s => .ok (.lst ds) s := by unfold ev; rfl
@[simp] theorem ev_alloc {f : Fx} : ev cf gs o (.alloc f) env s = (evF cf gs f env s).bind fun ds s => .ok (.loc s.length) (s ++ [.lst ds]) := by unfold ev; rfl
@[simp] theorem ev_bin {op : BOp} {a b : Ex} : ev cf gs o (.bin op a b) env s = (ev cf gs true a env s).bind fun x s => (ev cf gs true b env s).bind fun y s => lift (binD op (deref s x) (deref s y)) s := by (conv => lhs; unfold ev) <;> rfl
@[simp] theorem ev_neg {a : Ex} : ev cf gs o (.neg a) env s = (ev cf gs true a env s).bind fun x s => match x with
    | .int i => .ok (.int (-i)) s
    | _ => .err := by (conv => lhs; unfold ev) <;> rfl
@[simp] theorem ev_not {a : Ex} : ev cf gs o (.not a) env s = (ev cf gs true a env s).bind fun x s => (truthS s x).bind fun b s => .ok (.bl (!b)) s := by (conv => lhs; unfold ev) <;> rfl
@[simp] theorem ev_cmp {op : COp} {a b : Ex} : ev cf gs o (.cmp op a b) env s = (ev cf gs true a env s).bind fun x s => (ev cf gs true b env s).bind fun y s => (lift (cmpD op (deref s x) (deref s y)) s).bind fun b s => .ok (.bl b) s := by (conv => lhs; unfold ev) <;> rfl
@[simp] theorem ev_chn {op op' : COp} {a b c : Ex} : ev cf gs o (.chn op op' a b c) env s = (ev cf gs true a env s).bind fun x s => (ev cf gs true b env s).bind fun y s => (lift (cmpD op (deref s x) (deref s y)) s).bind fun t s =>
    if t = true then (ev cf gs true c env s).bind fun z s => (lift (cmpD op' (deref s y) (deref s z)) s).bind fun b s => .ok (.bl b) s else .ok (.bl false) s := by (conv => lhs; unfold ev) <;> rfl
@[simp] theorem ev_bop {and : Bool} {es : Exs} : ev cf gs o (.bop and es) env s = evB cf gs o and es env s := by (conv => lhs; unfold ev) <;> rfl
@[simp] theorem ev_ite {c a b : Ex} : ev cf gs o (.ite c a b) env s = (ev cf gs true c env s).bind fun x s => (truthS s x).bind fun t s => if t = true then ev cf gs false a env s else ev cf gs false b env s := by (conv => lhs; unfold ev) <;> rfl
@[simp] theorem ev_idx {a i : Ex} : ev cf gs o (.idx a i) env s = (ev cf gs true a env s).bind fun x s => (ev cf gs true i env s).bind fun y s => lift (idxD (deref s x) y) s := by (conv => lhs; unfold ev) <;> rfl
@[simp] theorem ev_slc {a : Ex} {lo hi : OEx} : ev cf gs o (.slc a lo hi) env s = (ev cf gs true a env s).bind fun x s => (evO cf gs lo env s).bind fun l s => (evO cf gs hi env s).bind fun h s => lift (slcD (deref s x) l h) s := by (conv => lhs; unfold ev) <;> rfl
@[simp] theorem ev_rev {a : Ex} : ev cf gs o (.rev a) env s = (ev cf gs true a env s).bind fun x s => lift (revD (deref s x)) s := by (conv => lhs; unfold ev) <;> rfl
@[simp] theorem ev_call {f : Nat} {es : Exs} : ev cf gs o (.call f es) env s = (evL cf gs true es env s).bind fun ds s => (cf f ds s).bind fun d s =>
    if borrows env es = true then (if nolst? d = true ∧ nolstS? s = true then .ok d s else .err) else .ok d s := by (conv => lhs; unfold ev) <;> rfl
@[simp] theorem ev_blt {b : Blt} {es : Exs} : ev cf gs o (.blt b es) env s = (evL cf gs true es env s).bind fun ds s => lift (bltD b (ds.map (deref s))) s := by (conv => lhs; unfold ev) <;> rfl
@[simp] theorem ev_isi {e : Ex} {t : Ty} : ev cf gs o (.isi e t) env s = (ev cf gs true e env s).bind fun x s => (lift (isiD (deref s x) t) s).bind fun b s => .ok (.bl b) s := by (conv => lhs; unfold ev) <;> rfl
@[simp] theorem evL_nil : evL cf gs o .nil env s = .ok [] s := by unfold evL; rfl
@[simp] theorem evL_c {e : Ex} {es : Exs} : evL cf gs o (.c e es) env s = (ev cf gs o e env s).bind fun d s => (evL cf gs o es env s).bind fun ds s => .ok (d :: ds) s := by (conv => lhs; unfold evL) <;> rfl
@[simp] theorem evB_one {and : Bool} {e : Ex} : evB cf gs o and (.c e .nil) env s = ev cf gs o e env s := by unfold evB; rfl
@[simp] theorem evB_c {and : Bool} {e e' : Ex} {es : Exs} : evB cf gs o and (.c e (.c e' es)) env s = (ev cf gs o e env s).bind fun x s => (truthS s x).bind fun t s => if t = and then evB cf gs o and (.c e' es) env s else .ok x s := by (conv => lhs; unfold evB) <;> rfl
@[simp] theorem evO_n : evO cf gs .n env s = .ok none s := by unfold evO; rfl
@[simp] theorem evO_s {e : Ex} : evO cf gs (.s e) env s = (ev cf gs true e env s).bind fun x s => match x with
    | .int i => .ok (some i) s
    | _ => .err := by (conv => lhs; unfold evO) <;> rfl
@[simp] theorem evC_n : evC cf gs .n env s = .ok true s := by unfold evC; rfl
@[simp] theorem evC_s {e : Ex} : evC cf gs (.s e) env s = (ev cf gs true e env s).bind fun x s => truthS s x := by (conv => lhs; unfold evC) <;> rfl
@[simp] theorem evF_dsp {es : Exs} : evF cf gs (.dsp es) env s = evL cf gs false es env s := by unfold evF; rfl
@[simp] theorem evF_lof {e : Ex} : evF cf gs (.lof e) env s = (ev cf gs true e env s).bind fun x s => match deref s x with
    | .lst ds => .ok ds s
    | .tup ds => .ok ds s
    | _ => .err := by (conv => lhs; unfold evF) <;> rfl
@[simp] theorem evF_lrg {a : Ex} : evF cf gs (.lrg a) env s = (ev cf gs true a env s).bind fun x s => lift (rngL? x) s := by (conv => lhs; unfold evF) <;> rfl
theorem evF_cp1 {elt : Ex} {tg : Tg} {it : Src} {cond : OEx} {vs : List Nat} : evF cf gs (.cp1 elt tg it cond vs) env s = (evI cf gs true it env s).bind fun xs s => (flatF (fun d s => match bindT tg d (wipeE (noOwn env) vs) with
    | none => .err
    | some env1 => (evC cf gs cond env1 s).bind fun t s => if t = true then (ev cf gs false elt env1 s).bind fun y s => .ok [y] s else .ok [] s) xs s).bind fun ys s =>
      if ys.length ≤ LINE then .ok ys s else .err := by (conv => lhs; unfold evF) <;> rfl
theorem evF_cp2 {elt : Ex} {tg tg1 : Tg} {it it1 : Src} {cond cond1 : OEx} {vs vs1 : List Nat} : evF cf gs (.cp2 elt tg it cond tg1 it1 cond1 vs vs1) env s = (evI cf gs true it env s).bind fun xs s => (flatF (fun d s => match bindT tg d (wipeE (noOwn env) vs) with
    | none => .err
    | some env1 => (evC cf gs cond env1 s).bind fun t s => if t = true then (evI cf gs false it1 env1 s).bind fun zs s => flatF (fun d s => match bindT tg1 d (wipeE env1 vs1) with
      | none => .err
      | some env2 => (evC cf gs cond1 env2 s).bind fun t s => if t = true then (ev cf gs false elt env2 s).bind fun y s => .ok [y] s else .ok [] s) zs s else .ok [] s) xs s).bind fun ys s =>
      if ys.length ≤ LINE then .ok ys s else .err := by (conv => lhs; unfold evF) <;> rfl
@[simp] theorem evI_seq {e : Ex} : evI cf gs o (.seq e) env s = (ev cf gs o e env s).bind fun x s => lift (items? x) s := by (conv => lhs; unfold evI) <;> rfl
@[simp] theorem evI_rg1 {a : Ex} : evI cf gs o (.rg1 a) env s = (ev cf gs true a env s).bind fun x s => lift (rng1? x) s := by (conv => lhs; unfold evI) <;> rfl
@[simp] theorem evI_rg2 {a b : Ex} : evI cf gs o (.rg2 a b) env s = (ev cf gs true a env s).bind fun x s => (ev cf gs true b env s).bind fun y s => lift (rng2? x y) s := by (conv => lhs; unfold evI) <;> rfl
@[simp] theorem evI_enm {e : Ex} : evI cf gs o (.enm e) env s = (ev cf gs o e env s).bind fun x s => lift (enum? x) s := by (conv => lhs; unfold evI) <;> rfl
@[simp] theorem evI_zip {a b : Ex} : evI cf gs o (.zip a b) env s = (ev cf gs o a env s).bind fun x s => (ev cf gs o b env s).bind fun y s => lift (zip? x y) s := by (conv => lhs; unfold evI) <;> rfl
@[simp] theorem evP_nil : evP cf gs .nil env s = .ok [] s := by unfold evP; rfl
@[simp] theorem evP_v {e : Ex} {ps : Pxs} : evP cf gs (.v e ps) env s = (ev cf gs false e env s).bind fun d s => (evP cf gs ps env s).bind fun r s => .ok (.val d :: r) s := by (conv => lhs; unfold evP) <;> rfl
@[simp] theorem evP_o {f : Fx} {ps : Pxs} : evP cf gs (.o f ps) env s = (evF cf gs f env s).bind fun d s => (evP cf gs ps env s).bind fun r s => .ok (.own d :: r) s := by (conv => lhs; unfold evP) <;> rfl
@[simp] theorem execs_nil : execs cf gs .nil env s = .ok (.nx env) s := by simp only [execs]
def nextF (o : Out Flow) (f : Env → Sto → Out Flow) : Out Flow := o.bind fun fl s => match fl with
    | .nx env' => f env' s
    | .ret d => .ok (.ret d) s
    | .bk env' => .ok (.bk env') s
    | .ct env' => .ok (.ct env') s
    | .rs x d => .ok (.rs x d) s
@[simp] theorem nextF_rs {f : Env → Sto → Out Flow} {x : Str} {d : D} : nextF (.ok (.rs x d) s) f = .ok (.rs x d) s := id rfl
@[simp] theorem nextF_nx {f : Env → Sto → Out Flow} : nextF (.ok (.nx env) s) f = f env s := id rfl
@[simp] theorem nextF_ret {f : Env → Sto → Out Flow} {d : D} : nextF (.ok (.ret d) s) f = .ok (.ret d) s := id rfl
@[simp] theorem nextF_bk {f : Env → Sto → Out Flow} : nextF (.ok (.bk env) s) f = .ok (.bk env) s := id rfl
@[simp] theorem nextF_ct {f : Env → Sto → Out Flow} : nextF (.ok (.ct env) s) f = .ok (.ct env) s := id rfl
@[simp] theorem execs_c {st : Sm} {r : Sms} : execs cf gs (.c st r) env s = nextF (exec cf gs st env s) (execs cf gs r) := by (simp only [execs]) <;> rfl
def stE (o : Option Env) (s : Sto) : Out Flow := match o with
  | some env' => .ok (.nx env') s
  | none => .err
@[simp] theorem stE_some : stE (some env) s = .ok (.nx env) s := id rfl
@[simp] theorem exec_asg {tg : Tg} {e : Ex} : exec cf gs (.asg tg e) env s = (ev cf gs false e env s).bind fun d s => stE (bindT tg d env) s := by (simp only [exec]) <;> rfl
@[simp] theorem exec_own {i : Nat} {f : Fx} : exec cf gs (.own i f) env s = (evF cf gs f env s).bind fun ds s => .ok (.nx (env.set i (some (.own ds)))) s := by simp only [exec]
@[simp] theorem exec_par {is : List Nat} {ps : Pxs} : exec cf gs (.par is ps) env s = (evP cf gs ps env s).bind fun vs s => stE (setAll env is vs) s := by (simp only [exec]) <;> rfl
@[simp] theorem exec_ite {c : Ex} {a b : Sms} : exec cf gs (.ite c a b) env s = (ev cf gs true c env s).bind fun x s => (truthS s x).bind fun t s => if t = true then execs cf gs a env s else execs cf gs b env s := by simp only [exec]
noncomputable def stepF (cf : Nat → List D → Sto → Out D) (gs : List D) (tg : Tg) (b : Sms) : D → Env → Sto → Out Flow := fun d env s => match bindT tg d env with
    | some env1 => execs cf gs b env1 s
    | none => .err
theorem exec_for {tg : Tg} {it : Src} {b : Sms} : exec cf gs (.for tg it b) env s = (evI cf gs false it (frzI env it) s).bind fun xs s => forF (stepF cf gs tg b) xs (frzI env it) s := by (simp only [exec]) <;> rfl
@[simp] theorem exec_ret {e : Ex} : exec cf gs (.ret e) env s = (ev cf gs false e (frzR env e) s).bind fun d s => .ok (.ret d) s := by simp only [exec]
@[simp] theorem frzRs_nil : frzRs env .nil = env := by unfold frzRs; rfl
@[simp] theorem frzRs_var {i : Nat} {es : Exs} : frzRs env (.c (.var i) es) = frzRs (frzAt env i) es := by (conv => lhs; unfold frzRs) <;> rfl
def frzAtx (env : Env) (i : Nat) : Option (Option SV) → Env
  | some (some (.own ds)) => env.set i (some (.val (.lst ds)))
  | _ => env
@[simp] theorem frzAt_eq {i : Nat} : frzAt env i = frzAtx env i env[i]? := by unfold frzAt frzAtx; rfl
@[simp] theorem frzAtx_val {i : Nat} {d : D} : frzAtx env i (some (some (.val d))) = env := id rfl
@[simp] theorem frzAtx_own {i : Nat} {ds : List D} : frzAtx env i (some (some (.own ds))) = env.set i (some (.val (.lst ds))) := id rfl
@[simp] theorem frzRs_c {e : Ex} {es : Exs} (h : ∀ i, e ≠ .var i) : frzRs env (.c e es) = frzRs env es := by
  cases e <;> first | exact absurd rfl (h _) | ((conv => lhs; unfold frzRs) <;> rfl)
@[simp] theorem exec_retN : exec cf gs .retN env s = .ok (.ret .non) s := by simp only [exec]
@[simp] theorem exec_pass : exec cf gs .pass env s = .ok (.nx env) s := by simp only [exec]
@[simp] theorem exec_brk : exec cf gs .brk env s = .ok (.bk env) s := by simp only [exec]
@[simp] theorem exec_cnt : exec cf gs .cnt env s = .ok (.ct env) s := by simp only [exec]
@[simp] theorem exec_ex {e : Ex} : exec cf gs (.ex e) env s = (ev cf gs false e env s).bind fun _ s => .ok (.nx env) s := by simp only [exec]
/-- a slot holds a list -/
def getLx (x : Option (Option SV)) (s : Sto) : Option (List D) := match x with
  | some (some (.own ds)) => some ds
  | some (some (.val (.loc n))) => (match s[n]? with
    | some (.lst ds) => some ds
    | _ => none)
  | _ => none
@[simp] theorem getL_x {i : Nat} : getL env i s = getLx env[i]? s := by unfold getL getLx; rfl
@[simp] theorem getLx_own {ds : List D} : getLx (some (some (.own ds))) s = some ds := id rfl
def getLo : Option SO → Option (List D)
  | some (.lst ds) => some ds
  | _ => none
@[simp] theorem getLx_loc {n : Nat} : getLx (some (some (.val (.loc n)))) s = getLo s[n]? := by unfold getLx getLo; rfl
@[simp] theorem getLo_lst {ds : List D} : getLo (some (.lst ds)) = some ds := id rfl
@[simp] theorem exec_app {i : Nat} {e : Ex} : exec cf gs (.app i e) env s = if (getL env i s).isNone = true then .err else (ev cf gs false e env s).bind fun d s => chg env i s fun ds => if ds.length < LINE then some (ds ++ [d]) else none := by simp only [exec]
@[simp] theorem exec_ext {i : Nat} {e : Ex} : exec cf gs (.ext i e) env s = if (getL env i s).isNone = true then .err else (ev cf gs true e env s).bind fun d s => (match d with
    | .lst zs => chg env i s fun ds => if ds.length + zs.length ≤ LINE then some (ds ++ zs) else none
    | _ => .err) := by (simp only [exec]) <;> rfl
@[simp] theorem exec_setV {i : Nat} {k e : Ex} : exec cf gs (.setV i k e) env s = if (getL env i s).isNone = true then .err else (ev cf gs false e env s).bind fun d s => (ev cf gs true k env s).bind fun x s => (match x with
    | .int k => chg env i s fun ds => (L2.ixN ds.length k).map fun j => ds.set j d
    | _ => .err) := by (simp only [exec]) <;> rfl
def augVk (cf : Nat → List D → Sto → Out D) (gs : List D) (env : Env) (i : Nat) (op : BOp) (e : Ex) (s : Sto) (k : Int) : Option D → Out Flow
  | some (.int a) => (ev cf gs true e env s).bind fun y s => (match y with
          | .int b => (match augI op a b with
            | some c => chg env i s fun ds => (L2.ixN ds.length k).map fun j => ds.set j (.int c)
            | none => .err)
          | _ => .err)
  | _ => .err
def augVx (cf : Nat → List D → Sto → Out D) (gs : List D) (env : Env) (i : Nat) (op : BOp) (e : Ex) (s : Sto) (k : Int) : Option (List D) → Out Flow
  | some ds => augVk cf gs env i op e s k (L2.atI ds k)
  | none => .err
theorem exec_augV {i : Nat} {k : Ex} {op : BOp} {e : Ex} : exec cf gs (.augV i k op e) env s = (ev cf gs true k env s).bind fun x s => (match x with
    | .int k => augVx cf gs env i op e s k (getL env i s)
    | _ => .err) := by (simp only [exec]) <;> rfl
def augS (env : Env) (i : Nat) (op : BOp) (a : Int) (s : Sto) : D → Out Flow
  | .int b => (match augI op a b with
        | some c => .ok (.nx (env.set i (some (.val (.int c))))) s
        | none => .err)
  | _ => .err
theorem exec_aug {i : Nat} {op : BOp} {e : Ex} {a : Int} (h : env[i]? = some (some (.val (.int a)))) : exec cf gs (.aug i op e) env s = (ev cf gs true e env s).bind fun y s => augS env i op a s y := by (simp only [exec, h]) <;> rfl
theorem exec_whl {c : Ex} {b : Sms} : exec cf gs (.whl c b) env s = whileF (fun env s => (ev cf gs true c env s).bind fun x s => truthS s x) (fun env s => execs cf gs b env s) env s := by simp only [exec]
/-! ### instances -/
def fldO (f : Str) (s : Sto) : Option SO → Out D
  | some (.obj _ fs) => lift (fs.lookup f) s
  | _ => .err
def fldD (f : Str) (s : Sto) : D → Out D
  | .loc n => fldO f s s[n]?
  | _ => .err
@[simp] theorem fldD_loc {f : Str} {n : Nat} : fldD f s (.loc n) = fldO f s s[n]? := id rfl
@[simp] theorem fldO_obj {f x : Str} {fs : List (Str × D)} : fldO f s (some (.obj x fs)) = lift (fs.lookup f) s := id rfl
@[simp] theorem ev_fld {e : Ex} {f : Str} : ev cf gs o (.fld e f) env s = (ev cf gs true e env s).bind fun x s => fldD f s x := by (conv => lhs; unfold ev) <;> rfl
def mthO (cf : Nat → List D → Sto → Out D) (gs : List D) (env : Env) (x m : Str) (k : Nat) (es : Exs) (n : Nat) (s : Sto) : Option SO → Out D
  | some (.obj x' fs) => if x' = x ∧ (fs.lookup m).isNone = true then (evL cf gs false es env s).bind fun ds s => cf k (.loc n :: ds) s else .err
  | _ => .err
def mthD (cf : Nat → List D → Sto → Out D) (gs : List D) (env : Env) (x m : Str) (k : Nat) (es : Exs) (s : Sto) : D → Out D
  | .loc n => mthO cf gs env x m k es n s s[n]?
  | _ => .err
@[simp] theorem ev_mth {x m : Str} {e : Ex} {k : Nat} {es : Exs} : ev cf gs o (.mth x e m k es) env s = (ev cf gs true e env s).bind fun x' s => mthD cf gs env x m k es s x' := by (conv => lhs; unfold ev) <;> rfl
@[simp] theorem mthD_loc {x m : Str} {k n : Nat} {es : Exs} : mthD cf gs env x m k es s (.loc n) = mthO cf gs env x m k es n s s[n]? := id rfl
theorem mthO_obj {x m : Str} {k n : Nat} {es : Exs} {fs : List (Str × D)} (h : fs.lookup m = none) : mthO cf gs env x m k es n s (some (.obj x fs)) = (evL cf gs false es env s).bind fun ds s => cf k (.loc n :: ds) s := if_pos ⟨rfl, by rw [h]; rfl⟩
def newD (n : Nat) (s : Sto) : D → Out D
  | .non => .ok (.loc n) s
  | _ => .err
@[simp] theorem newD_non {n : Nat} : newD n s .non = .ok (.loc n) s := id rfl
@[simp] theorem ev_new {x : Str} {k : Nat} {es : Exs} : ev cf gs o (.new x k es) env s = (evL cf gs false es env s).bind fun ds s => (cf k (.loc s.length :: ds) (s ++ [.obj x []])).bind fun r s' => newD s.length s' r := by (conv => lhs; unfold ev) <;> rfl
def setFO (env : Env) (x : Str) (fs : List Str) (n : Nat) (ds : List D) (s : Sto) : Option SO → Out Flow
  | some (.obj x' f0) => if x' = x ∧ fs.length = ds.length ∧ f0.length + fs.length < 1000 then .ok (.nx env) (s.set n (.obj x (putDs f0 (fs.zip ds)))) else .err
  | _ => .err
theorem exec_setF {i n : Nat} {x : Str} {fs : List Str} {es : Exs} (h : env[i]? = some (some (.val (.loc n)))) : exec cf gs (.setF i x fs es) env s = (evL cf gs false es env s).bind fun ds s => setFO env x fs n ds s s[n]? := by (simp only [exec, h]) <;> rfl
theorem setFO_obj {x : Str} {fs : List Str} {n : Nat} {ds : List D} {f0 : List (Str × D)} (h : fs.length = ds.length) (h2 : f0.length + fs.length < 1000) : setFO env x fs n ds s (some (.obj x f0)) = .ok (.nx env) (s.set n (.obj x (putDs f0 (fs.zip ds)))) := if_pos ⟨rfl, h, h2⟩
@[simp] theorem bindT_nm {i : Nat} {d : D} : bindT (.nm i) d env = some (env.set i (some (.val d))) := by unfold bindT; rfl
@[simp] theorem bindT_tp {ts : Tgs} {ds : List D} : bindT (.tp ts) (.tup ds) env = bindTs ts ds env := by (conv => lhs; unfold bindT) <;> rfl
@[simp] theorem bindTs_nil : bindTs .nil [] env = some env := by unfold bindTs; rfl
@[simp] theorem bindTs_c {t : Tg} {ts : Tgs} {d : D} {ds : List D} : bindTs (.c t ts) (d :: ds) env = (match bindT t d env with
    | some env' => bindTs ts ds env'
    | none => none) := by (conv => lhs; unfold bindTs) <;> rfl
@[simp] theorem truthS_bl {b : Bool} : truthS s (.bl b) = .ok b s := id rfl
@[simp] theorem truthS_int {i : Int} : truthS s (.int i) = .ok (i != 0) s := id rfl
@[simp] theorem truthS_non : truthS s .non = .ok false s := id rfl
@[simp] theorem truthS_lst {ds : List D} : truthS s (.lst ds) = .ok (!ds.isEmpty) s := id rfl
@[simp] theorem deref_int {i : Int} : deref s (.int i) = .int i := id rfl
@[simp] theorem deref_bl {i : Bool} : deref s (.bl i) = .bl i := id rfl
@[simp] theorem deref_str {i : Str} : deref s (.str i) = .str i := id rfl
@[simp] theorem deref_non : deref s .non = .non := id rfl
@[simp] theorem deref_tup {ds : List D} : deref s (.tup ds) = .tup ds := id rfl
@[simp] theorem deref_lst {ds : List D} : deref s (.lst ds) = .lst ds := id rfl
@[simp] theorem deref_rol {ds : List D} : deref s (.rol ds) = .rol ds := id rfl
theorem call_at {fs : List Fn} {n i : Nat} {f : Fn} {ds : List D} (h : fs[i]? = some f) (hl : ds.length = f.ps.length) : callF fs gs (n + 1) i ds s = retOf (execs (callF fs gs n) gs f.body (startE f.N.length ds) s) := by
  show (match fs[i]? with
    | some f => if ds.length = f.ps.length then retOf (execs (callF fs gs n) gs f.body (startE f.N.length ds) s) else .err
    | none => if i < RX then .err else match fs[i - RX]? with
      | some f => if ds.length = f.ps.length then excOf (execs (callF fs gs n) gs f.body (startE f.N.length ds) s) else .err
      | none => .err) = _
  rw [h]
  exact if_pos hl
/-- what a def raises -/
theorem callX_at {fs : List Fn} {n i : Nat} {f : Fn} {ds : List D} (h : fs[i]? = some f) (hf : fs.length ≤ 1000) (hl : ds.length = f.ps.length) : callF fs gs (n + 1) (RX + i) ds s = excOf (execs (callF fs gs n) gs f.body (startE f.N.length ds) s) := by
  have h0 : fs[RX + i]? = none := List.getElem?_eq_none (by unfold RX; omega)
  have h1 : RX + i - RX = i := by omega
  have h2 : ¬ RX + i < RX := by omega
  show (match fs[RX + i]? with
    | some f => if ds.length = f.ps.length then retOf (execs (callF fs gs n) gs f.body (startE f.N.length ds) s) else .err
    | none => if RX + i < RX then .err else match fs[RX + i - RX]? with
      | some f => if ds.length = f.ps.length then excOf (execs (callF fs gs n) gs f.body (startE f.N.length ds) s) else .err
      | none => .err) = _
  rw [h0, h1]
  show (if RX + i < RX then Out.err else _) = _
  rw [if_neg h2, h]
  exact if_pos hl
@[simp] theorem excOf_rs {x : Str} {d : D} : excOf (.ok (.rs x d) s) = .ok (.tup [.str x, d]) s := id rfl
@[simp] theorem retOf_rs {x : Str} {d : D} : retOf (.ok (.rs x d) s) = .err := id rfl
@[simp] theorem exC_ok {d : D} {o : Out D} : exC env (.ok d s) o = .ok (.nx env) s := id rfl
@[simp] theorem exC_rs {x : Str} {d : D} : exC env .err (.ok (.tup [.str x, d]) s) = .ok (.rs x d) s := id rfl
@[simp] theorem tryC_ok {x : Str} {d : D} {o : Out D} : tryC x (.ok d s) o = .ok (.ret d) s := id rfl
@[simp] theorem tryC_rs {x : Str} {d : D} : tryC x .err (.ok (.tup [.str x, d]) s) = .ok (.ret .non) s := if_pos rfl
def setEo (env : Env) (n : Nat) (d : D) (i : Int) (s : Sto) : Option SO → Out Flow
  | some (.lst ds) => (match L2.ixN ds.length i with
    | some j => .ok (.nx env) (s.set n (.lst (ds.set j d)))
    | none => .err)
  | _ => .err
def setEx (env : Env) (d : D) (s : Sto) : D → D → Out Flow
  | .loc n, .int i => setEo env n d i s s[n]?
  | _, _ => .err
@[simp] theorem setEx_loc {d : D} {n : Nat} {i : Int} : setEx env d s (.loc n) (.int i) = setEo env n d i s s[n]? := id rfl
theorem setEo_lst {d : D} {n : Nat} {i : Int} {j : Nat} {ds : List D} (h : L2.ixN ds.length i = some j) : setEo env n d i s (some (.lst ds)) = .ok (.nx env) (s.set n (.lst (ds.set j d))) := by
  show (match L2.ixN ds.length i with
    | some j => Out.ok (Flow.nx env) (s.set n (.lst (ds.set j d)))
    | none => .err) = _
  rw [h]
@[simp] theorem exec_setE {a k e : Ex} : exec cf gs (.setE a k e) env s = (ev cf gs false e env s).bind fun d s => (ev cf gs true a env s).bind fun o s => (ev cf gs true k env s).bind fun x s => setEx env d s o x := by (simp only [exec]) <;> rfl
def raiseD (x : Str) (s : Sto) : D → Out Flow
  | .int i => if 0 ≤ i ∧ i ≤ 1000000000000 then .ok (.rs x (.int i)) s else .err
  | _ => .err
theorem raiseD_int {x : Str} {i : Int} (h : 0 ≤ i ∧ i ≤ 1000000000000) : raiseD x s (.int i) = .ok (.rs x (.int i)) s := if_pos h
@[simp] theorem exec_raise {x : Str} {e : Ex} : exec cf gs (.raise x e) env s = (ev cf gs false e env s).bind fun d s => raiseD x s d := by (simp only [exec]) <;> rfl
def exMo (cf : Nat → List D → Sto → Out D) (gs : List D) (env : Env) (x m : Str) (k : Nat) (es : Exs) (n : Nat) (s : Sto) : Option SO → Out Flow
  | some (.obj x' fs) => if x' = x ∧ (fs.lookup m).isNone = true then (evL cf gs false es env s).bind fun ds s => exC env (cf k (.loc n :: ds) s) (cf (RX + k) (.loc n :: ds) s) else .err
  | _ => .err
def exMd (cf : Nat → List D → Sto → Out D) (gs : List D) (env : Env) (x m : Str) (k : Nat) (es : Exs) (s : Sto) : D → Out Flow
  | .loc n => exMo cf gs env x m k es n s s[n]?
  | _ => .err
@[simp] theorem exMd_loc {x m : Str} {k n : Nat} {es : Exs} : exMd cf gs env x m k es s (.loc n) = exMo cf gs env x m k es n s s[n]? := id rfl
theorem exMo_obj {x m : Str} {k n : Nat} {es : Exs} {fs : List (Str × D)} (h : fs.lookup m = none) : exMo cf gs env x m k es n s (some (.obj x fs)) = (evL cf gs false es env s).bind fun ds s => exC env (cf k (.loc n :: ds) s) (cf (RX + k) (.loc n :: ds) s) := if_pos ⟨rfl, by rw [h]; rfl⟩
@[simp] theorem exec_exM {x m : Str} {o : Ex} {k : Nat} {es : Exs} : exec cf gs (.exM x o m k es) env s = (ev cf gs true o env s).bind fun o s => exMd cf gs env x m k es s o := by (simp only [exec]) <;> rfl
@[simp] theorem exec_tryR {x : Str} {f : Nat} {es : Exs} : exec cf gs (.tryR x f es) env s = if borrows env es = true then .err else (evL cf gs true es env s).bind fun ds s => tryC x (cf f ds s) (cf (RX + f) ds s) := by (simp only [exec]) <;> rfl
@[simp] theorem retOf_ret {d : D} : retOf (.ok (.ret d) s) = .ok d s := id rfl
@[simp] theorem retOf_nx : retOf (.ok (.nx env) s) = .ok .non s := id rfl
theorem idx_tup {xs : List D} {k : Nat} {d : D} (h : xs[k]? = some d) : idxD (.tup xs) (.int k) = some d := by
  show L2.atI xs (k : Int) = some d
  have hk : k < xs.length := (List.getElem?_eq_some_iff.mp h).1
  unfold L2.atI L2.ixN
  simp [hk]
  exact (List.getElem?_eq_some_iff.mp h).2
end

@[simp] theorem setAll_nil {env : Env} : setAll env [] [] = some env := id rfl
@[simp] theorem setAll_c {env : Env} {i : Nat} {is : List Nat} {v : SV} {vs : List SV} : setAll env (i :: is) (v :: vs) = setAll (env.set i (some v)) is vs := id rfl
/-! ### while -/
theorem whileN_succ {c : Env → Sto → Out Bool} {b : Env → Sto → Out Flow} : ∀ {n : Nat} {env : Env} {s s' : Sto} {fl : Flow}, whileN c b n env s = .ok fl s' → whileN c b (n + 1) env s = .ok fl s'
  | 0, env, s, s', fl, h => by cases h
  | n + 1, env, s, s', fl, h => by
    unfold whileN at h ⊢
    cases e : c env s with
    | err => rw [e] at h; cases h
    | ok t s1 =>
      rw [e, ok_bind] at h
      rw [ok_bind]
      cases t with
      | false => exact h
      | true =>
        simp only [if_true] at h ⊢
        cases e2 : b env s1 with
        | err => rw [e2] at h; cases h
        | ok fl2 s2 =>
          rw [e2, ok_bind] at h
          rw [ok_bind]
          cases fl2 with
          | nx env' => exact whileN_succ h
          | ct env' => exact whileN_succ h
          | bk env' => exact h
          | ret d => exact h
          | rs x d => exact h
theorem whileN_add {c : Env → Sto → Out Bool} {b : Env → Sto → Out Flow} {n : Nat} {env : Env} {s s' : Sto} {fl : Flow} (h : whileN c b n env s = .ok fl s') : ∀ k, whileN c b (n + k) env s = .ok fl s'
  | 0 => h
  | k + 1 => whileN_succ (whileN_add h k)
theorem whileF_eq {c : Env → Sto → Out Bool} {b : Env → Sto → Out Flow} {n : Nat} {env : Env} {s s' : Sto} {fl : Flow} (h : whileN c b n env s = .ok fl s') : whileF c b env s = .ok fl s' := by
  have hx : ∃ n, whileN c b n env s ≠ .err := ⟨n, by rw [h]; simp⟩
  unfold whileF
  rw [dif_pos hx]
  have h2 := Classical.choose_spec hx
  cases e : whileN c b (Classical.choose hx) env s with
  | err => exact absurd e h2
  | ok fl2 s2 =>
    have e1 := whileN_add e n
    have e2 := whileN_add h (Classical.choose hx)
    rw [Nat.add_comm, e2] at e1
    exact e1.symm
theorem whileN_stop {c : Env → Sto → Out Bool} {b : Env → Sto → Out Flow} {n : Nat} {env : Env} {s s1 : Sto} (h : c env s = .ok false s1) : whileN c b (n + 1) env s = .ok (.nx env) s1 := by
  unfold whileN
  rw [h]; rfl
theorem whileN_go {c : Env → Sto → Out Bool} {b : Env → Sto → Out Flow} {n : Nat} {env env' : Env} {s s1 s2 : Sto} (h : c env s = .ok true s1) (h2 : b env s1 = .ok (.nx env') s2) : whileN c b (n + 1) env s = whileN c b n env' s2 := by
  conv => lhs; unfold whileN
  rw [h, ok_bind, if_pos rfl, h2]; rfl
/-! ### loops and comprehensions -/
theorem flatF_pure {α : Type} {f : D → Sto → Out (List D)} {mk : α → D} {g : α → List D} {s : Sto} : ∀ {xs : List α}, (∀ x ∈ xs, f (mk x) s = .ok (g x) s) → flatF f (xs.map mk) s = .ok (xs.flatMap g) s
  | [], _ => rfl
  | x :: xs, h => by
    have ih := flatF_pure (f := f) (mk := mk) (g := g) (s := s) (xs := xs) fun y hy => h y (List.mem_cons_of_mem _ hy)
    show (f (mk x) s).bind (fun xs' s1 => (flatF f (xs.map mk) s1).bind fun ys s2 => .ok (xs' ++ ys) s2) = _
    rw [h x List.mem_cons_self, ok_bind, ih, ok_bind]
    rfl
/-- with a state -/
theorem flatF_st {α : Type} {f : D → Sto → Out (List D)} {mk : α → D} {I : Sto → Prop} {R : α → List D → Prop} : ∀ {xs : List α} {s : Sto}, I s → (∀ x ∈ xs, ∀ s, I s → ∃ ys s', f (mk x) s = .ok ys s' ∧ I s' ∧ R x ys) →
    ∃ (yss : List (List D)) (s' : Sto), flatF f (xs.map mk) s = .ok (yss.flatten) s' ∧ I s' ∧ yss.length = xs.length ∧ ∀ (i : Nat) x ys, xs[i]? = some x → yss[i]? = some ys → R x ys
  | [], s, hI, _ => ⟨[], s, rfl, hI, rfl, fun i x ys h => by simp at h⟩
  | x :: xs, s, hI, h => by
    obtain ⟨ys, s1, e1, I1, r1⟩ := h x List.mem_cons_self s hI
    obtain ⟨yss, s2, e2, I2, hl, r2⟩ := flatF_st (f := f) (mk := mk) (R := R) (xs := xs) I1 fun y hy => h y (List.mem_cons_of_mem _ hy)
    refine ⟨ys :: yss, s2, ?_, I2, by simp [hl], fun i y zs h1 h2 => ?_⟩
    · show (f (mk x) s).bind (fun xs' s1 => (flatF f (xs.map mk) s1).bind fun ys s2 => .ok (xs' ++ ys) s2) = _
      rw [e1, ok_bind, e2, ok_bind]; rfl
    · cases i with
      | zero => simp at h1 h2; subst h1 h2; exact r1
      | succ i => simp at h1 h2; exact r2 i y zs h1 h2
theorem forF_inv {α : Type} {f : D → Env → Sto → Out Flow} {mk : α → D} {I : List α → Env → Sto → Prop} : ∀ {xs pre : List α} {env : Env} {s : Sto}, I pre env s →
    (∀ p x q env s, pre ++ xs = p ++ x :: q → I p env s → ∃ env' s', f (mk x) env s = .ok (.nx env') s' ∧ I (p ++ [x]) env' s') → ∃ env' s', forF f (xs.map mk) env s = .ok (.nx env') s' ∧ I (pre ++ xs) env' s'
  | [], pre, env, s, hI, _ => ⟨env, s, rfl, by simpa using hI⟩
  | x :: xs, pre, env, s, hI, h => by
    obtain ⟨env1, s1, e1, I1⟩ := h pre x xs env s rfl hI
    obtain ⟨env2, s2, e2, I2⟩ := forF_inv (f := f) (mk := mk) (I := I) (xs := xs) (pre := pre ++ [x]) I1 fun p y q env s e => h p y q env s (by rw [← e]; simp)
    refine ⟨env2, s2, ?_, by simpa using I2⟩
    show (f (mk x) env s).bind _ = _
    rw [e1, ok_bind]; exact e2
end PV
set_option maxRecDepth 100000
set_option maxHeartbeats 4000000
/-! Equality of deep values, plainly. -/
namespace PV
open PySem
mutual
/-- no truth value, no object of the store -/
def nob? : D → Bool
  | .non => true
  | .int _ => true
  | .str x => PyData.strOk x
  | .tup xs => nobs? xs
  | .lst xs => nobs? xs
  | _ => false
def nobs? : List D → Bool
  | [] => true
  | d :: ds => nob? d && nobs? ds
end
mutual
def dep : D → Nat
  | .tup xs => deps xs + 1
  | .lst xs => deps xs + 1
  | _ => 0
def deps : List D → Nat
  | [] => 0
  | d :: ds => max (dep d) (deps ds)
end
mutual
theorem pure_nob : ∀ {d : D}, nob? d = true → pure? d = true ∧ (toPy d).canLay0 = true ∧ (toPy d).depth ≤ dep d + 1
  | .non, _ => ⟨rfl, rfl, by simp [toPy, PyData.depth, dep]⟩
  | .int _, _ => ⟨rfl, rfl, by simp [toPy, PyData.depth, dep]⟩
  | .str x, h => ⟨rfl, by simpa [nob?, toPy, PyData.canLay0] using h, by simp [toPy, PyData.depth, dep]⟩
  | .tup xs, h => by
    have h' : nobs? xs = true := by simpa [nob?] using h
    obtain ⟨a, b, c⟩ := pure_nobs h'
    exact ⟨by simpa [pure?] using a, by simpa [toPy, PyData.canLay0] using b, by simp only [toPy, PyData.depth, dep]; omega⟩
  | .lst xs, h => by
    have h' : nobs? xs = true := by simpa [nob?] using h
    obtain ⟨a, b, c⟩ := pure_nobs h'
    exact ⟨by simpa [pure?] using a, by simpa [toPy, PyData.canLay0] using b, by simp only [toPy, PyData.depth, dep]; omega⟩
  | .bl _, h => by simp [nob?] at h
  | .rol _, h => by simp [nob?] at h
  | .loc _, h => by simp [nob?] at h
theorem pure_nobs : ∀ {ds : List D}, nobs? ds = true → pures? ds = true ∧ PyData.canLayAll0 (toPys ds) = true ∧ PyData.depthAll (toPys ds) ≤ deps ds + 1
  | [], _ => ⟨rfl, rfl, by simp [toPys, PyData.depthAll, deps]⟩
  | d :: ds, h => by
    have h' : nob? d = true ∧ nobs? ds = true := by simpa [nobs?] using h
    obtain ⟨a, b, c⟩ := pure_nob h'.1
    obtain ⟨a2, b2, c2⟩ := pure_nobs h'.2
    refine ⟨by simp [pures?, a, a2], by simp [toPys, PyData.canLayAll0, b, b2], ?_⟩
    simp only [toPys, PyData.depthAll, deps]
    omega
end
theorem shp_nob {d : D} (h : nob? d = true) (h2 : dep d ≤ 60) : shp d = true := by
  obtain ⟨a, b, c⟩ := pure_nob h
  have : (toPy d).depth ≤ 64 := by omega
  simp [shp, SeqAt.shaped, a, b, this]
mutual
theorem eqv_iff : ∀ {a b : D}, nob? a = true → nob? b = true → (PyData.eqv (toPy a) (toPy b) = true ↔ a = b)
  | .non, b, _, hb => by cases b <;> simp [nob?] at hb <;> simp [toPy, PyData.eqv]
  | .int i, b, _, hb => by cases b <;> simp [nob?] at hb <;> simp [toPy, PyData.eqv]
  | .str x, b, _, hb => by cases b <;> simp [nob?] at hb <;> simp [toPy, PyData.eqv]
  | .tup xs, b, ha, hb => by
    have ha' : nobs? xs = true := by simpa [nob?] using ha
    cases b with
    | tup ys =>
      have hb' : nobs? ys = true := by simpa [nob?] using hb
      simp [toPy, PyData.eqv, eqvs_iff ha' hb']
    | _ => simp [nob?] at hb <;> simp [toPy, PyData.eqv]
  | .lst xs, b, ha, hb => by
    have ha' : nobs? xs = true := by simpa [nob?] using ha
    cases b with
    | lst ys =>
      have hb' : nobs? ys = true := by simpa [nob?] using hb
      simp [toPy, PyData.eqv, eqvs_iff ha' hb']
    | _ => simp [nob?] at hb <;> simp [toPy, PyData.eqv]
  | .bl _, _, h, _ => by simp [nob?] at h
  | .rol _, _, h, _ => by simp [nob?] at h
  | .loc _, _, h, _ => by simp [nob?] at h
theorem eqvs_iff : ∀ {a b : List D}, nobs? a = true → nobs? b = true → (PyData.eqvAll (toPys a) (toPys b) = true ↔ a = b)
  | [], [], _, _ => by simp [toPys, PyData.eqvAll]
  | [], _ :: _, _, _ => by simp [toPys, PyData.eqvAll]
  | _ :: _, [], _, _ => by simp [toPys, PyData.eqvAll]
  | x :: xs, y :: ys, ha, hb => by
    have ha' : nob? x = true ∧ nobs? xs = true := by simpa [nobs?] using ha
    have hb' : nob? y = true ∧ nobs? ys = true := by simpa [nobs?] using hb
    simp [toPys, PyData.eqvAll, eqv_iff ha'.1 hb'.1, eqvs_iff ha'.2 hb'.2]
end
/-- data of the kind that the laws compare -/
def Dat (d : D) : Prop := nob? d = true ∧ dep d ≤ 60
theorem eq_dat {a b : D} (ha : Dat a) (hb : Dat b) (h : a = b) : cmpD .eq a b = some true := by
  show eqD a b = _
  unfold eqD
  rw [if_pos ⟨shp_nob ha.1 ha.2, shp_nob hb.1 hb.2⟩, (eqv_iff ha.1 hb.1).mpr h]
theorem ne_dat {a b : D} (ha : Dat a) (hb : Dat b) (h : a ≠ b) : cmpD .eq a b = some false := by
  show eqD a b = _
  unfold eqD
  rw [if_pos ⟨shp_nob ha.1 ha.2, shp_nob hb.1 hb.2⟩]
  cases e : PyData.eqv (toPy a) (toPy b) with
  | true => exact absurd ((eqv_iff ha.1 hb.1).mp e) h
  | false => rfl
open Classical in
theorem eqD_dat {a b : D} (ha : Dat a) (hb : Dat b) : cmpD .eq a b = some (decide (a = b)) := by
  by_cases h : a = b
  · rw [eq_dat ha hb h]; simp [h]
  · rw [ne_dat ha hb h]; simp [h]
theorem neD_eq {a b : D} {t : Bool} (h : cmpD .eq a b = some t) : cmpD .ne a b = some (!t) := by
  show (eqD a b).map (!·) = _
  rw [show eqD a b = some t from h]; rfl
theorem Dat.int {i : Int} : Dat (.int i) := ⟨rfl, by simp [dep]⟩
theorem Dat.non : Dat .non := ⟨rfl, by simp [dep]⟩
theorem Dat.str {x : Str} (h : PyData.strOk x = true) : Dat (.str x) := ⟨by simpa [nob?] using h, by simp [dep]⟩
theorem nobs_of : ∀ {ds : List D}, (∀ d ∈ ds, nob? d = true) → nobs? ds = true
  | [], _ => rfl
  | d :: ds, h => by simp [nobs?, h d List.mem_cons_self, nobs_of fun x hx => h x (List.mem_cons_of_mem _ hx)]
theorem deps_of {k : Nat} : ∀ {ds : List D}, (∀ d ∈ ds, dep d ≤ k) → deps ds ≤ k
  | [], _ => Nat.zero_le _
  | d :: ds, h => by
    have h1 := h d List.mem_cons_self
    have h2 := deps_of (k := k) fun x hx => h x (List.mem_cons_of_mem _ hx)
    show max (dep d) (deps ds) ≤ k
    omega
/-- .. with its depth told -/
def DatK (k : Nat) (d : D) : Prop := nob? d = true ∧ dep d ≤ k
theorem DatK.up {k j : Nat} {d : D} (h : DatK k d) (hk : k ≤ j) : DatK j d := ⟨h.1, by have := h.2; omega⟩
theorem DatK.dat {k : Nat} {d : D} (h : DatK k d) (hk : k ≤ 60) : Dat d := ⟨h.1, by have := h.2; omega⟩
theorem DatK.int {k : Nat} {i : Int} : DatK k (.int i) := ⟨rfl, by simp [dep]⟩
theorem DatK.non {k : Nat} : DatK k .non := ⟨rfl, by simp [dep]⟩
theorem DatK.str {k : Nat} {x : Str} (h : PyData.strOk x = true) : DatK k (.str x) := ⟨by simpa [nob?] using h, by simp [dep]⟩
theorem DatK.tup {k : Nat} {ds : List D} (h : ∀ d ∈ ds, DatK k d) : DatK (k + 1) (.tup ds) := ⟨by simpa [nob?] using nobs_of fun d hd => (h d hd).1, by
  have := deps_of (k := k) fun d hd => (h d hd).2
  simp only [dep]; omega⟩
theorem DatK.lst {k : Nat} {ds : List D} (h : ∀ d ∈ ds, DatK k d) : DatK (k + 1) (.lst ds) := ⟨by simpa [nob?] using nobs_of fun d hd => (h d hd).1, by
  have := deps_of (k := k) fun d hd => (h d hd).2
  simp only [dep]; omega⟩
theorem toPys_map : ∀ {ds : List D}, toPys ds = ds.map toPy
  | [] => rfl
  | d :: ds => by simp [toPys, toPys_map]
open Classical in
/-- x in a list of plain data -/
theorem in_lst {x : D} {ds : List D} {k : Nat} (hk : k ≤ 50) (hx : DatK k x) (hd : ∀ d ∈ ds, DatK k d) : inD x (.lst ds) = some (decide (x ∈ ds)) := by
  show (if shp x = true ∧ shp (D.lst ds) = true then some ((toPys ds).any fun z => z.eqv (toPy x)) else none) = _
  rw [if_pos ⟨shp_nob hx.1 (by have := hx.2; omega), by have := DatK.lst hd; exact shp_nob this.1 (by have := this.2; omega)⟩]
  congr 1
  rw [toPys_map, Bool.eq_iff_iff]
  simp only [List.any_map, List.any_eq_true, Function.comp, decide_eq_true_eq]
  constructor
  · rintro ⟨y, hy, e⟩
    rw [(eqv_iff (hd y hy).1 hx.1).mp e] at hy
    exact hy
  · exact fun h => ⟨x, h, (eqv_iff hx.1 hx.1).mpr rfl⟩
open Classical in
theorem in_tup {x : D} {ds : List D} {k : Nat} (hk : k ≤ 50) (hx : DatK k x) (hd : ∀ d ∈ ds, DatK k d) : inD x (.tup ds) = some (decide (x ∈ ds)) := by
  show (if shp x = true ∧ shp (D.tup ds) = true then some ((toPys ds).any fun z => z.eqv (toPy x)) else none) = _
  rw [if_pos ⟨shp_nob hx.1 (by have := hx.2; omega), by have := DatK.tup hd; exact shp_nob this.1 (by have := this.2; omega)⟩]
  congr 1
  rw [toPys_map, Bool.eq_iff_iff]
  simp only [List.any_map, List.any_eq_true, Function.comp, decide_eq_true_eq]
  constructor
  · rintro ⟨y, hy, e⟩
    rw [(eqv_iff (hd y hy).1 hx.1).mp e] at hy
    exact hy
  · exact fun h => ⟨x, h, (eqv_iff hx.1 hx.1).mpr rfl⟩
theorem int_inj {i j : Int} : D.int i = D.int j ↔ i = j := ⟨fun h => by cases h; rfl, fun h => by rw [h]⟩
theorem str_inj {i j : Str} : D.str i = D.str j ↔ i = j := ⟨fun h => by cases h; rfl, fun h => by rw [h]⟩
theorem eq_str {x y : Str} (hx : PyData.strOk x = true) (hy : PyData.strOk y = true) : cmpD .eq (.str x) (.str y) = some (decide (x = y)) := by
  rw [eqD_dat (Dat.str hx) (Dat.str hy)]
  congr 1
  by_cases h : x = y <;> simp [h, str_inj]
end PV
set_option maxRecDepth 100000
namespace PV.K81
open PySem PySem.Spec PyProof.Rows L2 PV
/-! ### the code -/
def c__wall : Fn := ⟨["k"], ["k"], (.c (.whl (.bl true) (.c .pass .nil)) .nil)⟩
def c_is_number : Fn := ⟨["value", "least", "most"], ["value", "least", "most"], (.c (.ret (.bop true (.c (.isi (.var 0) .int) (.c (.not (.isi (.var 0) .bool)) (.c (.chn .le .le (.var 1) (.var 0) (.var 2)) .nil))))) .nil)⟩
def c_size_of : Fn := ⟨["heights"], ["heights"], (.c (.ret (.tup (.c (.blt .len (.c (.idx (.var 0) (.int 0)) .nil)) (.c (.blt .len (.c (.var 0) .nil)) .nil)))) .nil)⟩
def c_level_block : Fn := ⟨["size", "top"], ["size", "top"], (.c (.ret (.bin .mul (.tup (.c (.bin .mul (.tup (.c (.var 1) .nil)) (.idx (.var 0) (.int 0))) .nil)) (.idx (.var 0) (.int 1)))) .nil)⟩
def c_is_below : Fn := ⟨["one", "other", "row", "there", "a", "b"], ["one", "other"], (.c (.ret (.blt .all (.c (.fz (.cp2 (.cmp .le (.var 4) (.var 5)) (.tp (.c (.nm 2) (.c (.nm 3) .nil))) (.zip (.var 0) (.var 1)) .n (.tp (.c (.nm 4) (.c (.nm 5) .nil))) (.zip (.var 2) (.var 3)) .n [2, 3, 4, 5] [4, 5])) .nil))) .nil)⟩
def c_least_of : Fn := ⟨["one", "other", "row", "there", "a", "b"], ["one", "other"], (.c (.ret (.blt .tup (.c (.fz (.cp1 (.blt .tup (.c (.fz (.cp1 (.blt .min (.c (.var 4) (.c (.var 5) .nil))) (.tp (.c (.nm 4) (.c (.nm 5) .nil))) (.zip (.var 2) (.var 3)) .n [4, 5])) .nil)) (.tp (.c (.nm 2) (.c (.nm 3) .nil))) (.zip (.var 0) (.var 1)) .n [2, 3])) .nil))) .nil)⟩
def c_tool_named : Fn := ⟨["tools", "name", "found", "tool"], ["tools", "name"], (.c (.asg (.nm 2) (.fz (.cp1 (.var 3) (.nm 3) (.seq (.var 0)) (.s (.cmp .eq (.idx (.var 3) (.int 0)) (.var 1))) [3]))) (.c (.ret (.ite (.var 2) (.idx (.var 2) (.int 0)) .non)) .nil))⟩
def c_is_place : Fn := ⟨["size", "tool", "value"], ["size", "tool", "value"], (.c (.ite (.bop false (.c (.not (.isi (.var 2) .tup)) (.c (.cmp .ne (.blt .len (.c (.var 2) .nil)) (.int 3)) .nil))) (.c (.ret (.bl false)) .nil) .nil) (.c (.ite (.bop false (.c (.not (.call 1 (.c (.idx (.var 2) (.int 0)) (.c (.int 0) (.c (.bin .sub (.idx (.var 0) (.int 0)) (.idx (.var 1) (.int 1))) .nil))))) (.c (.not (.call 1 (.c (.idx (.var 2) (.int 1)) (.c (.int 0) (.c (.bin .sub (.idx (.var 0) (.int 1)) (.idx (.var 1) (.int 1))) .nil))))) .nil))) (.c (.ret (.bl false)) .nil) .nil) (.c (.ret (.call 1 (.c (.idx (.var 2) (.int 2)) (.c (.int 0) (.c (.gl 0) .nil))))) .nil)))⟩
def c_fields_beneath : Fn := ⟨["tool", "spot", "x", "y", "b", "a"], ["tool", "spot"], (.c (.asg (.tp (.c (.nm 2) (.c (.nm 3) .nil))) (.var 1)) (.c (.ret (.fz (.cp2 (.tup (.c (.var 5) (.c (.var 4) .nil))) (.nm 4) (.rg2 (.var 3) (.bin .add (.var 3) (.idx (.var 0) (.int 1)))) .n (.nm 5) (.rg2 (.var 2) (.bin .add (.var 2) (.idx (.var 0) (.int 1)))) .n [4, 5] [5]))) .nil))⟩
def c_fields_about : Fn := ⟨["size", "tool", "spot", "x", "y", "rim", "side", "found", "b", "a"], ["size", "tool", "spot"], (.c (.asg (.tp (.c (.nm 3) (.c (.nm 4) .nil))) (.var 2)) (.c (.par [5, 6] (.v (.idx (.var 1) (.int 3)) (.v (.idx (.var 1) (.int 1)) .nil))) (.c (.own 7 (.dsp .nil)) (.c (.for (.nm 8) (.rg2 (.blt .max (.c (.int 0) (.c (.bin .sub (.var 4) (.var 5)) .nil))) (.blt .min (.c (.idx (.var 0) (.int 1)) (.c (.bin .add (.bin .add (.var 4) (.var 6)) (.var 5)) .nil)))) (.c (.for (.nm 9) (.rg2 (.blt .max (.c (.int 0) (.c (.bin .sub (.var 3) (.var 5)) .nil))) (.blt .min (.c (.idx (.var 0) (.int 0)) (.c (.bin .add (.bin .add (.var 3) (.var 6)) (.var 5)) .nil)))) (.c (.ite (.not (.bop true (.c (.chn .le .lt (.var 3) (.var 9) (.bin .add (.var 3) (.var 6))) (.c (.chn .le .lt (.var 4) (.var 8) (.bin .add (.var 4) (.var 6))) .nil)))) (.c (.app 7 (.tup (.c (.var 9) (.c (.var 8) .nil)))) .nil) .nil) .nil)) .nil)) (.c (.ret (.var 7)) .nil)))))⟩
def c_greatest_at : Fn := ⟨["heights", "fields", "x", "y"], ["heights", "fields"], (.c (.ret (.blt .max (.c (.bin .add (.fz (.dsp (.c (.int 0) .nil))) (.fz (.cp1 (.idx (.idx (.var 0) (.var 3)) (.var 2)) (.tp (.c (.nm 2) (.c (.nm 3) .nil))) (.seq (.var 1)) .n [2, 3]))) .nil))) .nil)⟩
def c_is_free : Fn := ⟨["block", "tool", "place"], ["block", "tool", "place"], (.c (.ret (.cmp .le (.call 10 (.c (.var 0) (.c (.call 8 (.c (.var 1) (.c (.slc (.var 2) .n (.s (.int 2))) .nil))) .nil))) (.idx (.var 2) (.int 2)))) .nil)⟩
def c_is_shank_free : Fn := ⟨["block", "tool", "place", "size", "beneath", "about"], ["block", "tool", "place"], (.c (.asg (.nm 3) (.call 2 (.c (.var 0) .nil))) (.c (.par [4, 5] (.v (.call 8 (.c (.var 1) (.c (.slc (.var 2) .n (.s (.int 2))) .nil))) (.v (.call 9 (.c (.var 3) (.c (.var 1) (.c (.slc (.var 2) .n (.s (.int 2))) .nil)))) .nil))) (.c (.ret (.cmp .le (.call 10 (.c (.var 0) (.c (.bin .add (.var 4) (.var 5)) .nil))) (.bin .add (.idx (.var 2) (.int 2)) (.idx (.var 1) (.int 2))))) .nil)))⟩
def c_cut_at : Fn := ⟨["block", "tool", "place", "x", "y", "z", "side", "found", "b", "row", "inside", "a", "h"], ["block", "tool", "place"], (.c (.asg (.tp (.c (.nm 3) (.c (.nm 4) (.c (.nm 5) .nil)))) (.var 2)) (.c (.par [6, 7] (.v (.idx (.var 1) (.int 1)) (.o (.dsp .nil) .nil))) (.c (.for (.tp (.c (.nm 8) (.c (.nm 9) .nil))) (.enm (.var 0)) (.c (.asg (.nm 10) (.chn .le .lt (.var 4) (.var 8) (.bin .add (.var 4) (.var 6)))) (.c (.app 7 (.blt .tup (.c (.fz (.cp1 (.ite (.bop true (.c (.var 10) (.c (.chn .le .lt (.var 3) (.var 11) (.bin .add (.var 3) (.var 6))) .nil))) (.blt .min (.c (.var 12) (.c (.var 5) .nil))) (.var 12)) (.tp (.c (.nm 11) (.c (.nm 12) .nil))) (.enm (.var 9)) .n [11, 12])) .nil))) .nil))) (.c (.ret (.blt .tup (.c (.var 7) .nil))) .nil))))⟩
def c_unit_steps : Fn := ⟨["place", "other", "found", "here", "axis"], ["place", "other"], (.c (.par [2, 3] (.o (.dsp .nil) (.o (.lof (.var 0)) .nil))) (.c (.for (.nm 4) (.seq (.tup (.c (.int 0) (.c (.int 1) (.c (.int 2) .nil))))) (.c (.whl (.cmp .ne (.idx (.var 3) (.var 4)) (.idx (.var 1) (.var 4))) (.c (.augV 3 (.var 4) .add (.ite (.cmp .lt (.idx (.var 3) (.var 4)) (.idx (.var 1) (.var 4))) (.int 1) (.neg (.int 1)))) (.c (.app 2 (.blt .tup (.c (.var 3) .nil))) .nil))) .nil)) (.c (.ret (.var 2)) .nil)))⟩
def c_block_behind : Fn := ⟨["block", "tools", "moves", "mill", "move"], ["block", "tools", "moves"], (.c (.asg (.nm 3) (.new "Mill" 47 (.c (.var 0) (.c (.var 1) .nil)))) (.c (.for (.nm 4) (.seq (.var 2)) (.c (.exM "Mill" (.var 3) "do" 54 (.c (.var 4) .nil)) .nil)) (.c (.ret (.mth "Mill" (.var 3) "block" 48 .nil)) .nil)))⟩
def c_ways_of : Fn := ⟨["tools", "plan", "found", "tool", "place", "kind", "what"], ["tools", "plan"], (.c (.par [2, 3, 4] (.o (.dsp .nil) (.v .non (.v (.gl 3) .nil)))) (.c (.for (.tp (.c (.nm 5) (.c (.nm 6) .nil))) (.seq (.var 1)) (.c (.ite (.cmp .eq (.var 5) (.gl 2)) (.c (.par [3, 4] (.v (.call 6 (.c (.var 0) (.c (.var 6) .nil))) (.v (.gl 3) .nil))) (.c (.app 2 (.tup (.c (.var 3) (.c (.gl 3) (.c (.gl 3) .nil))))) .nil)) (.c (.app 2 (.tup (.c (.var 3) (.c (.var 4) (.c (.var 6) .nil))))) (.c (.asg (.nm 4) (.var 6)) .nil))) .nil)) (.c (.ret (.var 2)) .nil)))⟩
def c_steps_told : Fn := ⟨["tools", "plan", "found", "k", "tool", "begin", "end", "place"], ["tools", "plan"], (.c (.own 2 (.dsp .nil)) (.c (.for (.tp (.c (.nm 3) (.c (.tp (.c (.nm 4) (.c (.nm 5) (.c (.nm 6) .nil)))) .nil))) (.enm (.call 16 (.c (.var 0) (.c (.var 1) .nil)))) (.c (.ext 2 (.fz (.cp1 (.tup (.c (.var 3) (.c (.var 4) (.c (.idx (.idx (.var 1) (.var 3)) (.int 0)) (.c (.var 7) .nil))))) (.nm 7) (.seq (.call 14 (.c (.var 5) (.c (.var 6) .nil)))) .n [7]))) .nil)) (.c (.ret (.var 2)) .nil)))⟩
def c_lowered_where : Fn := ⟨["most", "depth", "fields", "limit", "rows", "x", "y", "row"], ["most", "depth", "fields", "limit"], (.c (.asg (.nm 4) (.fz (.cp1 (.alloc (.lof (.var 7))) (.nm 7) (.seq (.var 0)) .n [7]))) (.c (.for (.tp (.c (.nm 5) (.c (.nm 6) .nil))) (.seq (.var 2)) (.c (.ite (.cmp .gt (.idx (.idx (.var 1) (.var 6)) (.var 5)) (.var 3)) (.c (.setE (.idx (.var 4) (.var 6)) (.var 5) (.blt .min (.c (.idx (.idx (.var 4) (.var 6)) (.var 5)) (.c (.var 3) .nil)))) .nil) .nil) .nil)) (.c (.ret (.blt .tup (.c (.fz (.cp1 (.blt .tup (.c (.var 7) .nil)) (.nm 7) (.seq (.var 4)) .n [7])) .nil))) .nil)))⟩
def c_trace_of : Fn := ⟨["size", "tools", "plan", "most", "depth", "_", "tool", "kind", "place", "beneath", "about"], ["size", "tools", "plan"], (.c (.par [3, 4] (.v (.call 3 (.c (.var 0) (.c (.gl 0) .nil))) (.v (.call 3 (.c (.var 0) (.c (.gl 0) .nil))) .nil))) (.c (.for (.tp (.c (.nm 5) (.c (.nm 6) (.c (.nm 7) (.c (.nm 8) .nil))))) (.seq (.call 17 (.c (.var 1) (.c (.var 2) .nil)))) (.c (.par [9, 10] (.v (.call 8 (.c (.var 6) (.c (.slc (.var 8) .n (.s (.int 2))) .nil))) (.v (.call 9 (.c (.var 0) (.c (.var 6) (.c (.slc (.var 8) .n (.s (.int 2))) .nil)))) .nil))) (.c (.asg (.nm 3) (.call 18 (.c (.var 3) (.c (.var 4) (.c (.bin .add (.var 9) (.var 10)) (.c (.bin .add (.idx (.var 8) (.int 2)) (.idx (.var 6) (.int 2))) .nil)))))) (.c (.ite (.cmp .eq (.var 7) (.gl 1)) (.c (.asg (.nm 3) (.call 18 (.c (.var 3) (.c (.var 4) (.c (.var 9) (.c (.idx (.var 8) (.int 2)) .nil)))))) .nil) .nil) (.c (.asg (.nm 4) (.call 13 (.c (.var 4) (.c (.var 6) (.c (.var 8) .nil))))) .nil))))) (.c (.ret (.tup (.c (.var 3) (.c (.var 4) .nil)))) .nil)))⟩
def c_left_by : Fn := ⟨["trace", "block", "most", "depth"], ["trace", "block"], (.c (.asg (.tp (.c (.nm 2) (.c (.nm 3) .nil))) (.var 0)) (.c (.ret (.ite (.call 4 (.c (.var 1) (.c (.var 2) .nil))) (.call 5 (.c (.var 1) (.c (.var 3) .nil))) .non)) .nil))⟩
def c_are_alike : Fn := ⟨["size", "tools", "plan", "other", "one", "two"], ["size", "tools", "plan", "other"], (.c (.par [4, 5] (.v (.call 19 (.c (.var 0) (.c (.var 1) (.c (.var 2) .nil)))) (.v (.call 19 (.c (.var 0) (.c (.var 1) (.c (.var 3) .nil)))) .nil))) (.c (.ret (.bop true (.c (.cmp .eq (.idx (.var 4) (.int 0)) (.idx (.var 5) (.int 0))) (.c (.cmp .eq (.call 5 (.c (.idx (.var 4) (.int 0)) (.c (.idx (.var 4) (.int 1)) .nil))) (.call 5 (.c (.idx (.var 5) (.int 0)) (.c (.idx (.var 5) (.int 1)) .nil)))) .nil)))) .nil))⟩
def c_left_or_none : Fn := ⟨["block", "tools", "plan"], ["block", "tools", "plan"], (.c (.tryR "Strike" 15 (.c (.var 0) (.c (.var 1) (.c (.var 2) .nil)))) .nil)⟩
def c_parts_on : Fn := ⟨["block", "tools", "plan", "other"], ["block", "tools", "plan", "other"], (.c (.ret (.cmp .ne (.call 22 (.c (.var 0) (.c (.var 1) (.c (.var 2) .nil)))) (.call 22 (.c (.var 0) (.c (.var 1) (.c (.var 3) .nil)))))) .nil)⟩
def c_parting_block : Fn := ⟨["size", "tools", "plan", "other", "one", "two", "y", "x", "mine", "yours", "least", "height", "rows", "b", "a", "row"], ["size", "tools", "plan", "other"], (.c (.par [4, 5] (.v (.call 19 (.c (.var 0) (.c (.var 1) (.c (.var 2) .nil)))) (.v (.call 19 (.c (.var 0) (.c (.var 1) (.c (.var 3) .nil)))) .nil))) (.c (.for (.nm 6) (.rg1 (.idx (.var 0) (.int 1))) (.c (.for (.nm 7) (.rg1 (.idx (.var 0) (.int 0))) (.c (.par [8, 9] (.v (.idx (.idx (.idx (.var 4) (.int 0)) (.var 6)) (.var 7)) (.v (.idx (.idx (.idx (.var 5) (.int 0)) (.var 6)) (.var 7)) .nil))) (.c (.asg (.nm 10) (.tup (.c (.blt .min (.c (.var 8) (.c (.idx (.idx (.idx (.var 4) (.int 1)) (.var 6)) (.var 7)) .nil))) (.c (.blt .min (.c (.var 9) (.c (.idx (.idx (.idx (.var 5) (.int 1)) (.var 6)) (.var 7)) .nil))) .nil)))) (.c (.ite (.bop false (.c (.cmp .ne (.var 8) (.var 9)) (.c (.cmp .ne (.idx (.var 10) (.int 0)) (.idx (.var 10) (.int 1))) .nil))) (.c (.asg (.nm 11) (.ite (.cmp .eq (.var 8) (.var 9)) (.var 8) (.bin .add (.blt .min (.c (.var 8) (.c (.var 9) .nil))) (.int 1)))) (.c (.asg (.nm 12) (.fz (.cp1 (.fz (.cp1 (.ite (.cmp .eq (.tup (.c (.var 14) (.c (.var 13) .nil))) (.tup (.c (.var 7) (.c (.var 6) .nil)))) (.var 11) (.int 0)) (.nm 14) (.rg1 (.idx (.var 0) (.int 0))) .n [14])) (.nm 13) (.rg1 (.idx (.var 0) (.int 1))) .n [13]))) (.c (.ret (.blt .tup (.c (.fz (.cp1 (.blt .tup (.c (.var 15) .nil)) (.nm 15) (.seq (.var 12)) .n [15])) .nil))) .nil))) .nil) .nil)))) .nil)) (.c (.ret .non) .nil)))⟩
def c__law_box : Fn := ⟨["script"], ["script"], (.c (.ret (.alloc (.dsp (.c (.alloc (.lof (.slc (.var 0) .n (.s (.int 63))))) (.c (.int 0) (.c (.bin .add (.int 4711) (.blt .len (.c (.var 0) .nil))) .nil)))))) .nil)⟩
def c__law_load : Fn := ⟨["box", "cells", "first", "second", "cell", "size"], ["box"], (.c (.asg (.nm 1) (.idx (.var 0) (.int 0))) (.c (.ite (.cmp .gt (.blt .len (.c (.var 1) .nil)) (.int 0)) (.c (.asg (.nm 4) (.blt .int (.c (.popL 1 (.s (.int 0))) .nil))) (.c (.asg (.nm 5) (.ite (.cmp .ge (.var 4) (.int 0)) (.bin .mul (.int 2) (.var 4)) (.bin .sub (.bin .mul (.neg (.int 2)) (.var 4)) (.int 1)))) (.c (.ite (.cmp .ge (.var 5) (.int 1000000000000000000)) (.c (.ret (.var 5)) .nil) .nil) (.c (.setV 0 (.int 2) (.bin .mod (.blt .int (.c (.bin .add (.bin .add (.bin .mul (.idx (.var 0) (.int 2)) (.int 69621)) (.bin .mul (.var 5) (.int 48271))) (.int 11)) .nil)) (.int 2147483647))) .nil)))) .nil) (.c (.asg (.nm 2) (.bin .mod (.blt .int (.c (.bin .add (.bin .mul (.idx (.var 0) (.int 2)) (.int 48271)) (.int 17)) .nil)) (.int 2147483629))) (.c (.asg (.nm 3) (.bin .mod (.blt .int (.c (.bin .add (.bin .mul (.var 2) (.int 69621)) (.int 5)) .nil)) (.int 2147483587))) (.c (.setV 0 (.int 2) (.bin .mod (.blt .int (.c (.bin .add (.bin .mul (.var 3) (.int 40692)) (.int 3)) .nil)) (.int 2147483563))) (.c (.ret (.bin .add (.bin .add (.bin .mul (.var 2) (.int 4611686014132420609)) (.bin .mul (.var 3) (.int 2147483647))) (.idx (.var 0) (.int 2)))) .nil))))))⟩
def c__law_draw : Fn := ⟨["box", "many", "digit"], ["box", "many"], (.c (.ite (.cmp .lt (.idx (.var 0) (.int 1)) (.var 1)) (.c (.setV 0 (.int 1) (.call 26 (.c (.var 0) .nil))) .nil) .nil) (.c (.asg (.nm 2) (.bin .mod (.blt .int (.c (.idx (.var 0) (.int 1)) .nil)) (.var 1))) (.c (.setV 0 (.int 1) (.bin .div (.idx (.var 0) (.int 1)) (.var 1))) (.c (.ret (.var 2)) .nil))))⟩
def c__law_same : Fn := ⟨["a", "b", "k"], ["a", "b"], (.c (.ite (.bop false (.c (.bop true (.c (.isi (.var 0) .tup) (.c (.isi (.var 1) .tup) .nil))) (.c (.bop true (.c (.isi (.var 0) .lst) (.c (.isi (.var 1) .lst) .nil))) .nil))) (.c (.ret (.bop true (.c (.cmp .eq (.blt .len (.c (.var 0) .nil)) (.blt .len (.c (.var 1) .nil))) (.c (.blt .all (.c (.fz (.cp1 (.call 28 (.c (.idx (.var 0) (.var 2)) (.c (.idx (.var 1) (.var 2)) .nil))) (.nm 2) (.rg1 (.blt .len (.c (.var 0) .nil))) .n [2])) .nil)) .nil)))) .nil) .nil) (.c (.ite (.bop false (.c (.isi (.var 0) .bool) (.c (.isi (.var 1) .bool) .nil))) (.c (.ret (.bop true (.c (.isi (.var 0) .bool) (.c (.isi (.var 1) .bool) (.c (.cmp .eq (.var 0) (.var 1)) .nil))))) .nil) .nil) (.c (.ite (.bop false (.c (.bop true (.c (.isi (.var 0) .int) (.c (.isi (.var 1) .int) .nil))) (.c (.bop true (.c (.isi (.var 0) .str) (.c (.isi (.var 1) .str) .nil))) .nil))) (.c (.ret (.cmp .eq (.var 0) (.var 1))) .nil) .nil) (.c (.ret (.bop true (.c (.cmp .is (.var 0) .non) (.c (.cmp .is (.var 1) .non) .nil)))) .nil))))⟩
def c__law_flat : Fn := ⟨["rows", "found", "row"], ["rows"], (.c (.own 1 (.dsp .nil)) (.c (.for (.nm 2) (.seq (.var 0)) (.c (.ext 1 (.var 2)) .nil)) (.c (.ret (.var 1)) .nil)))⟩
def c__law_size : Fn := ⟨["box", "most"], ["box", "most"], (.c (.ret (.tup (.c (.bin .add (.int 1) (.call 27 (.c (.var 0) (.c (.var 1) .nil)))) (.c (.bin .add (.int 1) (.call 27 (.c (.var 0) (.c (.var 1) .nil)))) .nil)))) .nil)⟩
def c__law_heights : Fn := ⟨["box", "size", "most", "y", "x"], ["box", "size", "most"], (.c (.ret (.blt .tup (.c (.fz (.cp1 (.blt .tup (.c (.fz (.cp1 (.call 27 (.c (.var 0) (.c (.bin .add (.var 2) (.int 1)) .nil))) (.nm 4) (.rg1 (.idx (.var 1) (.int 0))) .n [4])) .nil)) (.nm 3) (.rg1 (.idx (.var 1) (.int 1))) .n [3])) .nil))) .nil)⟩
def c__law_tools : Fn := ⟨["box", "size", "found", "name"], ["box", "size"], (.c (.own 2 (.dsp .nil)) (.c (.for (.nm 3) (.seq (.slc (.tup (.c (.str "big") (.c (.str "fine") (.c (.str "mid") .nil)))) .n (.s (.bin .add (.int 1) (.call 27 (.c (.var 0) (.c (.int 3) .nil))))))) (.c (.app 2 (.tup (.c (.var 3) (.c (.bin .add (.int 1) (.call 27 (.c (.var 0) (.c (.blt .min (.c (.int 3) (.c (.idx (.var 1) (.int 0)) (.c (.idx (.var 1) (.int 1)) .nil)))) .nil)))) (.c (.bin .add (.int 1) (.call 27 (.c (.var 0) (.c (.int 4) .nil)))) (.c (.call 27 (.c (.var 0) (.c (.int 2) .nil))) .nil)))))) .nil)) (.c (.ret (.blt .tup (.c (.var 2) .nil))) .nil)))⟩
def c__law_beneath : Fn := ⟨["tool", "x", "y", "b", "a"], ["tool", "x", "y"], (.c (.ret (.call 29 (.c (.fz (.cp1 (.fz (.cp1 (.tup (.c (.var 4) (.c (.var 3) .nil))) (.nm 4) (.rg2 (.var 1) (.bin .add (.var 1) (.idx (.var 0) (.int 1)))) .n [4])) (.nm 3) (.rg2 (.var 2) (.bin .add (.var 2) (.idx (.var 0) (.int 1)))) .n [3])) .nil))) .nil)⟩
def c__law_about : Fn := ⟨["size", "tool", "x", "y", "beneath", "rim", "wider", "field", "b", "a"], ["size", "tool", "x", "y"], (.c (.par [4, 5] (.v (.call 33 (.c (.var 1) (.c (.var 2) (.c (.var 3) .nil)))) (.v (.idx (.var 1) (.int 3)) .nil))) (.c (.asg (.nm 6) (.call 29 (.c (.fz (.cp1 (.fz (.cp1 (.tup (.c (.var 9) (.c (.var 8) .nil))) (.nm 9) (.rg2 (.bin .sub (.var 2) (.var 5)) (.bin .add (.bin .add (.var 2) (.idx (.var 1) (.int 1))) (.var 5))) (.s (.chn .le .lt (.int 0) (.var 9) (.idx (.var 0) (.int 0)))) [9])) (.nm 8) (.rg2 (.bin .sub (.var 3) (.var 5)) (.bin .add (.bin .add (.var 3) (.idx (.var 1) (.int 1))) (.var 5))) (.s (.chn .le .lt (.int 0) (.var 8) (.idx (.var 0) (.int 1)))) [8])) .nil))) (.c (.ret (.fz (.cp1 (.var 7) (.nm 7) (.seq (.var 6)) (.s (.cmp .nin (.var 7) (.var 4))) [7]))) .nil)))⟩
def c__law_most : Fn := ⟨["heights", "fields", "a", "b"], ["heights", "fields"], (.c (.ret (.blt .max (.c (.bin .add (.fz (.dsp (.c (.int 0) .nil))) (.fz (.cp1 (.idx (.idx (.var 0) (.var 3)) (.var 2)) (.tp (.c (.nm 2) (.c (.nm 3) .nil))) (.seq (.var 1)) .n [2, 3]))) .nil))) .nil)⟩
def c__law_cut : Fn := ⟨["heights", "tool", "x", "y", "z", "fields", "b", "a"], ["heights", "tool", "x", "y", "z"], (.c (.asg (.nm 5) (.call 33 (.c (.var 1) (.c (.var 2) (.c (.var 3) .nil))))) (.c (.ret (.blt .tup (.c (.fz (.cp1 (.blt .tup (.c (.fz (.cp1 (.ite (.cmp .inn (.tup (.c (.var 7) (.c (.var 6) .nil))) (.var 5)) (.blt .min (.c (.idx (.idx (.var 0) (.var 6)) (.var 7)) (.c (.var 4) .nil))) (.idx (.idx (.var 0) (.var 6)) (.var 7))) (.nm 7) (.rg1 (.blt .len (.c (.idx (.var 0) (.var 6)) .nil))) .n [7])) .nil)) (.nm 6) (.rg1 (.blt .len (.c (.var 0) .nil))) .n [6])) .nil))) .nil))⟩
def c__law_ways : Fn := ⟨["begin", "end", "found", "here", "axis", "step"], ["begin", "end"], (.c (.par [2, 3] (.o (.dsp .nil) (.o (.lof (.var 0)) .nil))) (.c (.for (.nm 4) (.seq (.tup (.c (.int 0) (.c (.int 1) (.c (.int 2) .nil))))) (.c (.for (.nm 5) (.rg1 (.int 40)) (.c (.ite (.cmp .ne (.idx (.var 3) (.var 4)) (.idx (.var 1) (.var 4))) (.c (.setV 3 (.var 4) (.bin .add (.idx (.var 3) (.var 4)) (.ite (.cmp .lt (.idx (.var 3) (.var 4)) (.idx (.var 1) (.var 4))) (.int 1) (.neg (.int 1))))) (.c (.app 2 (.blt .tup (.c (.var 3) .nil))) .nil)) .nil) .nil)) .nil)) (.c (.ret (.var 2)) .nil)))⟩
def c__law_steps : Fn := ⟨["tools", "plan", "tool", "place", "found", "k", "kind", "what", "there", "one"], ["tools", "plan"], (.c (.par [2, 3, 4] (.v .non (.v (.tup (.c (.int 0) (.c (.int 0) (.c (.int 12) .nil)))) (.v (.fz (.dsp .nil)) .nil)))) (.c (.for (.nm 5) (.rg1 (.blt .len (.c (.var 1) .nil))) (.c (.asg (.tp (.c (.nm 6) (.c (.nm 7) .nil))) (.idx (.var 1) (.var 5))) (.c (.ite (.cmp .eq (.var 6) (.str "tool")) (.c (.par [2, 3] (.v (.idx (.fz (.cp1 (.var 9) (.nm 9) (.seq (.var 0)) (.s (.cmp .eq (.idx (.var 9) (.int 0)) (.var 7))) [9])) (.int 0)) (.v (.tup (.c (.int 0) (.c (.int 0) (.c (.int 12) .nil)))) .nil))) .nil) (.c (.asg (.nm 4) (.bin .add (.var 4) (.fz (.cp1 (.tup (.c (.var 5) (.c (.var 2) (.c (.var 6) (.c (.var 8) .nil))))) (.nm 8) (.seq (.call 37 (.c (.var 3) (.c (.var 7) .nil)))) .n [8])))) (.c (.asg (.nm 3) (.var 7)) .nil))) .nil))) (.c (.ret (.var 4)) .nil)))⟩
def c__law_run : Fn := ⟨["block", "tools", "plan", "size", "k", "tool", "kind", "place", "x", "y", "z", "beneath"], ["block", "tools", "plan"], (.c (.asg (.nm 3) (.tup (.c (.blt .len (.c (.idx (.var 0) (.int 0)) .nil)) (.c (.blt .len (.c (.var 0) .nil)) .nil)))) (.c (.for (.tp (.c (.nm 4) (.c (.nm 5) (.c (.nm 6) (.c (.nm 7) .nil))))) (.seq (.call 38 (.c (.var 1) (.c (.var 2) .nil)))) (.c (.asg (.tp (.c (.nm 8) (.c (.nm 9) (.c (.nm 10) .nil)))) (.var 7)) (.c (.asg (.nm 11) (.call 35 (.c (.var 0) (.c (.call 33 (.c (.var 5) (.c (.var 8) (.c (.var 9) .nil)))) .nil)))) (.c (.ite (.bop false (.c (.bop true (.c (.cmp .eq (.var 6) (.str "fast")) (.c (.cmp .gt (.var 11) (.var 10)) .nil))) (.c (.cmp .gt (.blt .max (.c (.var 11) (.c (.call 35 (.c (.var 0) (.c (.call 34 (.c (.var 3) (.c (.var 5) (.c (.var 8) (.c (.var 9) .nil))))) .nil))) .nil))) (.bin .add (.var 10) (.idx (.var 5) (.int 2)))) .nil))) (.c (.ret .non) .nil) .nil) (.c (.asg (.nm 0) (.call 36 (.c (.var 0) (.c (.var 5) (.c (.var 8) (.c (.var 9) (.c (.var 10) .nil))))))) .nil))))) (.c (.ret (.var 0)) .nil)))⟩
def c__law_plan : Fn := ⟨["box", "size", "tools", "many", "plan", "tool", "place", "k", "x", "y", "z"], ["box", "size", "tools", "many"], (.c (.par [4, 5, 6] (.o (.dsp .nil) (.v .non (.v .non .nil)))) (.c (.for (.nm 7) (.rg1 (.var 3)) (.c (.ite (.bop false (.c (.cmp .is (.var 5) .non) (.c (.cmp .eq (.call 27 (.c (.var 0) (.c (.int 6) .nil))) (.int 0)) .nil))) (.c (.asg (.nm 5) (.idx (.var 2) (.call 27 (.c (.var 0) (.c (.blt .len (.c (.var 2) .nil)) .nil))))) (.c (.app 4 (.tup (.c (.str "tool") (.c (.idx (.var 5) (.int 0)) .nil)))) (.c (.asg (.nm 6) (.tup (.c (.int 0) (.c (.int 0) (.c (.int 12) .nil))))) .nil))) (.c (.par [8, 9] (.v (.call 27 (.c (.var 0) (.c (.bin .add (.bin .sub (.idx (.var 1) (.int 0)) (.idx (.var 5) (.int 1))) (.int 1)) .nil))) (.v (.call 27 (.c (.var 0) (.c (.bin .add (.bin .sub (.idx (.var 1) (.int 1)) (.idx (.var 5) (.int 1))) (.int 1)) .nil))) .nil))) (.c (.asg (.nm 10) (.idx (.fz (.dsp (.c (.idx (.var 6) (.int 2)) (.c (.call 27 (.c (.var 0) (.c (.int 13) .nil))) (.c (.int 12) (.c (.bin .add (.int 3) (.call 27 (.c (.var 0) (.c (.int 8) .nil)))) .nil)))))) (.call 27 (.c (.var 0) (.c (.int 4) .nil))))) (.c (.asg (.tp (.c (.nm 8) (.c (.nm 9) .nil))) (.ite (.cmp .eq (.call 27 (.c (.var 0) (.c (.int 3) .nil))) (.int 0)) (.tup (.c (.var 8) (.c (.idx (.var 6) (.int 1)) .nil))) (.ite (.cmp .eq (.call 27 (.c (.var 0) (.c (.int 3) .nil))) (.int 0)) (.tup (.c (.idx (.var 6) (.int 0)) (.c (.idx (.var 6) (.int 1)) .nil))) (.tup (.c (.var 8) (.c (.var 9) .nil)))))) (.c (.asg (.nm 6) (.tup (.c (.var 8) (.c (.var 9) (.c (.var 10) .nil))))) (.c (.app 4 (.tup (.c (.idx (.fz (.dsp (.c (.str "cut") (.c (.str "cut") (.c (.str "fast") .nil))))) (.call 27 (.c (.var 0) (.c (.int 3) .nil)))) (.c (.var 6) .nil)))) .nil)))))) .nil)) (.c (.ret (.blt .tup (.c (.var 4) .nil))) .nil)))⟩
def c__law_left : Fn := ⟨["block", "tools", "plan"], ["block", "tools", "plan"], (.c (.tryR "Strike" 15 (.c (.var 0) (.c (.var 1) (.c (.var 2) .nil)))) .nil)⟩
def c__law_trace : Fn := ⟨["size", "tools", "plan", "rows", "k", "tool", "kind", "place", "most", "depth", "field", "pairs", "beneath", "mine", "good", "height", "here", "struck", "wide", "z", "up", "y", "x", "row", "pair"], ["size", "tools", "plan"], (.c (.own 3 (.dsp .nil)) (.c (.for (.tp (.c (.nm 4) (.c (.nm 5) (.c (.nm 6) (.c (.nm 7) .nil))))) (.seq (.call 38 (.c (.var 1) (.c (.var 2) .nil)))) (.c (.asg (.nm 12) (.call 33 (.c (.var 5) (.c (.idx (.var 7) (.int 0)) (.c (.idx (.var 7) (.int 1)) .nil))))) (.c (.app 3 (.tup (.c (.var 12) (.c (.bin .add (.var 12) (.call 34 (.c (.var 0) (.c (.var 5) (.c (.idx (.var 7) (.int 0)) (.c (.idx (.var 7) (.int 1)) .nil)))))) (.c (.var 6) (.c (.idx (.var 7) (.int 2)) (.c (.idx (.var 5) (.int 2)) .nil))))))) .nil))) (.c (.par [8, 9] (.v (.alloc (.dsp .nil)) (.v (.alloc (.dsp .nil)) .nil))) (.c (.for (.nm 10) (.seq (.call 29 (.c (.fz (.cp1 (.fz (.cp1 (.tup (.c (.var 22) (.c (.var 21) .nil))) (.nm 22) (.rg1 (.idx (.var 0) (.int 0))) .n [22])) (.nm 21) (.rg1 (.idx (.var 0) (.int 1))) .n [21])) .nil))) (.c (.par [13, 14] (.v (.fz (.cp1 (.var 23) (.nm 23) (.seq (.var 3)) (.s (.cmp .inn (.var 10) (.idx (.var 23) (.int 1)))) [23])) (.v (.neg (.int 1)) .nil))) (.c (.for (.nm 15) (.rg1 (.int 13)) (.c (.par [16, 17] (.v (.var 15) (.v (.bl false) .nil))) (.c (.for (.tp (.c (.nm 12) (.c (.nm 18) (.c (.nm 6) (.c (.nm 19) (.c (.nm 20) .nil)))))) (.seq (.var 13)) (.c (.asg (.nm 17) (.bop false (.c (.var 17) (.c (.cmp .gt (.var 16) (.bin .add (.var 19) (.var 20))) (.c (.bop true (.c (.cmp .eq (.var 6) (.str "fast")) (.c (.cmp .inn (.var 10) (.var 12)) (.c (.cmp .gt (.var 16) (.var 19)) .nil)))) .nil))))) (.c (.asg (.nm 16) (.ite (.cmp .inn (.var 10) (.var 12)) (.blt .min (.c (.var 16) (.c (.var 19) .nil))) (.var 16))) .nil))) (.c (.asg (.nm 14) (.ite (.bop true (.c (.cmp .eq (.var 14) (.bin .sub (.var 15) (.int 1))) (.c (.not (.var 17)) .nil))) (.var 15) (.var 14))) .nil)))) (.c (.app 8 (.var 14)) (.c (.app 9 (.blt .min (.c (.bin .add (.fz (.dsp (.c (.int 12) .nil))) (.fz (.cp1 (.idx (.var 23) (.int 3)) (.nm 23) (.seq (.var 13)) (.s (.cmp .inn (.var 10) (.idx (.var 23) (.int 0)))) [23]))) .nil))) .nil))))) (.c (.asg (.nm 11) (.fz (.cp1 (.tup (.c (.blt .tup (.c (.slc (.var 8) (.s (.bin .mul (.idx (.var 0) (.int 0)) (.var 21))) (.s (.bin .add (.bin .mul (.idx (.var 0) (.int 0)) (.var 21)) (.idx (.var 0) (.int 0))))) .nil)) (.c (.blt .tup (.c (.slc (.var 9) (.s (.bin .mul (.idx (.var 0) (.int 0)) (.var 21))) (.s (.bin .add (.bin .mul (.idx (.var 0) (.int 0)) (.var 21)) (.idx (.var 0) (.int 0))))) .nil)) .nil))) (.nm 21) (.rg1 (.idx (.var 0) (.int 1))) .n [21]))) (.c (.ret (.tup (.c (.blt .tup (.c (.fz (.cp1 (.idx (.var 24) (.int 0)) (.nm 24) (.seq (.var 11)) .n [24])) .nil)) (.c (.blt .tup (.c (.fz (.cp1 (.idx (.var 24) (.int 1)) (.nm 24) (.seq (.var 11)) .n [24])) .nil)) .nil)))) .nil))))))⟩
def c__law_told : Fn := ⟨["trace", "block", "most", "depth", "cells", "y", "x"], ["trace", "block"], (.c (.asg (.tp (.c (.nm 2) (.c (.nm 3) .nil))) (.var 0)) (.c (.asg (.nm 4) (.call 29 (.c (.fz (.cp1 (.fz (.cp1 (.tup (.c (.var 5) (.c (.var 6) .nil))) (.nm 6) (.rg1 (.blt .len (.c (.idx (.var 1) (.int 0)) .nil))) .n [6])) (.nm 5) (.rg1 (.blt .len (.c (.var 1) .nil))) .n [5])) .nil))) (.c (.ite (.blt .any (.c (.fz (.cp1 (.cmp .gt (.idx (.idx (.var 1) (.var 5)) (.var 6)) (.idx (.idx (.var 2) (.var 5)) (.var 6))) (.tp (.c (.nm 5) (.c (.nm 6) .nil))) (.seq (.var 4)) .n [5, 6])) .nil)) (.c (.ret .non) .nil) .nil) (.c (.ret (.blt .tup (.c (.fz (.cp1 (.blt .tup (.c (.fz (.cp1 (.blt .min (.c (.idx (.idx (.var 1) (.var 5)) (.var 6)) (.c (.idx (.idx (.var 3) (.var 5)) (.var 6)) .nil))) (.nm 6) (.rg1 (.blt .len (.c (.idx (.var 1) (.int 0)) .nil))) .n [6])) .nil)) (.nm 5) (.rg1 (.blt .len (.c (.var 1) .nil))) .n [5])) .nil))) .nil))))⟩
def c__law_bent : Fn := ⟨["box", "size", "tools", "plan", "k", "pick"], ["box", "size", "tools", "plan"], (.c (.par [4, 5] (.v (.call 27 (.c (.var 0) (.c (.bin .add (.blt .len (.c (.var 3) .nil)) (.int 1)) .nil))) (.v (.call 27 (.c (.var 0) (.c (.int 4) .nil))) .nil))) (.c (.ite (.cmp .eq (.var 5) (.int 0)) (.c (.ret (.ite (.cmp .gt (.var 4) (.int 0)) (.bin .add (.slc (.var 3) .n (.s (.var 4))) (.slc (.var 3) (.s (.bin .add (.var 4) (.int 1))) .n)) (.var 3))) .nil) .nil) (.c (.ite (.bop true (.c (.cmp .eq (.var 5) (.int 1)) (.c (.cmp .gt (.var 4) (.int 0)) (.c (.cmp .ne (.idx (.idx (.var 3) (.bin .sub (.var 4) (.int 1))) (.int 0)) (.str "tool")) .nil)))) (.c (.ret (.bin .add (.slc (.var 3) .n (.s (.var 4))) (.slc (.var 3) (.s (.bin .sub (.var 4) (.int 1))) .n))) .nil) .nil) (.c (.ite (.bop true (.c (.cmp .eq (.var 5) (.int 2)) (.c (.chn .lt .lt (.int 0) (.var 4) (.blt .len (.c (.var 3) .nil))) (.c (.cmp .ne (.idx (.idx (.var 3) (.var 4)) (.int 0)) (.str "tool")) .nil)))) (.c (.ret (.bin .add (.bin .add (.slc (.var 3) .n (.s (.var 4))) (.tup (.c (.tup (.c (.idx (.fz (.dsp (.c (.str "fast") (.c (.str "cut") .nil)))) (.call 27 (.c (.var 0) (.c (.int 2) .nil)))) (.c (.idx (.idx (.var 3) (.var 4)) (.int 1)) .nil))) .nil))) (.slc (.var 3) (.s (.bin .add (.var 4) (.int 1))) .n))) .nil) .nil) (.c (.ret (.bin .add (.var 3) (.call 40 (.c (.var 0) (.c (.var 1) (.c (.var 2) (.c (.int 3) .nil))))))) .nil)))))⟩
def c__law_fits : Fn := ⟨["size", "tools", "plan", "tool", "kind", "what", "one"], ["size", "tools", "plan"], (.c (.asg (.nm 3) .non) (.c (.for (.tp (.c (.nm 4) (.c (.nm 5) .nil))) (.seq (.var 2)) (.c (.ite (.cmp .eq (.var 4) (.str "tool")) (.c (.asg (.nm 3) (.idx (.fz (.cp1 (.var 6) (.nm 6) (.seq (.var 1)) (.s (.cmp .eq (.idx (.var 6) (.int 0)) (.var 5))) [6])) (.int 0))) .nil) (.c (.ite (.bop false (.c (.cmp .is (.var 3) .non) (.c (.cmp .gt (.bin .add (.idx (.var 5) (.int 0)) (.idx (.var 3) (.int 1))) (.idx (.var 0) (.int 0))) (.c (.cmp .gt (.bin .add (.idx (.var 5) (.int 1)) (.idx (.var 3) (.int 1))) (.idx (.var 0) (.int 1))) .nil)))) (.c (.ret (.bl false)) .nil) .nil) .nil)) .nil)) (.c (.ret (.bl true)) .nil)))⟩
def c_law : Fn := ⟨["script", "box", "known", "here", "plan", "trace", "turn", "size", "tools", "other", "one", "two", "plain", "alike", "told", "step", "block", "mine", "yours", "row", "height"], ["script"], (.c (.asg (.nm 1) (.call 25 (.c (.var 0) .nil))) (.c (.par [2, 3] (.v (.tup (.c (.tup (.c (.str "fine") (.c (.int 1) (.c (.int 4) (.c (.int 0) .nil))))) .nil)) (.v (.tup (.c (.int 3) (.c (.int 1) .nil))) .nil))) (.c (.asg (.nm 4) (.tup (.c (.tup (.c (.str "tool") (.c (.str "fine") .nil))) (.c (.tup (.c (.str "cut") (.c (.tup (.c (.int 0) (.c (.int 0) (.c (.int 9) .nil)))) .nil))) (.c (.tup (.c (.str "cut") (.c (.tup (.c (.int 1) (.c (.int 0) (.c (.int 9) .nil)))) .nil))) (.c (.tup (.c (.str "cut") (.c (.tup (.c (.int 2) (.c (.int 0) (.c (.int 9) .nil)))) .nil))) (.c (.tup (.c (.str "fast") (.c (.tup (.c (.int 2) (.c (.int 0) (.c (.int 12) .nil)))) .nil))) .nil))))))) (.c (.asg (.nm 5) (.tup (.c (.tup (.c (.tup (.c (.int 12) (.c (.int 12) (.c (.int 12) .nil)))) .nil)) (.c (.tup (.c (.tup (.c (.int 9) (.c (.int 9) (.c (.int 9) .nil)))) .nil)) .nil)))) (.c (.ite (.not (.call 28 (.c (.tup (.c (.call 19 (.c (.var 3) (.c (.var 2) (.c (.var 4) .nil)))) (.c (.call 20 (.c (.var 5) (.c (.tup (.c (.tup (.c (.int 12) (.c (.int 3) (.c (.int 10) .nil)))) .nil)) .nil))) (.c (.call 21 (.c (.var 3) (.c (.var 2) (.c (.var 4) (.c (.slc (.var 4) .n (.s (.int 3))) .nil))))) .nil)))) (.c (.tup (.c (.var 5) (.c (.tup (.c (.tup (.c (.int 9) (.c (.int 3) (.c (.int 9) .nil)))) .nil)) (.c (.bl false) .nil)))) .nil)))) (.c (.ret (.bl false)) .nil) .nil) (.c (.for (.nm 6) (.rg1 (.int 3)) (.c (.asg (.nm 7) (.call 30 (.c (.var 1) (.c (.int 4) .nil)))) (.c (.asg (.nm 8) (.call 32 (.c (.var 1) (.c (.var 7) .nil)))) (.c (.asg (.nm 4) (.call 40 (.c (.var 1) (.c (.var 7) (.c (.var 8) (.c (.bin .add (.int 1) (.call 27 (.c (.var 1) (.c (.int 7) .nil)))) .nil)))))) (.c (.asg (.nm 9) (.call 44 (.c (.var 1) (.c (.var 7) (.c (.var 8) (.c (.var 4) .nil)))))) (.c (.asg (.nm 9) (.ite (.call 45 (.c (.var 7) (.c (.var 8) (.c (.var 9) .nil)))) (.var 9) (.var 4))) (.c (.par [10, 11] (.v (.call 42 (.c (.var 7) (.c (.var 8) (.c (.var 4) .nil)))) (.v (.call 42 (.c (.var 7) (.c (.var 8) (.c (.var 9) .nil)))) .nil))) (.c (.ite (.not (.call 28 (.c (.tup (.c (.call 19 (.c (.var 7) (.c (.var 8) (.c (.var 4) .nil)))) (.c (.call 19 (.c (.var 7) (.c (.var 8) (.c (.var 9) .nil)))) .nil))) (.c (.tup (.c (.var 10) (.c (.var 11) .nil))) .nil)))) (.c (.ret (.bl false)) .nil) .nil) (.c (.asg (.nm 12) (.fz (.dsp (.c (.tup (.c (.idx (.var 10) (.int 0)) (.c (.call 43 (.c (.tup (.c (.bin .mul (.tup (.c (.bin .mul (.tup (.c (.int 12) .nil)) (.idx (.var 7) (.int 0))) .nil)) (.idx (.var 7) (.int 1))) (.c (.idx (.var 10) (.int 1)) .nil))) (.c (.idx (.var 10) (.int 0)) .nil))) .nil))) (.c (.tup (.c (.idx (.var 11) (.int 0)) (.c (.call 43 (.c (.tup (.c (.bin .mul (.tup (.c (.bin .mul (.tup (.c (.int 12) .nil)) (.idx (.var 7) (.int 0))) .nil)) (.idx (.var 7) (.int 1))) (.c (.idx (.var 11) (.int 1)) .nil))) (.c (.idx (.var 11) (.int 0)) .nil))) .nil))) .nil))))) (.c (.asg (.nm 13) (.cmp .eq (.idx (.var 12) (.int 0)) (.idx (.var 12) (.int 1)))) (.c (.ite (.not (.call 28 (.c (.tup (.c (.call 21 (.c (.var 7) (.c (.var 8) (.c (.var 4) (.c (.var 9) .nil))))) (.c (.call 21 (.c (.var 7) (.c (.var 8) (.c (.var 9) (.c (.var 4) .nil))))) .nil))) (.c (.tup (.c (.var 13) (.c (.var 13) .nil))) .nil)))) (.c (.ret (.bl false)) .nil) .nil) (.c (.asg (.nm 14) (.call 24 (.c (.var 7) (.c (.var 8) (.c (.var 4) (.c (.var 9) .nil)))))) (.c (.ite (.bop false (.c (.cmp .ne (.cmp .is (.var 14) .non) (.var 13)) (.c (.bop true (.c (.cmp .isn (.var 14) .non) (.c (.not (.isi (.var 14) .tup)) .nil))) .nil))) (.c (.ret (.bl false)) .nil) .nil) (.c (.ite (.bop true (.c (.cmp .isn (.var 14) .non) (.c (.bop false (.c (.cmp .eq (.call 39 (.c (.var 14) (.c (.var 8) (.c (.var 4) .nil)))) (.call 39 (.c (.var 14) (.c (.var 8) (.c (.var 9) .nil))))) (.c (.cmp .isn (.call 23 (.c (.var 14) (.c (.var 8) (.c (.var 4) (.c (.var 9) .nil))))) (.bl true)) .nil))) .nil))) (.c (.ret (.bl false)) .nil) .nil) (.c (.for (.nm 15) (.rg1 (.int 4)) (.c (.asg (.nm 16) (.ite (.cmp .lt (.var 15) (.int 2)) (.call 31 (.c (.var 1) (.c (.var 7) (.c (.int 12) .nil)))) (.blt .tup (.c (.fz (.cp1 (.blt .tup (.c (.fz (.cp1 (.blt .max (.c (.int 0) (.c (.bin .sub (.var 20) (.call 27 (.c (.var 1) (.c (.int 2) .nil)))) .nil))) (.nm 20) (.seq (.var 19)) .n [20])) .nil)) (.nm 19) (.seq (.idx (.var 10) (.int 0))) .n [19])) .nil)))) (.c (.par [17, 18] (.v (.call 39 (.c (.var 16) (.c (.var 8) (.c (.var 4) .nil)))) (.v (.call 39 (.c (.var 16) (.c (.var 8) (.c (.var 9) .nil)))) .nil))) (.c (.ite (.not (.call 28 (.c (.tup (.c (.call 20 (.c (.var 10) (.c (.var 16) .nil))) (.c (.call 43 (.c (.var 10) (.c (.var 16) .nil))) (.c (.call 41 (.c (.var 16) (.c (.var 8) (.c (.var 4) .nil)))) .nil)))) (.c (.tup (.c (.var 17) (.c (.var 17) (.c (.var 17) .nil)))) .nil)))) (.c (.ret (.bl false)) .nil) .nil) (.c (.ite (.bop false (.c (.not (.call 28 (.c (.call 23 (.c (.var 16) (.c (.var 8) (.c (.var 4) (.c (.var 9) .nil))))) (.c (.cmp .ne (.var 17) (.var 18)) .nil)))) (.c (.bop true (.c (.var 13) (.c (.cmp .ne (.var 17) (.var 18)) .nil))) .nil))) (.c (.ret (.bl false)) .nil) .nil) .nil))))) .nil))))))))))))))) (.c (.ret (.bl true)) .nil)))))))⟩
def c_Mill_init : Fn := ⟨["self", "block", "tools"], ["self", "block", "tools"], (.c (.setF 0 "Mill" ["_block", "_tools", "_size"] (.c (.var 1) (.c (.var 2) (.c (.call 2 (.c (.var 1) .nil)) .nil)))) (.c (.setF 0 "Mill" ["_tool", "_place", "_step"] (.c .non (.c .non (.c (.int 0) .nil)))) .nil))⟩
def c_Mill_block : Fn := ⟨["self"], ["self"], (.c (.ret (.fld (.var 0) "_block")) .nil)⟩
def c_Mill_tool : Fn := ⟨["self"], ["self"], (.c (.ret (.fld (.var 0) "_tool")) .nil)⟩
def c_Mill_place : Fn := ⟨["self"], ["self"], (.c (.ret (.fld (.var 0) "_place")) .nil)⟩
def c_Mill_steps : Fn := ⟨["self"], ["self"], (.c (.ex (.call 0 (.c (.int 0) .nil))) .nil)⟩
def c_Mill_take : Fn := ⟨["self", "name", "tool", "home"], ["self", "name"], (.c (.asg (.nm 2) (.call 6 (.c (.fld (.var 0) "_tools") (.c (.var 1) .nil)))) (.c (.asg (.nm 3) (.tup (.c (.int 0) (.c (.int 0) (.c (.gl 0) .nil))))) (.c (.ite (.bop false (.c (.cmp .is (.var 2) .non) (.c (.not (.call 7 (.c (.fld (.var 0) "_size") (.c (.var 2) (.c (.var 3) .nil))))) .nil))) (.c .never .nil) .nil) (.c (.setF 0 "Mill" ["_tool", "_place"] (.c (.var 2) (.c (.var 3) .nil))) .nil))))⟩
def c_Mill_step : Fn := ⟨["self", "kind", "place", "fast_hit"], ["self", "kind", "place"], (.c (.ite (.bop false (.c (.cmp .is (.fld (.var 0) "_tool") .non) (.c (.not (.call 7 (.c (.fld (.var 0) "_size") (.c (.fld (.var 0) "_tool") (.c (.var 2) .nil))))) .nil))) (.c .never .nil) .nil) (.c (.asg (.nm 3) (.bop true (.c (.cmp .eq (.var 1) (.gl 1)) (.c (.not (.call 11 (.c (.fld (.var 0) "_block") (.c (.fld (.var 0) "_tool") (.c (.var 2) .nil))))) .nil)))) (.c (.ite (.bop false (.c (.var 3) (.c (.not (.call 12 (.c (.fld (.var 0) "_block") (.c (.fld (.var 0) "_tool") (.c (.var 2) .nil))))) .nil))) (.c (.raise "Strike" (.fld (.var 0) "_step")) .nil) .nil) (.c (.setF 0 "Mill" ["_block"] (.c (.call 13 (.c (.fld (.var 0) "_block") (.c (.fld (.var 0) "_tool") (.c (.var 2) .nil)))) .nil)) (.c (.setF 0 "Mill" ["_place", "_step"] (.c (.var 2) (.c (.bin .add (.fld (.var 0) "_step") (.int 1)) .nil))) .nil)))))⟩
def c_Mill_do : Fn := ⟨["self", "move", "place"], ["self", "move"], (.c (.ite (.cmp .eq (.idx (.var 1) (.int 0)) (.gl 2)) (.c (.ex (.mth "Mill" (.var 0) "take" 52 (.c (.idx (.var 1) (.int 1)) .nil))) (.c .retN .nil)) .nil) (.c (.ite (.bop false (.c (.cmp .is (.fld (.var 0) "_tool") .non) (.c (.not (.call 7 (.c (.fld (.var 0) "_size") (.c (.fld (.var 0) "_tool") (.c (.idx (.var 1) (.int 1)) .nil))))) .nil))) (.c .never .nil) .nil) (.c (.for (.nm 2) (.seq (.call 14 (.c (.fld (.var 0) "_place") (.c (.idx (.var 1) (.int 1)) .nil)))) (.c (.exM "Mill" (.var 0) "step" 53 (.c (.idx (.var 1) (.int 0)) (.c (.var 2) .nil))) .nil)) .nil)))⟩
def fs : List Fn := [c__wall, c_is_number, c_size_of, c_level_block, c_is_below, c_least_of, c_tool_named, c_is_place, c_fields_beneath, c_fields_about, c_greatest_at, c_is_free, c_is_shank_free, c_cut_at, c_unit_steps, c_block_behind, c_ways_of, c_steps_told, c_lowered_where, c_trace_of, c_left_by, c_are_alike, c_left_or_none, c_parts_on, c_parting_block, c__law_box, c__law_load, c__law_draw, c__law_same, c__law_flat] ++ [c__law_size, c__law_heights, c__law_tools, c__law_beneath, c__law_about, c__law_most, c__law_cut, c__law_ways, c__law_steps, c__law_run, c__law_plan, c__law_left, c__law_trace, c__law_told, c__law_bent, c__law_fits, c_law, c_Mill_init, c_Mill_block, c_Mill_tool, c_Mill_place, c_Mill_steps, c_Mill_take, c_Mill_step, c_Mill_do]
def gs : List D := [.int 12, .str "fast", .str "tool", .tup [(.int 0), (.int 0), (.int 12)]]
end PV.K81
set_option maxRecDepth 100000
set_option maxHeartbeats 4000000
set_option maxRecDepth 100000
set_option maxHeartbeats 4000000
namespace PV
open PySem
/-! ### operations on ints, pairs -/
def mx (i j : Int) : Int := if j > i then j else i
def mn (i j : Int) : Int := if j < i then j else i
@[simp] theorem blt_max2 {i j : Int} : bltD .max [.int i, .int j] = some (.int (mx i j)) := id rfl
@[simp] theorem blt_min2 {i j : Int} : bltD .min [.int i, .int j] = some (.int (mn i j)) := id rfl
@[simp] theorem blt_len_tup {ds : List D} : bltD .len [.tup ds] = some (.int ds.length) := id rfl
@[simp] theorem blt_len_lst {ds : List D} : bltD .len [.lst ds] = some (.int ds.length) := id rfl
@[simp] theorem blt_len_rol {ds : List D} : bltD .len [.rol ds] = some (.int ds.length) := id rfl
@[simp] theorem blt_int {i : Int} : bltD .int [.int i] = some (.int i) := id rfl
@[simp] theorem blt_abs {i : Int} : bltD .abs [.int i] = some (.int (if i < 0 then -i else i)) := id rfl
@[simp] theorem blt_tupL {ds : List D} : bltD .tup [.lst ds] = some (.tup ds) := id rfl
@[simp] theorem blt_tupT {ds : List D} : bltD .tup [.tup ds] = some (.tup ds) := id rfl
@[simp] theorem bin_add {i j : Int} : binD .add (.int i) (.int j) = some (.int (i + j)) := id rfl
@[simp] theorem bin_sub {i j : Int} : binD .sub (.int i) (.int j) = some (.int (i - j)) := id rfl
@[simp] theorem cmp_lt {i j : Int} : cmpD .lt (.int i) (.int j) = some (decide (i < j)) := id rfl
@[simp] theorem cmp_le {i j : Int} : cmpD .le (.int i) (.int j) = some (decide (i ≤ j)) := id rfl
@[simp] theorem cmp_gt {i j : Int} : cmpD .gt (.int i) (.int j) = some (decide (j < i)) := id rfl
@[simp] theorem cmp_ge {i j : Int} : cmpD .ge (.int i) (.int j) = some (decide (j ≤ i)) := id rfl
@[simp] theorem flatF_nil {f : D → Sto → Out (List D)} {s : Sto} : flatF f [] s = .ok [] s := id rfl
@[simp] theorem flatF_cons {f : D → Sto → Out (List D)} {d : D} {ds : List D} {s : Sto} : flatF f (d :: ds) s = (f d s).bind fun xs s1 => (flatF f ds s1).bind fun ys s2 => .ok (xs ++ ys) s2 := id rfl
def nextL (o : Out Flow) (f : Env → Sto → Out Flow) : Out Flow := o.bind fun fl s => match fl with
    | .nx env' => f env' s
    | .ct env' => f env' s
    | .bk env' => .ok (.nx env') s
    | .ret d => .ok (.ret d) s
    | .rs x d => .ok (.rs x d) s
@[simp] theorem nextL_rs {f : Env → Sto → Out Flow} {x : Str} {d : D} {s : Sto} : nextL (.ok (.rs x d) s) f = .ok (.rs x d) s := id rfl
@[simp] theorem nextL_nx {f : Env → Sto → Out Flow} {env : Env} {s : Sto} : nextL (.ok (.nx env) s) f = f env s := id rfl
@[simp] theorem nextL_ret {f : Env → Sto → Out Flow} {d : D} {s : Sto} : nextL (.ok (.ret d) s) f = .ok (.ret d) s := id rfl
theorem forF_nil {f : D → Env → Sto → Out Flow} {env : Env} {s : Sto} : forF f [] env s = .ok (.nx env) s := rfl
theorem forF_cons {f : D → Env → Sto → Out Flow} {d : D} {ds : List D} {env : Env} {s : Sto} : forF f (d :: ds) env s = nextL (f d env s) (forF f ds) := rfl
@[simp] theorem idx_0 {a : D} {l : List D} : idxD (.tup (a :: l)) (.int 0) = some a := idx_tup (k := 0) rfl
@[simp] theorem idx_1 {a b : D} {l : List D} : idxD (.tup (a :: b :: l)) (.int 1) = some b := idx_tup (k := 1) rfl
@[simp] theorem idx_2 {a b c : D} {l : List D} : idxD (.tup (a :: b :: c :: l)) (.int 2) = some c := idx_tup (k := 2) rfl
@[simp] theorem idx_3 {a b c d : D} {l : List D} : idxD (.tup (a :: b :: c :: d :: l)) (.int 3) = some d := idx_tup (k := 3) rfl
@[simp] theorem idxL_0 {a : D} {l : List D} : idxD (.lst (a :: l)) (.int 0) = some a := idx_tup (k := 0) rfl
@[simp] theorem idxL_1 {a b : D} {l : List D} : idxD (.lst (a :: b :: l)) (.int 1) = some b := idx_tup (k := 1) rfl
@[simp] theorem idxL_2 {a b c : D} {l : List D} : idxD (.lst (a :: b :: c :: l)) (.int 2) = some c := idx_tup (k := 2) rfl
@[simp] theorem ne_int {i j : Int} : cmpD .ne (.int i) (.int j) = some (!decide (i = j)) := by
  show (eqD (.int i) (.int j)).map (!·) = _
  rfl
@[simp] theorem eq_int {i j : Int} : cmpD .eq (.int i) (.int j) = some (decide (i = j)) := id rfl
def ptD (x y z : Int) : D := .tup [.int x, .int y, .int z]
def pD (p : Int × Int) : D := .tup [.int p.1, .int p.2]
@[simp] theorem slc_02 {a b c : D} : slcD (.tup [a, b, c]) none (some 2) = some (.tup [a, b]) := id rfl
@[simp] theorem slc_00 {a b c : D} : slcD (.tup [a, b, c]) none (some 0) = some (.tup []) := id rfl
@[simp] theorem slc_01 {a b c : D} : slcD (.tup [a, b, c]) none (some 1) = some (.tup [a]) := id rfl
@[simp] theorem slc_1 {a b c : D} : slcD (.tup [a, b, c]) (some 1) none = some (.tup [b, c]) := id rfl
@[simp] theorem slc_2 {a b c : D} : slcD (.tup [a, b, c]) (some 2) none = some (.tup [c]) := id rfl
@[simp] theorem slc_3 {a b c : D} : slcD (.tup [a, b, c]) (some 3) none = some (.tup []) := id rfl
theorem ints_map {l : List Int} : ints? (l.map D.int) = some l := by
  induction l with
  | nil => rfl
  | cons x l ih => show (ints? (l.map D.int)).map (x :: ·) = _; rw [ih]; rfl
theorem max_list {x : Int} {l : List Int} : bltD .max [.lst (D.int x :: l.map D.int)] = some (.int (maxI (x :: l))) := by
  show (match ints? ((x :: l).map D.int) with
    | some (x :: r) => some (D.int (maxI (x :: r)))
    | _ => none) = _
  rw [ints_map]
theorem min_list {x : Int} {l : List Int} : bltD .min [.lst (D.int x :: l.map D.int)] = some (.int (minI (x :: l))) := by
  show (match ints? ((x :: l).map D.int) with
    | some (x :: r) => some (D.int (minI (x :: r)))
    | _ => none) = _
  rw [ints_map]
theorem maxI_le : ∀ {l : List Int} {x z : Int}, maxI (x :: l) ≤ z ↔ x ≤ z ∧ ∀ y ∈ l, y ≤ z
  | [], x, z => by simp [maxI]
  | y :: l, x, z => by
    show max x (maxI (y :: l)) ≤ z ↔ _
    rw [Int.max_le, maxI_le]
    simp
def ir (lo hi : Int) : List Int := (List.range (hi - lo).toNat).map fun i => lo + ((i : Nat) : Int)
theorem mem_ir {lo hi x : Int} : x ∈ ir lo hi ↔ lo ≤ x ∧ x < hi := by
  unfold ir
  rw [List.mem_map]
  constructor
  · rintro ⟨i, hi, rfl⟩
    rw [List.mem_range] at hi
    omega
  · rintro ⟨h1, h2⟩
    exact ⟨(x - lo).toNat, by rw [List.mem_range]; omega, by omega⟩
theorem ir_len {lo hi : Int} : (ir lo hi).length = (hi - lo).toNat := by simp [ir]
theorem rangeL_ir {lo hi : Int} : rangeL lo 1 (hi - lo).toNat = (ir lo hi).map D.int := by
  unfold rangeL ir
  rw [List.map_map]
  refine List.map_congr_left fun i _ => ?_
  simp
theorem rng2_ir {i j : Int} (h : -1000000 ≤ i ∧ i ≤ 1000000 ∧ -1000000 ≤ j ∧ j ≤ 1000000) : rng2? (.int i) (.int j) = some ((ir i j).map D.int) := by
  unfold rng2?
  simp only
  rw [if_pos (by omega), rangeL_ir]
theorem rng1_ir {j : Int} (h : -1000000 ≤ j ∧ j ≤ 1000000) : rng1? (.int j) = some ((ir 0 j).map D.int) := by
  unfold rng1?
  simp only
  rw [if_pos (by omega), ← rangeL_ir]
  simp
theorem flatMap_le {α β : Type} {g : α → List β} {c : Nat} : ∀ {l : List α}, (∀ x ∈ l, (g x).length ≤ c) → (l.flatMap g).length ≤ l.length * c
  | [], _ => by simp
  | x :: l, h => by
    have := flatMap_le (g := g) (c := c) (l := l) fun y hy => h y (List.mem_cons_of_mem _ hy)
    have h1 := h x List.mem_cons_self
    rw [List.flatMap_cons, List.length_append, List.length_cons, Nat.add_mul]
    omega
theorem flatMap_one {α β : Type} {g : α → β} {l : List α} : l.flatMap (fun x => [g x]) = l.map g := by
  induction l with
  | nil => rfl
  | cons x l ih => simp [ih]
def turn1 (cf : Nat → List D → Sto → Out D) (gs : List D) (elt : Ex) (tg : Tg) (cond : OEx) (vs : List Nat) (env : Env) : D → Sto → Out (List D) := fun d s => match bindT tg d (wipeE env vs) with
    | none => .err
    | some env1 => (evC cf gs cond env1 s).bind fun t s => if t = true then (ev cf gs false elt env1 s).bind fun y s => .ok [y] s else .ok [] s
theorem evF_cp1' {cf : Nat → List D → Sto → Out D} {gs : List D} {elt : Ex} {tg : Tg} {it : Src} {cond : OEx} {vs : List Nat} {env : Env} {s : Sto} : evF cf gs (.cp1 elt tg it cond vs) env s = (evI cf gs true it env s).bind fun xs s => (flatF (turn1 cf gs elt tg cond vs (noOwn env)) xs s).bind fun ys s =>
      if ys.length ≤ LINE then .ok ys s else .err := by rw [evF_cp1]; rfl
/-- one clause, each turn one value or none -/
theorem cp1_pure {cf : Nat → List D → Sto → Out D} {gs : List D} {elt : Ex} {tg : Tg} {it : Src} {cond : OEx} {vs : List Nat} {env : Env} {s : Sto} {α : Type} {mk : α → D} {g : α → List D} {xs : List α} (h1 : evI cf gs true it env s = .ok (xs.map mk) s)
    (h2 : ∀ x ∈ xs, turn1 cf gs elt tg cond vs (noOwn env) (mk x) s = .ok (g x) s) (hz : (xs.flatMap g).length ≤ LINE) :
    evF cf gs (.cp1 elt tg it cond vs) env s = .ok (xs.flatMap g) s := by
  rw [evF_cp1', h1, ok_bind, flatF_pure (g := g) h2, ok_bind, if_pos hz]
/-- .. one value each -/
theorem cp1_map {cf : Nat → List D → Sto → Out D} {gs : List D} {elt : Ex} {tg : Tg} {it : Src} {vs : List Nat} {env : Env} {s : Sto} {α : Type} {mk : α → D} {g : α → D} {xs : List α} (h1 : evI cf gs true it env s = .ok (xs.map mk) s)
    (h2 : ∀ x ∈ xs, ∃ env1, bindT tg (mk x) (wipeE (noOwn env) vs) = some env1 ∧ ev cf gs false elt env1 s = .ok (g x) s) (hz : xs.length ≤ LINE) :
    evF cf gs (.cp1 elt tg it .n vs) env s = .ok (xs.map g) s := by
  rw [cp1_pure (g := fun x => [g x]) h1 (fun x hx => ?_) (by rw [flatMap_one]; simpa using hz), flatMap_one]
  obtain ⟨env1, e1, e2⟩ := h2 x hx
  simp [turn1, e1, e2]
/-- two clauses, over values that need no test -/
theorem cp2_pure {cf : Nat → List D → Sto → Out D} {gs : List D} {elt : Ex} {tg tg1 : Tg} {it it1 : Src} {vs vs1 : List Nat} {env : Env} {s : Sto} {α β : Type} {mk : α → D} {mk1 : β → D} {ys : α → List β} {g : α → β → D} {xs : List α} (h1 : evI cf gs true it env s = .ok (xs.map mk) s)
    (h2 : ∀ x ∈ xs, ∃ env1, bindT tg (mk x) (wipeE (noOwn env) vs) = some env1 ∧ evI cf gs false it1 env1 s = .ok ((ys x).map mk1) s ∧ ∀ y ∈ ys x, ∃ env2, bindT tg1 (mk1 y) (wipeE env1 vs1) = some env2 ∧ ev cf gs false elt env2 s = .ok (g x y) s)
    (hz : (xs.flatMap fun x => (ys x).map (g x)).length ≤ LINE) :
    evF cf gs (.cp2 elt tg it .n tg1 it1 .n vs vs1) env s = .ok (xs.flatMap fun x => (ys x).map (g x)) s := by
  rw [evF_cp2, h1, ok_bind, flatF_pure (g := fun x => (ys x).map (g x)) fun x hx => ?_, ok_bind, if_pos hz]
  obtain ⟨env1, e1, e2, e3⟩ := h2 x hx
  simp only [e1, evC_n, ok_bind, if_true, e2]
  rw [flatF_pure (g := fun y => [g x y]) fun y hy => ?_, flatMap_one]
  obtain ⟨env2, e4, e5⟩ := e3 y hy
  simp [e4, e5]
/-- a loop that only appends -/
theorem forF_app {α κ : Type} {f : D → Env → Sto → Out Flow} {mk : α → D} {E : List D → κ → Env} {g : α → List D} {s : Sto} {M c : Nat} : ∀ {xs : List α}, (∀ x ∈ xs, ∀ acc k, acc.length ≤ M → ∃ k', f (mk x) (E acc k) s = .ok (.nx (E (acc ++ g x) k')) s) → (∀ x ∈ xs, (g x).length ≤ c) →
    ∀ acc k, acc.length + xs.length * c ≤ M → ∃ k', forF f (xs.map mk) (E acc k) s = .ok (.nx (E (acc ++ xs.flatMap g) k')) s
  | [], _, _, acc, k, _ => ⟨k, by simp [forF_nil]⟩
  | x :: xs, h, hc, acc, k, hM => by
    rw [List.length_cons, Nat.add_mul] at hM
    obtain ⟨k1, e1⟩ := h x List.mem_cons_self acc k (by omega)
    have h1 := hc x List.mem_cons_self
    obtain ⟨k2, e2⟩ := forF_app (f := f) (mk := mk) (E := E) (g := g) (s := s) (M := M) (c := c) (xs := xs) (fun y hy => h y (List.mem_cons_of_mem _ hy)) (fun y hy => hc y (List.mem_cons_of_mem _ hy)) (acc ++ g x) k1 (by rw [List.length_append]; omega)
    refine ⟨k2, ?_⟩
    rw [List.map_cons, forF_cons, e1, nextL_nx, e2, List.flatMap_cons, List.append_assoc]
end PV
namespace PV.K81
open PySem PV
theorem sc {n k : Nat} (h : k + 1 ≤ n) : ∃ m, n = m + 1 ∧ k ≤ m := ⟨n - 1, by omega, by omega⟩
section
variable {n : Nat} {s : Sto}
/-! ### blocks -/
def rowD (W : Nat) (f : Int → Int → Int) (b : Nat) : D := .tup ((List.range W).map fun (a : Nat) => .int (f a b))
def bD (W H : Nat) (f : Int → Int → Int) : D := .tup ((List.range H).map (rowD W f))
variable {W H : Nat} {f : Int → Int → Int}
@[simp] theorem deref_row {b : Nat} : deref s (rowD W f b) = rowD W f b := id rfl
@[simp] theorem deref_bD : deref s (bD W H f) = bD W H f := id rfl
@[simp] theorem len_row {b : Nat} : bltD .len [rowD W f b] = some (.int W) := by unfold rowD; simp
@[simp] theorem len_bD : bltD .len [bD W H f] = some (.int H) := by unfold bD; simp
theorem idx_bD {y : Int} (h : 0 ≤ y ∧ y < H) : idxD (bD W H f) (.int y) = some (rowD W f y.toNat) := by
  have e : y = (y.toNat : Nat) := by omega
  rw [e]
  exact idx_tup (by rw [List.getElem?_map, List.getElem?_range (by omega)]; rfl)
theorem idx_row {x : Int} {b : Nat} (h : 0 ≤ x ∧ x < W) : idxD (rowD W f b) (.int x) = some (.int (f x b)) := by
  have e : x = (x.toNat : Nat) := by omega
  rw [e]
  exact idx_tup (by rw [List.getElem?_map, List.getElem?_range (by omega)]; rfl)
theorem e_size (hn : 1 ≤ n) (hH : 0 < H) : callF fs gs n 2 [bD W H f] s = .ok (.tup [.int W, .int H]) s := by
  obtain ⟨m, rfl, hm⟩ := sc hn
  rw [call_at (f := c_size_of) rfl rfl]
  simp [c_size_of, startE, frzR, List.replicate, idx_bD (W := W) (H := H) (f := f) (y := 0) (by omega)]
/-! ### fields -/
def benF (sd x y : Int) : List (Int × Int) := (ir y (y + sd)).flatMap fun b => (ir x (x + sd)).map fun a => (a, b)
theorem mem_ben {sd x y : Int} {p : Int × Int} : p ∈ benF sd x y ↔ (x ≤ p.1 ∧ p.1 < x + sd) ∧ y ≤ p.2 ∧ p.2 < y + sd := by
  unfold benF
  simp only [List.mem_flatMap, List.mem_map, mem_ir]
  constructor
  · rintro ⟨b, hb, a, ha, rfl⟩; exact ⟨ha, hb⟩
  · rintro ⟨h1, h2⟩; exact ⟨p.2, h2, p.1, h1, rfl⟩
theorem e_ben {nm sh rm : D} {sd x y : Int} (hn : 1 ≤ n) (h1 : 0 ≤ sd ∧ sd ≤ 3) (h2 : 0 ≤ x ∧ x ≤ 1000) (h3 : 0 ≤ y ∧ y ≤ 1000) : callF fs gs n 8 [.tup [nm, .int sd, sh, rm], .tup [.int x, .int y]] s = .ok (.lst ((benF sd x y).map pD)) s := by
  obtain ⟨m, rfl, hm⟩ := sc hn
  rw [call_at (f := c_fields_beneath) rfl rfl]
  have e : ∀ env, env = [some (SV.val (.tup [nm, .int sd, sh, rm])), some (.val (.tup [.int x, .int y])), some (.val (.int x)), some (.val (.int y)), none, none] → evF (callF fs gs m) gs (.cp2 (.tup (.c (.var 5) (.c (.var 4) .nil))) (.nm 4) (.rg2 (.var 3) (.bin .add (.var 3) (.idx (.var 0) (.int 1)))) .n (.nm 5) (.rg2 (.var 2) (.bin .add (.var 2) (.idx (.var 0) (.int 1)))) .n [4, 5] [5]) env s = .ok ((benF sd x y).map pD) s := by
    rintro env rfl
    rw [cp2_pure (xs := ir y (y + sd)) (mk := D.int) (mk1 := D.int) (ys := fun _ => ir x (x + sd)) (g := fun b a => .tup [.int a, .int b])]
    · unfold benF; rw [List.map_flatMap]; simp only [List.map_map]; rfl
    · simp [rng2_ir (i := y) (j := y + sd) (by omega)]
    · intro b hb
      refine ⟨_, rfl, by simp [noOwn, wipeE, rng2_ir (i := x) (j := x + sd) (by omega)], fun a ha => ⟨_, rfl, by simp [noOwn, wipeE]⟩⟩
    · refine Nat.le_trans (flatMap_le (c := 3) fun b hb => by simp [ir_len]; omega) ?_
      rw [ir_len]; have : (y + sd - y).toNat ≤ 3 := by omega
      show _ ≤ 16777216
      omega
  simp [c_fields_beneath, startE, frzR, List.replicate, e _ rfl]
end
end PV.K81

set_option maxRecDepth 100000
set_option maxHeartbeats 4000000
namespace PV
open PySem
end PV
namespace PV.K81
open PySem PV
section
variable {n : Nat} {s : Sto} {W H : Nat} {f : Int → Int → Int}
/-! ### fields about -/
def abRow (sd rm x y : Int) (W : Nat) (b : Int) : List (Int × Int) := (ir (mx 0 (x - rm)) (mn W (x + sd + rm))).flatMap fun a => if (x ≤ a ∧ a < x + sd) ∧ y ≤ b ∧ b < y + sd then [] else [(a, b)]
def abF (sd rm x y : Int) (W H : Nat) : List (Int × Int) := (ir (mx 0 (y - rm)) (mn H (y + sd + rm))).flatMap (abRow sd rm x y W)
theorem mem_ab {sd rm x y : Int} {p : Int × Int} : p ∈ abF sd rm x y W H ↔ ((0 ≤ p.1 ∧ p.1 < W) ∧ 0 ≤ p.2 ∧ p.2 < H) ∧ ((x - rm ≤ p.1 ∧ p.1 < x + sd + rm) ∧ y - rm ≤ p.2 ∧ p.2 < y + sd + rm) ∧ ¬ ((x ≤ p.1 ∧ p.1 < x + sd) ∧ y ≤ p.2 ∧ p.2 < y + sd) := by
  unfold abF abRow
  simp only [List.mem_flatMap, mem_ir]
  unfold mx mn
  constructor
  · rintro ⟨b, hb, a, ha, h⟩
    split at h
    · cases h
    · rename_i hh
      rw [List.mem_singleton] at h
      subst h
      refine ⟨?_, ?_, hh⟩
      · split at ha <;> split at ha <;> split at hb <;> split at hb <;> simp only <;> omega
      · split at ha <;> split at ha <;> split at hb <;> split at hb <;> simp only <;> omega
  · rintro ⟨h1, h2, h3⟩
    refine ⟨p.2, by split <;> split <;> omega, p.1, by split <;> split <;> omega, ?_⟩
    rw [if_neg h3]; simp
def EA (W H : Nat) (tool : D) (sd rm x y : Int) (L : List D) (ob oa : Option SV) : Env :=
  [some (.val (.tup [.int W, .int H])), some (.val tool), some (.val (.tup [.int x, .int y])), some (.val (.int x)), some (.val (.int y)), some (.val (.int rm)), some (.val (.int sd)), some (.own L), ob, oa]
def bInner : Sms := (.c (.ite (.not (.bop true (.c (.chn .le .lt (.var 3) (.var 9) (.bin .add (.var 3) (.var 6))) (.c (.chn .le .lt (.var 4) (.var 8) (.bin .add (.var 4) (.var 6))) .nil)))) (.c (.app 7 (.tup (.c (.var 9) (.c (.var 8) .nil)))) .nil) .nil) .nil)
def iInner : Src := (.rg2 (.blt .max (.c (.int 0) (.c (.bin .sub (.var 3) (.var 5)) .nil))) (.blt .min (.c (.idx (.var 0) (.int 0)) (.c (.bin .add (.bin .add (.var 3) (.var 6)) (.var 5)) .nil))))
def iOuter : Src := (.rg2 (.blt .max (.c (.int 0) (.c (.bin .sub (.var 4) (.var 5)) .nil))) (.blt .min (.c (.idx (.var 0) (.int 1)) (.c (.bin .add (.bin .add (.var 4) (.var 6)) (.var 5)) .nil))))
theorem ir_le {hi : Int} {x : Int} {W : Nat} : (ir (mx 0 x) (mn W hi)).length ≤ W := by
  rw [ir_len]; unfold mx mn; split <;> split <;> omega
section
variable {tool : D} {sd rm x y : Int} (hsd : 0 ≤ sd ∧ sd ≤ 3) (hrm : 0 ≤ rm ∧ rm ≤ 1) (hx : 0 ≤ x ∧ x ≤ 1000) (hy : 0 ≤ y ∧ y ≤ 1000) (hW : W ≤ 10) (hH : H ≤ 10)
theorem abRow_le {b : Int} : ((abRow sd rm x y W b).map pD).length ≤ W * 1 := by
  rw [List.length_map]
  refine Nat.le_trans (flatMap_le (c := 1) fun a _ => by split <;> simp) ?_
  exact Nat.mul_le_mul_right _ ir_le
include hsd hrm hx hW in
theorem ab_inner {b : Int} {L : List D} {oa : Option SV} (hL : L.length ≤ 1000) :
    ∃ oa', exec (callF fs gs n) gs (.for (.nm 9) iInner bInner) (EA W H tool sd rm x y L (some (.val (.int b))) oa) s = .ok (.nx (EA W H tool sd rm x y (L ++ (abRow sd rm x y W b).map pD) (some (.val (.int b))) oa')) s := by
  rw [exec_for]
  have hr := rng2_ir (i := mx 0 (x - rm)) (j := mn W (x + sd + rm)) (by unfold mx mn; split <;> split <;> omega)
  have e : frzI (EA W H tool sd rm x y L (some (.val (.int b))) oa) iInner = EA W H tool sd rm x y L (some (.val (.int b))) oa := rfl
  have e1 : evI (callF fs gs n) gs false iInner (EA W H tool sd rm x y L (some (.val (.int b))) oa) s = .ok ((ir (mx 0 (x - rm)) (mn W (x + sd + rm))).map D.int) s := by
    simp [iInner, EA, hr]
  rw [e, e1, ok_bind]
  have key := forF_app (f := stepF (callF fs gs n) gs (.nm 9) bInner) (mk := D.int) (E := fun acc oa => EA W H tool sd rm x y acc (some (.val (.int b))) oa) (g := fun a => (if (x ≤ a ∧ a < x + sd) ∧ y ≤ b ∧ b < y + sd then [] else [(a, b)]).map pD) (s := s) (M := 2000) (c := 1)
    (xs := ir (mx 0 (x - rm)) (mn W (x + sd + rm))) (fun a _ acc k hl => ⟨some (.val (.int a)), by
      have hz : acc.length < LINE := by show _ < 16777216; omega
      unfold stepF
      simp only [bindT_nm, EA]
      by_cases c1 : x ≤ a <;> by_cases c2 : a < x + sd <;> by_cases c3 : y ≤ b <;> by_cases c4 : b < y + sd <;> simp [bInner, c1, c2, c3, c4, chg, hz, pD]⟩) (fun a _ => by split <;> simp) L oa (by have := ir_le (hi := x + sd + rm) (x := x - rm) (W := W); omega)
  obtain ⟨k', e2⟩ := key
  refine ⟨k', ?_⟩
  rw [e2]
  unfold abRow
  rw [List.map_flatMap]
include hsd hrm hx hy hW hH in
theorem e_about {nm sh : D} (hn : 1 ≤ n) : callF fs gs n 9 [.tup [.int W, .int H], .tup [nm, .int sd, sh, .int rm], .tup [.int x, .int y]] s = .ok (.lst ((abF sd rm x y W H).map pD)) s := by
  obtain ⟨m, rfl, hm⟩ := sc hn
  rw [call_at (f := c_fields_about) rfl rfl]
  have hr := rng2_ir (i := mx 0 (y - rm)) (j := mn H (y + sd + rm)) (by unfold mx mn; split <;> split <;> omega)
  have key : ∃ env', exec (callF fs gs m) gs (.for (.nm 8) iOuter (.c (.for (.nm 9) iInner bInner) .nil)) (EA W H (.tup [nm, .int sd, sh, .int rm]) sd rm x y [] none none) s = .ok (.nx env') s ∧ ∃ ob oa, env' = EA W H (.tup [nm, .int sd, sh, .int rm]) sd rm x y ((abF sd rm x y W H).map pD) ob oa := by
    rw [exec_for]
    have e : frzI (EA W H (.tup [nm, .int sd, sh, .int rm]) sd rm x y [] none none) iOuter = EA W H (.tup [nm, .int sd, sh, .int rm]) sd rm x y [] none none := rfl
    have e1 : evI (callF fs gs m) gs false iOuter (EA W H (.tup [nm, .int sd, sh, .int rm]) sd rm x y [] none none) s = .ok ((ir (mx 0 (y - rm)) (mn H (y + sd + rm))).map D.int) s := by
      simp [iOuter, EA, hr]
    rw [e, e1, ok_bind]
    have key := forF_app (f := stepF (callF fs gs m) gs (.nm 8) (.c (.for (.nm 9) iInner bInner) .nil)) (mk := D.int) (E := fun acc (k : Option SV × Option SV) => EA W H (.tup [nm, .int sd, sh, .int rm]) sd rm x y acc k.1 k.2) (g := fun b => (abRow sd rm x y W b).map pD) (s := s) (M := 500) (c := W * 1)
      (xs := ir (mx 0 (y - rm)) (mn H (y + sd + rm))) (fun b _ acc k hl => by
        obtain ⟨oa', e2⟩ := ab_inner (n := m) (s := s) (W := W) (H := H) (tool := .tup [nm, .int sd, sh, .int rm]) (y := y) hsd hrm hx hW (b := b) (L := acc) (oa := k.2) (by omega)
        refine ⟨(some (.val (.int b)), oa'), ?_⟩
        unfold stepF
        have e3 : bindT (.nm 8) (.int b) (EA W H (.tup [nm, .int sd, sh, .int rm]) sd rm x y acc k.1 k.2) = some (EA W H (.tup [nm, .int sd, sh, .int rm]) sd rm x y acc (some (.val (.int b))) k.2) := rfl
        simp only [e3, execs_c, e2, nextF_nx, execs_nil]) (fun b _ => abRow_le) [] (none, none) (by
          have := ir_le (hi := y + sd + rm) (x := y - rm) (W := H)
          have := Nat.mul_le_mul this (Nat.mul_le_mul_right 1 hW)
          simp only [List.length_nil]
          omega)
    obtain ⟨k', e2⟩ := key
    refine ⟨_, e2, k'.1, k'.2, ?_⟩
    unfold abF
    rw [List.map_flatMap, List.nil_append]
  obtain ⟨env', k1, ob, oa, rfl⟩ := key
  simp only [c_fields_about, startE, execs_c]
  simp [List.replicate]
  have e3 := k1
  simp only [EA, iOuter, iInner, bInner] at e3
  rw [e3]
  simp [frzR, frzAt, EA]
end
/-! ### the greatest height -/
def gr (f : Int → Int → Int) (L : List (Int × Int)) : Int := maxI (0 :: L.map fun p => f p.1 p.2)
theorem gr_le {L : List (Int × Int)} {z : Int} : gr f L ≤ z ↔ 0 ≤ z ∧ ∀ p ∈ L, f p.1 p.2 ≤ z := by
  unfold gr
  rw [maxI_le]
  refine ⟨fun ⟨a, b⟩ => ⟨a, fun p hp => b _ (List.mem_map.mpr ⟨p, hp, rfl⟩)⟩, fun ⟨a, b⟩ => ⟨a, fun y hy => ?_⟩⟩
  obtain ⟨p, hp, rfl⟩ := List.mem_map.mp hy
  exact b p hp
def InB (W H : Nat) (p : Int × Int) : Prop := (0 ≤ p.1 ∧ p.1 < W) ∧ 0 ≤ p.2 ∧ p.2 < H
theorem e_great {L : List (Int × Int)} (hn : 1 ≤ n) (hL : ∀ p ∈ L, InB W H p) (hz : L.length ≤ 10000) : callF fs gs n 10 [bD W H f, .lst (L.map pD)] s = .ok (.int (gr f L)) s := by
  obtain ⟨m, rfl, hm⟩ := sc hn
  rw [call_at (f := c_greatest_at) rfl rfl]
  have e : ∀ env, env = [some (SV.val (bD W H f)), some (.val (.lst (L.map pD))), none, none] → evF (callF fs gs m) gs (.cp1 (.idx (.idx (.var 0) (.var 3)) (.var 2)) (.tp (.c (.nm 2) (.c (.nm 3) .nil))) (.seq (.var 1)) .n [2, 3]) env s = .ok (L.map fun p => D.int (f p.1 p.2)) s := by
    rintro env rfl
    refine cp1_map (xs := L) (mk := pD) (g := fun p => D.int (f p.1 p.2)) (by simp [items?]) (fun p hp => ?_) (by show _ ≤ 16777216; omega)
    obtain ⟨h1, h2⟩ := hL p hp
    have e2 : ((p.2.toNat : Nat) : Int) = p.2 := by omega
    exact ⟨_, rfl, by simp [noOwn, wipeE, idx_bD h2, idx_row h1, e2]⟩
  have e4 : binD .add (.lst [D.int 0]) (.lst (L.map fun p => D.int (f p.1 p.2))) = some (.lst (D.int 0 :: (L.map fun p => f p.1 p.2).map D.int)) := by
    show (if [D.int 0].length + (L.map fun p => D.int (f p.1 p.2)).length ≤ LINE then some (D.lst ([D.int 0] ++ (L.map fun p => D.int (f p.1 p.2)))) else none) = _
    rw [if_pos (by simp; show _ ≤ 16777216; omega)]
    simp [List.map_map]
  have e5 : bltD .max [.lst (D.int 0 :: List.map (D.int ∘ fun p => f p.1 p.2) L)] = some (.int (gr f L)) := by rw [← List.map_map]; exact max_list
  simp [c_greatest_at, startE, frzR, List.replicate, e _ rfl, e4, e5]
/-! ### free -/
variable {nm : D} {sd sh rm x y z : Int} (hsd : 0 ≤ sd ∧ sd ≤ 3) (hrm : 0 ≤ rm ∧ rm ≤ 1) (hx : 0 ≤ x ∧ x + sd ≤ W) (hy : 0 ≤ y ∧ y + sd ≤ H) (hW : 0 < W ∧ W ≤ 10) (hH : 0 < H ∧ H ≤ 10)
include hsd hx hy hW hH in
theorem ben_in : ∀ p ∈ benF sd x y, InB W H p := fun p hp => by
  rw [mem_ben] at hp
  exact ⟨by omega, by omega⟩
theorem ab_in : ∀ p ∈ abF sd rm x y W H, InB W H p := fun p hp => (mem_ab.mp hp).1
include hsd in
theorem ben_len : (benF sd x y).length ≤ 9 := by
  refine Nat.le_trans (flatMap_le (c := 3) fun b hb => by simp [ir_len]; omega) ?_
  rw [ir_len]; have : (y + sd - y).toNat ≤ 3 := by omega
  omega
include hW hH in
theorem ab_len : (abF sd rm x y W H).length ≤ 100 := by
  refine Nat.le_trans (flatMap_le (c := W) fun b hb => ?_) ?_
  · refine Nat.le_trans (flatMap_le (c := 1) fun a _ => by split <;> simp) ?_
    have := ir_le (hi := x + sd + rm) (x := x - rm) (W := W); omega
  · have := ir_le (hi := y + sd + rm) (x := y - rm) (W := H)
    refine Nat.le_trans (Nat.mul_le_mul this (Nat.le_refl W)) ?_
    exact Nat.mul_le_mul hH.2 hW.2
include hsd hx hy hW hH in
theorem e_free (hn : 2 ≤ n) : callF fs gs n 11 [bD W H f, .tup [nm, .int sd, .int sh, .int rm], ptD x y z] s = .ok (.bl (decide (gr f (benF sd x y) ≤ z))) s := by
  obtain ⟨m, rfl, hm⟩ := sc hn
  rw [call_at (f := c_is_free) rfl rfl]
  have e1 := e_ben (n := m) (s := s) (nm := nm) (sh := .int sh) (rm := .int rm) (sd := sd) (x := x) (y := y) hm hsd (by omega) (by omega)
  have e2 := e_great (n := m) (s := s) (W := W) (H := H) (f := f) (L := benF sd x y) hm (ben_in hsd hx hy hW hH) (by have := ben_len (x := x) (y := y) hsd; omega)
  simp [c_is_free, startE, frzR, List.replicate, ptD, e1, e2, borrows, isOwn]
include hsd hrm hx hy hW hH in
theorem e_shank (hn : 2 ≤ n) : callF fs gs n 12 [bD W H f, .tup [nm, .int sd, .int sh, .int rm], ptD x y z] s = .ok (.bl (decide (gr f (benF sd x y ++ abF sd rm x y W H) ≤ z + sh))) s := by
  obtain ⟨m, rfl, hm⟩ := sc hn
  rw [call_at (f := c_is_shank_free) rfl rfl]
  have e0 := e_size (n := m) (s := s) (W := W) (H := H) (f := f) hm hH.1
  have e1 := e_ben (n := m) (s := s) (nm := nm) (sh := .int sh) (rm := .int rm) (sd := sd) (x := x) (y := y) hm hsd (by omega) (by omega)
  have e3 := e_about (n := m) (s := s) (W := W) (H := H) (nm := nm) (sh := .int sh) hsd hrm (x := x) (y := y) (by omega) (by omega) hW.2 hH.2 hm
  have l1 := ben_len (x := x) (y := y) hsd
  have l2 := ab_len (sd := sd) (rm := rm) (x := x) (y := y) hW hH
  have e2 := e_great (n := m) (s := s) (W := W) (H := H) (f := f) (L := benF sd x y ++ abF sd rm x y W H) hm (fun p hp => (List.mem_append.mp hp).elim (ben_in hsd hx hy hW hH p) (ab_in p)) (by rw [List.length_append]; omega)
  have e4 : binD .add (.lst ((benF sd x y).map pD)) (.lst ((abF sd rm x y W H).map pD)) = some (.lst ((benF sd x y ++ abF sd rm x y W H).map pD)) := by
    show (if _ then some (D.lst (_ ++ _)) else none) = _
    rw [if_pos (by simp only [List.length_map]; show _ ≤ 16777216; omega), List.map_append]
  rw [List.map_append] at e2 e4
  simp [c_is_shank_free, startE, frzR, List.replicate, ptD, e0, e1, e3, e4, e2, borrows, isOwn]
/-! ### cutting -/
def cutf (sd x y z : Int) (f : Int → Int → Int) : Int → Int → Int := fun a b => if (y ≤ b ∧ b < y + sd) ∧ x ≤ a ∧ a < x + sd then mn (f a b) z else f a b
theorem enum_map {α : Type} {g : Nat → D} {N : Nat} : enum? (.tup ((List.range N).map g)) = some ((List.range N).map fun i => .tup [.int (i : Nat), g i]) := by
  show some ((List.range ((List.range N).map g).length).zipWith (fun (i : Nat) d => D.tup [.int i, d]) ((List.range N).map g)) = _
  rw [List.length_map, List.length_range, List.zipWith_map_right, List.zipWith_self]
def EC (B t p : D) (x y z sd : Int) (L : List D) (o1 o2 o3 : Option SV) : Env :=
  [some (.val B), some (.val t), some (.val p), some (.val (.int x)), some (.val (.int y)), some (.val (.int z)), some (.val (.int sd)), some (.own L), o1, o2, o3, none, none]
theorem enum_bD : enum? (bD W H f) = some ((List.range H).map fun i => .tup [.int (i : Nat), rowD W f i]) := enum_map (α := Nat)
theorem enum_row {b : Nat} : enum? (rowD W f b) = some ((List.range W).map fun i => .tup [.int (i : Nat), .int (f i b)]) := enum_map (α := Nat)
end
end PV.K81

set_option maxRecDepth 100000
set_option maxHeartbeats 4000000
namespace PV.K81
open PySem PV
section
variable {n : Nat} {s : Sto} {W H : Nat} {f : Int → Int → Int} {nm : D} {sd sh rm x y z : Int} 
def bCut : Sms := (.c (.asg (.nm 10) (.chn .le .lt (.var 4) (.var 8) (.bin .add (.var 4) (.var 6)))) (.c (.app 7 (.blt .tup (.c (.fz (.cp1 (.ite (.bop true (.c (.var 10) (.c (.chn .le .lt (.var 3) (.var 11) (.bin .add (.var 3) (.var 6))) .nil))) (.blt .min (.c (.var 12) (.c (.var 5) .nil))) (.var 12)) (.tp (.c (.nm 11) (.c (.nm 12) .nil))) (.enm (.var 9)) .n [11, 12])) .nil))) .nil))
theorem flatMap_rows {g : Nat → D} : (List.range H).flatMap (fun i => [g i]) = (List.range H).map g := flatMap_one
theorem e_cut (hW : W ≤ 10) (hH : H ≤ 10) (hn : 1 ≤ n) : callF fs gs n 13 [bD W H f, .tup [nm, .int sd, .int sh, .int rm], ptD x y z] s = .ok (bD W H (cutf sd x y z f)) s := by
  obtain ⟨m, rfl, hm⟩ := sc hn
  rw [call_at (f := c_cut_at) rfl rfl]
  have key := forF_app (f := stepF (callF fs gs m) gs (.tp (.c (.nm 8) (.c (.nm 9) .nil))) bCut) (mk := fun i => .tup [.int (i : Nat), rowD W f i]) (E := fun acc (k : Option SV × Option SV × Option SV) => EC (bD W H f) (.tup [nm, .int sd, .int sh, .int rm]) (ptD x y z) x y z sd acc k.1 k.2.1 k.2.2)
    (g := fun i => [rowD W (cutf sd x y z f) i]) (s := s) (M := 500) (c := 1) (xs := List.range H) (fun i _ acc k hl => by
      have hz : acc.length < LINE := by show _ < 16777216; omega
      refine ⟨(some (.val (.int (i : Nat))), some (.val (rowD W f i)), some (.val (.bl (decide (y ≤ i ∧ i < y + sd))))), ?_⟩
      unfold stepF
      have e : ∀ env, env = EC (bD W H f) (.tup [nm, .int sd, .int sh, .int rm]) (ptD x y z) x y z sd acc (some (.val (.int (i : Nat)))) (some (.val (rowD W f i))) (some (.val (.bl (decide (y ≤ i ∧ i < y + sd))))) → evF (callF fs gs m) gs (.cp1 (.ite (.bop true (.c (.var 10) (.c (.chn .le .lt (.var 3) (.var 11) (.bin .add (.var 3) (.var 6))) .nil))) (.blt .min (.c (.var 12) (.c (.var 5) .nil))) (.var 12)) (.tp (.c (.nm 11) (.c (.nm 12) .nil))) (.enm (.var 9)) .n [11, 12]) env s = .ok ((List.range W).map fun (a : Nat) => D.int (cutf sd x y z f a i)) s := by
        rintro env rfl
        refine cp1_map (xs := List.range W) (mk := fun j => .tup [.int (j : Nat), .int (f j i)]) (g := fun (a : Nat) => D.int (cutf sd x y z f a i)) (by simp [EC, enum_row]) (fun j hj => ⟨_, rfl, ?_⟩) (by simp; show _ ≤ 16777216; omega)
        by_cases c1 : y ≤ i <;> by_cases c2 : (i : Int) < y + sd <;> by_cases c3 : x ≤ j <;> by_cases c4 : (j : Int) < x + sd <;> simp [EC, noOwn, wipeE, c1, c2, c3, c4, cutf]
      have e2 := e _ rfl
      have e7 : D.tup (List.map (fun (a : Nat) => D.int (cutf sd x y z f a i)) (List.range W)) = rowD W (cutf sd x y z f) i := rfl
      by_cases c1 : y ≤ i <;> by_cases c2 : (i : Int) < y + sd <;> simp [EC, c1, c2] at e2 <;> simp [bCut, EC, c1, c2, e2, chg, hz, e7]) (fun i _ => by simp) [] (none, none, none) (by simp; omega)
  obtain ⟨k', e1⟩ := key
  rw [flatMap_rows] at e1
  have e3 : ∀ env, env = EC (bD W H f) (.tup [nm, .int sd, .int sh, .int rm]) (ptD x y z) x y z sd [] none none none → exec (callF fs gs m) gs (.for (.tp (.c (.nm 8) (.c (.nm 9) .nil))) (.enm (.var 0)) bCut) env s = .ok (.nx (EC (bD W H f) (.tup [nm, .int sd, .int sh, .int rm]) (ptD x y z) x y z sd ((List.range H).map (rowD W (cutf sd x y z f))) k'.1 k'.2.1 k'.2.2)) s := by
    rintro env rfl
    rw [exec_for]
    have e4 : frzI (EC (bD W H f) (.tup [nm, .int sd, .int sh, .int rm]) (ptD x y z) x y z sd [] none none none) (.enm (.var 0)) = EC (bD W H f) (.tup [nm, .int sd, .int sh, .int rm]) (ptD x y z) x y z sd [] none none none := rfl
    have e5 : evI (callF fs gs m) gs false (.enm (.var 0)) (EC (bD W H f) (.tup [nm, .int sd, .int sh, .int rm]) (ptD x y z) x y z sd [] none none none) s = .ok ((List.range H).map fun i => .tup [.int (i : Nat), rowD W f i]) s := by
      simp [EC, enum_bD]
    rw [e4, e5, ok_bind, e1]
    simp
  have e6 := e3 _ rfl
  simp only [EC, bCut, ptD] at e6
  have e8 : D.tup ((List.range H).map (rowD W (cutf sd x y z f))) = bD W H (cutf sd x y z f) := rfl
  simp [c_cut_at, startE, List.replicate, ptD, e6, frzR, e8]
/-! ### a stroke's axis, its bounds -/
variable {x' y' z' : Int}
/-! ### behind a stroke -/
/-! ### the first meeting as an option -/
def pk (ax u v : Int) : Int := if ax = 0 then u else v
def cond (ax sd rm lim x y : Int) (f : Int → Int → Int) (a b : Int) : Prop := lim < f a b ∧ pk (1 - ax) x y - rm ≤ pk (1 - ax) a b ∧ pk (1 - ax) a b ≤ pk (1 - ax) x y + sd - 1 + rm
instance {ax sd rm lim x y : Int} {f : Int → Int → Int} {a b : Int} : Decidable (cond ax sd rm lim x y f a b) := inferInstanceAs (Decidable (_ ∧ _ ∧ _))
end
end PV.K81

set_option maxRecDepth 100000
set_option maxHeartbeats 4000000
namespace PV.K81
open PySem PV
section
variable {n : Nat} {s : Sto} {W H : Nat} {f : Int → Int → Int} {nm : D} {sd sh rm x y z x' y' z' : Int}
/-! ### the strike -/
def kindD (k : Bool) : D := if k = true then .str "fast" else .str "cut"
theorem kind_eq {k : Bool} : cmpD .eq (kindD k) (.str "fast") = some k := by cases k <;> decide +kernel
@[simp] theorem deref_kind {k : Bool} : deref s (kindD k) = kindD k := by cases k <;> rfl
@[simp] theorem gs_0 : gs[1]? = some (.str "fast") := id rfl
end
end PV.K81

set_option maxRecDepth 100000
set_option maxHeartbeats 4000000
namespace PV
@[simp] theorem bin_addT {a b : List D} : binD .add (.tup a) (.tup b) = if a.length + b.length ≤ LINE then some (.tup (a ++ b)) else none := id rfl
@[simp] theorem bin_addL {a b : List D} : binD .add (.lst a) (.lst b) = if a.length + b.length ≤ LINE then some (.lst (a ++ b)) else none := id rfl
end PV
namespace PV.K81
open PySem PV
section
variable {n : Nat} {s : Sto} {W H : Nat} {f : Int → Int → Int} {nm : D} {sd sh rm x y z x' y' z' : Int}
section
variable (hsd : 0 ≤ sd ∧ sd ≤ 3) (hrm : 0 ≤ rm ∧ rm ≤ 1) (hx : 0 ≤ x ∧ x + sd ≤ W) (hy : 0 ≤ y ∧ y + sd ≤ H) (hW : 0 < W ∧ W ≤ 10) (hH : 0 < H ∧ H ≤ 10)
end
/-! ### strokes from place to place -/
def absI (a : Int) : Int := if a < 0 then -a else a
end
end PV.K81

set_option maxRecDepth 100000
set_option maxHeartbeats 4000000
namespace PV
open PySem
@[simp] theorem bin_mul {i j : Int} : binD .mul (.int i) (.int j) = if (-18446744073709551616 < i ∧ i < 18446744073709551616) ∨ (-18446744073709551616 < j ∧ j < 18446744073709551616) then some (.int (i * j)) else none := id rfl
@[simp] theorem bin_mod {i j : Int} : binD .mod (.int i) (.int j) = if 0 < j then some (.int (i % j)) else none := id rfl
@[simp] theorem bin_div {i j : Int} : binD .div (.int i) (.int j) = if 0 < j ∧ j < 1073741824 then some (.int (i / j)) else none := id rfl
@[simp] theorem deref_loc {n : Nat} {s : Sto} : deref s (.loc n) = match s[n]? with
  | some (.lst ds) => .lst ds
  | _ => .loc n := rfl
theorem ev_popL {cf : Nat → List D → Sto → Out D} {gs : List D} {o : Bool} {env : Env} {s : Sto} {i n : Nat} {e : Ex} {k : Int} {s' : Sto} {ds : List D} {j : Nat} {d : D} (h0 : isL s n = true) (h1 : env[i]? = some (some (.val (.loc n)))) (h2 : ev cf gs true e env s = .ok (.int k) s') (h3 : s'[n]? = some (.lst ds))
    (hk : -9223372036854775808 ≤ k ∧ k < 9223372036854775808) (h4 : L2.ixN ds.length k = some j) (h5 : ds[j]? = some d) : ev cf gs o (.popL i (.s e)) env s = .ok d (s'.set n (.lst (ds.eraseIdx j))) := by
  conv => lhs; unfold ev
  simp only [h0, h1, evO_s, h2, ok_bind, h3, if_pos hk, h4, h5]
  rfl
@[simp] theorem isi_int {i : Int} {t : Ty} : isiD (.int i) t = some (t == .int) := id rfl
@[simp] theorem isi_non {t : Ty} : isiD .non t = some false := id rfl
@[simp] theorem isi_tup {ds : List D} {t : Ty} : isiD (.tup ds) t = some (t == .tup) := id rfl
@[simp] theorem isi_lst {ds : List D} {t : Ty} : isiD (.lst ds) t = some (t == .lst) := id rfl
@[simp] theorem isi_bl {b : Bool} {t : Ty} : isiD (.bl b) t = some (t == .bool || t == .int) := id rfl
@[simp] theorem isi_str {x : Str} {t : Ty} : isiD (.str x) t = some (t == .str) := id rfl
@[simp] theorem eq_bl {a b : Bool} : cmpD .eq (.bl a) (.bl b) = some (a == b) := by cases a <;> cases b <;> rfl
@[simp] theorem isNon_bl {i : Bool} : isNonD (.bl i) = false := id rfl
@[simp] theorem isNon_str {i : Str} : isNonD (.str i) = false := id rfl
@[simp] theorem is_bl {a b : Bool} : cmpD .is (.bl a) (.bl b) = some (decide (a = b)) := id rfl
@[simp] theorem isn_bl {a b : Bool} : cmpD .isn (.bl a) (.bl b) = some (!decide (a = b)) := id rfl
@[simp] theorem is_non {x : D} : cmpD .is x .non = some (isNonD x) := by show isD x .non = _; cases x <;> rfl
@[simp] theorem isn_non {x : D} : cmpD .isn x .non = some (!isNonD x) := by show (isD x .non).map (!·) = _; cases x <;> rfl
@[simp] theorem isNon_non : isNonD .non = true := id rfl
@[simp] theorem isNon_int {i : Int} : isNonD (.int i) = false := id rfl
@[simp] theorem isNon_tup {ds : List D} : isNonD (.tup ds) = false := id rfl
theorem all_true {α : Type} {l : List α} : bltD .all [.lst (l.map fun _ => D.bl true)] = some (.bl true) := by
  have : bools? (l.map fun _ => D.bl true) = some (l.map fun _ => true) := by
    induction l with
    | nil => rfl
    | cons x l ih => show (bools? (l.map fun _ => D.bl true)).map (true :: ·) = _; rw [ih]; rfl
  show (bools? (l.map fun _ => D.bl true)).map (fun l => D.bl (l.all id)) = _
  rw [this]
  simp
theorem idx_tupI {ds : List D} {i : Int} {d : D} (h : 0 ≤ i) (e : ds[i.toNat]? = some d) : idxD (.tup ds) (.int i) = some d := by
  have q : i = ((i.toNat : Nat) : Int) := by omega
  rw [q]; exact idx_tup e
theorem idx_lstI {ds : List D} {i : Int} {d : D} (h : 0 ≤ i) (e : ds[i.toNat]? = some d) : idxD (.lst ds) (.int i) = some d := idx_tupI h e
/-- what the laws' own comparison is asked -/
inductive Sim : Nat → D → Prop
  | non {k : Nat} : Sim k .non
  | int {k : Nat} {i : Int} : Sim k (.int i)
  | bl {k : Nat} {b : Bool} : Sim k (.bl b)
  | str {k : Nat} {x : Str} : PyData.strOk x = true → Sim k (.str x)
  | tup {k : Nat} {ds : List D} : ds.length ≤ 100000 → (∀ d ∈ ds, Sim k d) → Sim (k + 1) (.tup ds)
  | lst {k : Nat} {ds : List D} : ds.length ≤ 100000 → (∀ d ∈ ds, Sim k d) → Sim (k + 1) (.lst ds)
end PV
namespace PV.K81
open PySem PV
section
variable {n : Nat} {s : Sto} {W H : Nat} {f : Int → Int → Int} {nm : D} {sd sh rm x y z x' y' z' : Int}
/-- the box stands: the script's cells, the value, the seed -/
def Bx (s : Sto) : Prop := ∃ (cs : List Int) (v t : Int) (r : Sto), s = .lst (cs.map D.int) :: .lst [.loc 0, .int v, .int t] :: r
theorem e_load (hb : Bx s) (hn : 1 ≤ n) : ∃ v s', callF fs gs n 26 [.loc 1] s = .ok (.int v) s' ∧ Bx s' := by
  obtain ⟨m, rfl, hm⟩ := sc hn
  obtain ⟨cs, v, t, r, rfl⟩ := hb
  rw [call_at (f := c__law_load) rfl rfl]
  cases cs with
  | nil =>
    refine ⟨_, _, by simp [c__law_load, startE, List.replicate, L2.ixN, chg, frzR]; first | exact ⟨rfl, rfl⟩ | rfl, [], v, _, r, rfl⟩
  | cons c cs =>
    have ep : ∀ (o : Bool) (env : Env), env[1]? = some (some (.val (.loc 0))) → ev (callF fs gs m) gs o (.popL 1 (.s (.int 0))) env (.lst (D.int c :: cs.map D.int) :: .lst [.loc 0, .int v, .int t] :: r) = .ok (.int c) (.lst (cs.map D.int) :: .lst [.loc 0, .int v, .int t] :: r) := fun o env h =>
      ev_popL (n := 0) (k := 0) (j := 0) (ds := D.int c :: cs.map D.int) rfl h ev_int rfl (by decide) (by simp [L2.ixN]) rfl
    by_cases c1 : 0 ≤ c
    · by_cases c2 : 1000000000000000000 ≤ 2 * c
      · refine ⟨_, _, by simp [c__law_load, startE, List.replicate, L2.ixN, chg, frzR, ep, c1, c2]; first | exact ⟨rfl, rfl⟩ | rfl, cs, v, t, r, rfl⟩
      · refine ⟨_, _, by simp [c__law_load, startE, List.replicate, L2.ixN, chg, frzR, ep, c1, c2]; first | exact ⟨rfl, rfl⟩ | rfl, cs, v, _, r, rfl⟩
    · by_cases c2 : 1000000000000000000 ≤ -2 * c - 1
      · refine ⟨_, _, by simp [c__law_load, startE, List.replicate, L2.ixN, chg, frzR, ep, c1, c2]; first | exact ⟨rfl, rfl⟩ | rfl, cs, v, t, r, rfl⟩
      · refine ⟨_, _, by simp [c__law_load, startE, List.replicate, L2.ixN, chg, frzR, ep, c1, c2]; first | exact ⟨rfl, rfl⟩ | rfl, cs, v, _, r, rfl⟩
theorem e_draw {many : Int} (hb : Bx s) (h : 0 < many ∧ many < 1073741824) (hn : 2 ≤ n) : ∃ d s', callF fs gs n 27 [.loc 1, .int many] s = .ok (.int d) s' ∧ (0 ≤ d ∧ d < many) ∧ Bx s' := by
  obtain ⟨m, rfl, hm⟩ := sc hn
  obtain ⟨w, s1, e1, h1⟩ := e_load hb hm
  obtain ⟨cs, v, t, r, rfl⟩ := hb
  obtain ⟨cs1, v1, t1, r1, rfl⟩ := h1
  rw [call_at (f := c__law_draw) rfl rfl]
  by_cases c : v < many
  · refine ⟨w % many, _, by simp [c__law_draw, startE, List.replicate, L2.ixN, chg, frzR, c, e1, borrows, isOwn, h.1, h.2]; rfl, ⟨Int.emod_nonneg _ (by omega), Int.emod_lt_of_pos _ h.1⟩, cs1, _, t1, r1, rfl⟩
  · refine ⟨v % many, _, by simp [c__law_draw, startE, List.replicate, L2.ixN, chg, frzR, c, e1, borrows, isOwn, h.1, h.2]; rfl, ⟨Int.emod_nonneg _ (by omega), Int.emod_lt_of_pos _ h.1⟩, cs, _, t, r, rfl⟩
theorem e_box {ns : List Int} (hn : 1 ≤ n) : ∃ s', callF fs gs n 25 [.rol (ns.map D.int)] [] = .ok (.loc 1) s' ∧ Bx s' := by
  obtain ⟨m, rfl, hm⟩ := sc hn
  rw [call_at (f := c__law_box) rfl rfl]
  have e : slcD (.rol (ns.map D.int)) none (some 63) = some (.lst ((cut ns none (some 63)).map D.int)) := by
    show some (D.lst (cut (ns.map D.int) none (some 63))) = _
    unfold cut
    rw [List.length_map, List.map_take, List.map_drop]
  exact ⟨[.lst ((cut ns none (some 63)).map D.int), .lst [.loc 0, .int 0, .int (4711 + ns.length)]], by simp [c__law_box, startE, List.replicate, frzR, e], cut ns none (some 63), 0, 4711 + ns.length, [], rfl⟩
set_option maxRecDepth 4000 in
theorem e_same : ∀ {k : Nat} {d : D}, Sim k d → ∀ {n : Nat} {s : Sto}, k + 1 ≤ n → callF fs gs n 28 [d, d] s = .ok (.bl true) s := by
  have rep : ∀ {k : Nat} {ds : List D} {d : D} (hd : d = .tup ds ∨ d = .lst ds) (hl : ds.length ≤ 100000) (ih : ∀ d ∈ ds, ∀ {n : Nat} {s : Sto}, k + 1 ≤ n → callF fs gs n 28 [d, d] s = .ok (.bl true) s) {n : Nat} {s : Sto}, k + 2 ≤ n → callF fs gs n 28 [d, d] s = .ok (.bl true) s := by
    intro k ds d hd hl ih n s hn
    obtain ⟨m, rfl, hm⟩ := sc hn
    rw [call_at (f := c__law_same) rfl rfl]
    have key : ∀ env, env = [some (SV.val d), some (.val d), none] → evF (callF fs gs m) gs (.cp1 (.call 28 (.c (.idx (.var 0) (.var 2)) (.c (.idx (.var 1) (.var 2)) .nil))) (.nm 2) (.rg1 (.blt .len (.c (.var 0) .nil))) .n [2]) env s = .ok ((ir 0 ds.length).map fun _ => D.bl true) s := by
      rintro env rfl
      refine cp1_map (xs := ir 0 ds.length) (mk := D.int) (g := fun _ => D.bl true) ?_ (fun i hi => ⟨_, rfl, ?_⟩) (by rw [ir_len]; show _ ≤ 16777216; omega)
      · rcases hd with rfl | rfl <;> simp [rng1_ir (j := ds.length) (by omega)]
      · rw [mem_ir] at hi
        have h1 : i.toNat < ds.length := by omega
        have h2 : ds[i.toNat]? = some ds[i.toNat] := List.getElem?_eq_getElem h1
        have h3 := ih _ (List.getElem_mem h1) (n := m) (s := s) (by omega)
        rcases hd with rfl | rfl
        · simp [noOwn, wipeE, idx_tupI hi.1 h2, h3, borrows, isOwn]
        · simp [noOwn, wipeE, idx_lstI hi.1 h2, h3, borrows, isOwn]
    have e1 := key _ rfl
    have e2 := all_true (l := ir 0 ds.length)
    generalize (ir 0 ds.length).map (fun _ => D.bl true) = M at e1 e2
    rcases hd with rfl | rfl
    · simp [c__law_same, startE, frzR, e1, e2, List.replicate]
    · simp [c__law_same, startE, frzR, e1, e2, List.replicate]
  intro k d h
  induction h with
  | non => intro n s hn; obtain ⟨m, rfl, hm⟩ := sc (k := 0) (by omega : 0 + 1 ≤ n); rw [call_at (f := c__law_same) rfl rfl]; simp [c__law_same, startE, List.replicate, frzR]
  | int => intro n s hn; obtain ⟨m, rfl, hm⟩ := sc (k := 0) (by omega : 0 + 1 ≤ n); rw [call_at (f := c__law_same) rfl rfl]; simp [c__law_same, startE, List.replicate, frzR]
  | bl => intro n s hn; obtain ⟨m, rfl, hm⟩ := sc (k := 0) (by omega : 0 + 1 ≤ n); rw [call_at (f := c__law_same) rfl rfl]; simp [c__law_same, startE, List.replicate, frzR]
  | @str k x hx =>
    intro n s hn
    have e := eq_dat (Dat.str hx) (Dat.str hx) rfl
    obtain ⟨m, rfl, hm⟩ := sc (k := 0) (by omega : 0 + 1 ≤ n); rw [call_at (f := c__law_same) rfl rfl]; simp [c__law_same, startE, List.replicate, frzR, e]
  | tup hl _ ih => exact fun {n s} hn => rep (.inl rfl) hl (fun d hd {n s} h => ih d hd h) hn
  | lst hl _ ih => exact fun {n s} hn => rep (.inr rfl) hl (fun d hd {n s} h => ih d hd h) hn
end
end PV.K81

set_option maxRecDepth 100000
set_option maxHeartbeats 4000000
namespace PV
open PySem
@[simp] theorem slc_03 {a b c : D} : slcD (.tup [a, b, c]) none (some 3) = some (.tup [a, b, c]) := id rfl
theorem flatF_gen {α β : Type} {f : D → Sto → Out (List D)} {mk : α → D} {dec : β → D} {I : Sto → Prop} {P : β → Prop} : ∀ {xs : List α} {s : Sto}, I s → (∀ x ∈ xs, ∀ s, I s → ∃ v s', f (mk x) s = .ok [dec v] s' ∧ I s' ∧ P v) →
    ∃ (l : List β) (s' : Sto), flatF f (xs.map mk) s = .ok (l.map dec) s' ∧ I s' ∧ l.length = xs.length ∧ ∀ v ∈ l, P v
  | [], s, hI, _ => ⟨[], s, rfl, hI, rfl, fun v h => by cases h⟩
  | x :: xs, s, hI, h => by
    obtain ⟨v, s1, e1, I1, p1⟩ := h x List.mem_cons_self s hI
    obtain ⟨l, s2, e2, I2, hl, p2⟩ := flatF_gen (f := f) (mk := mk) (dec := dec) (P := P) (xs := xs) I1 fun y hy => h y (List.mem_cons_of_mem _ hy)
    refine ⟨v :: l, s2, ?_, I2, by simp [hl], fun w hw => ?_⟩
    · rw [List.map_cons, flatF_cons, e1, ok_bind, e2, ok_bind]; rfl
    · rcases List.mem_cons.mp hw with q | q
      · rw [q]; exact p1
      · exact p2 w q
theorem cp1_gen {α β : Type} {cf : Nat → List D → Sto → Out D} {gs : List D} {elt : Ex} {tg : Tg} {it : Src} {vs : List Nat} {env : Env} {s s1 : Sto} {mk : α → D} {dec : β → D} {I : Sto → Prop} {P : β → Prop} {xs : List α} (h1 : evI cf gs true it env s = .ok (xs.map mk) s1) (hI : I s1)
    (h2 : ∀ x ∈ xs, ∀ s, I s → ∃ env1 v s', bindT tg (mk x) (wipeE (noOwn env) vs) = some env1 ∧ ev cf gs false elt env1 s = .ok (dec v) s' ∧ I s' ∧ P v) (hz : xs.length ≤ LINE) :
    ∃ (l : List β) (s' : Sto), evF cf gs (.cp1 elt tg it .n vs) env s = .ok (l.map dec) s' ∧ I s' ∧ l.length = xs.length ∧ ∀ v ∈ l, P v := by
  obtain ⟨l, s', e, I', hl, p⟩ := flatF_gen (f := turn1 cf gs elt tg .n vs (noOwn env)) (mk := mk) (dec := dec) (I := I) (P := P) (xs := xs) hI fun x hx s hs => by
    obtain ⟨env1, v, s', e1, e2, i, p⟩ := h2 x hx s hs
    exact ⟨v, s', by simp [turn1, e1, e2], i, p⟩
  refine ⟨l, s', ?_, I', hl, p⟩
  rw [evF_cp1', h1, ok_bind, e, ok_bind, if_pos (by rw [List.length_map, hl]; exact hz)]
theorem ir_cons {lo hi : Int} (h : lo < hi) : ir lo hi = lo :: ir (lo + 1) hi := by
  unfold ir
  have e : (hi - lo).toNat = (hi - (lo + 1)).toNat + 1 := by omega
  rw [e, List.range_succ_eq_map, List.map_cons, List.map_map]
  congr 1
  · simp
  · refine List.map_congr_left fun i _ => ?_
    simp only [Function.comp, Nat.succ_eq_add_one]
    omega
theorem ir_nil {lo hi : Int} (h : hi ≤ lo) : ir lo hi = [] := by
  unfold ir
  have e : (hi - lo).toNat = 0 := by omega
  rw [e]; rfl
end PV
namespace PV.K81
open PySem PV
section
variable {n : Nat} {s : Sto} {W H : Nat} {f : Int → Int → Int} {nm : D} {sd sh rm x y z x' y' z' : Int}
theorem e_flat {Ls : List (List D)} (hn : 1 ≤ n) (h1 : Ls.length ≤ 100) (h2 : ∀ l ∈ Ls, l.length ≤ 100) : callF fs gs n 29 [.lst (Ls.map D.lst)] s = .ok (.lst Ls.flatten) s := by
  obtain ⟨m, rfl, hm⟩ := sc hn
  rw [call_at (f := c__law_flat) rfl rfl]
  obtain ⟨k', e1⟩ := forF_app (f := stepF (callF fs gs m) gs (.nm 2) (.c (.ext 1 (.var 2)) .nil)) (mk := D.lst) (E := fun acc (k : Option SV) => [some (.val (.lst (Ls.map D.lst))), some (.own acc), k]) (g := fun l => l) (s := s) (M := 10000) (c := 100) (xs := Ls)
    (fun l hl acc k ha => ⟨some (.val (.lst l)), by
      have := h2 l hl
      have hz : acc.length + l.length ≤ LINE := by show _ ≤ 16777216; omega
      simp [stepF, chg, hz]⟩) h2 [] none (by simp; omega)
  have e2 : ∀ env, env = [some (SV.val (.lst (Ls.map D.lst))), some (.own []), none] → exec (callF fs gs m) gs (.for (.nm 2) (.seq (.var 0)) (.c (.ext 1 (.var 2)) .nil)) env s = .ok (.nx [some (SV.val (.lst (Ls.map D.lst))), some (.own Ls.flatten), k']) s := by
    rintro env rfl
    rw [exec_for]
    have e3 : frzI [some (SV.val (.lst (Ls.map D.lst))), some (.own []), none] (.seq (.var 0)) = [some (SV.val (.lst (Ls.map D.lst))), some (.own []), none] := rfl
    rw [e3]
    have e4 : evI (callF fs gs m) gs false (.seq (.var 0)) [some (SV.val (.lst (Ls.map D.lst))), some (.own []), none] s = .ok (Ls.map D.lst) s := by simp [items?]
    rw [e4, ok_bind, e1]
    simp [List.flatMap_def]
  have e5 := e2 _ rfl
  simp [c__law_flat, startE, List.replicate, e5, frzR, frzAt]
end
end PV.K81

set_option maxRecDepth 100000
set_option maxHeartbeats 4000000
namespace PV.K81
open PySem PV
section
variable {n : Nat} {s : Sto} {W H : Nat} {f : Int → Int → Int} {nm : D} {sd sh rm x y z x' y' z' : Int}
def toolD (t : Str × Int × Int × Int) : D := .tup [.str t.1, .int t.2.1, .int t.2.2.1, .int t.2.2.2]
theorem block_of {rows : List (List Int)} (h1 : rows.length = H) (h2 : ∀ r ∈ rows, r.length = W) : D.tup (rows.map fun r => D.tup (r.map D.int)) = bD W H (fun a b => (rows.getD b.toNat []).getD a.toNat 0) := by
  unfold bD
  congr 1
  apply List.ext_getElem
  · simp [h1]
  · intro i g1 g2
    simp only [List.getElem_map, List.getElem_range]
    have hi : i < rows.length := by simpa using g1
    have hr := h2 rows[i] (List.getElem_mem hi)
    unfold rowD
    congr 1
    apply List.ext_getElem
    · simp [hr]
    · intro j k1 k2
      have hj : j < rows[i].length := by simpa using k1
      simp [List.getD, List.getElem?_eq_getElem hi, List.getElem?_eq_getElem hj]
end
end PV.K81

set_option maxRecDepth 100000
set_option maxHeartbeats 4000000
namespace PV.K81
open PySem PV
/-! ### what the strike says: plain mathematics -/
theorem mn_s (i j : Int) : (mn i j ≤ i ∧ mn i j ≤ j) ∧ (mn i j = i ∨ mn i j = j) := by unfold mn; split <;> omega
theorem mx_s (i j : Int) : (i ≤ mx i j ∧ j ≤ mx i j) ∧ (mx i j = i ∨ mx i j = j) := by unfold mx; split <;> omega
def mv (c c' j : Int) : Int := if c < c' then c + j else if c' < c then c - j else c
theorem mv_s (c c' j : Int) : (c < c' ∧ mv c c' j = c + j) ∨ (c' < c ∧ mv c c' j = c - j) ∨ (c = c' ∧ mv c c' j = c) := by unfold mv; split <;> (try split) <;> omega
section
variable {sd sh rm x y z x' y' z' : Int} {f : Int → Int → Int} {W H : Nat}
/-! ### the walk step by step -/
end
end PV.K81

set_option maxRecDepth 100000
set_option maxHeartbeats 4000000
namespace PV.K81
open PySem PV
section
variable {sd sh rm x y z x' y' z' : Int} {f : Int → Int → Int} {W H : Nat} {k : Bool}
def InS (sd x y a b : Int) : Prop := (x ≤ a ∧ a < x + sd) ∧ y ≤ b ∧ b < y + sd
instance {a b : Int} : Decidable (InS sd x y a b) := inferInstanceAs (Decidable ((_ ∧ _) ∧ _ ∧ _))
/-- exactly one coordinate moves -/
def One (x y z x' y' z' : Int) : Prop := (x ≠ x' ∧ y = y' ∧ z = z') ∨ (x = x' ∧ y ≠ y' ∧ z = z') ∨ (x = x' ∧ y = y' ∧ z ≠ z')
def Swp (sd x y X Y a b : Int) : Prop := (mn y Y ≤ b ∧ b ≤ mx y Y + sd - 1) ∧ mn x X ≤ a ∧ a ≤ mx x X + sd - 1
instance {X Y a b : Int} : Decidable (Swp sd x y X Y a b) := inferInstanceAs (Decidable ((_ ∧ _) ∧ _ ∧ _))
/-- where the tool stands, within the block -/
def Fit (sd : Int) (W H : Nat) (X Y : Int) : Prop := (0 ≤ X ∧ X + sd ≤ W) ∧ 0 ≤ Y ∧ Y + sd ≤ H
/-! ### upright -/
end
end PV.K81

set_option maxRecDepth 100000
set_option maxHeartbeats 1000000
namespace PV.K81
open PySem PV
section
variable {n : Nat} {s : Sto} {sd sh rm x y z x' y' z' : Int} {f : Int → Int → Int} {W H : Nat} {k : Bool}
theorem mn_l {i j : Int} (h : i ≤ j) : mn i j = i := by unfold mn; rw [if_neg (by omega)]
theorem mx_l {i j : Int} (h : j ≤ i) : mx i j = i := by unfold mx; rw [if_neg (by omega)]
theorem mv_lt {c c' j : Int} (h : c < c') : mv c c' j = c + j := if_pos h
theorem mv_gt {c c' j : Int} (h : c' < c) : mv c c' j = c - j := by unfold mv; rw [if_neg (by omega), if_pos h]
theorem mv_eq {c c' j : Int} (h : c = c') : mv c c' j = c := by unfold mv; rw [if_neg (by omega), if_neg (by omega)]
theorem absI_p {a : Int} (h : 0 ≤ a) : absI a = a := if_neg (by omega)
theorem absI_n {a : Int} (h : a < 0) : absI a = -a := if_pos h
theorem cut_in {a b : Int} (h : InS sd x y a b) : cutf sd x y z f a b = mn (f a b) z := if_pos ⟨h.2, h.1⟩
theorem cut_out {a b : Int} (h : ¬ InS sd x y a b) : cutf sd x y z f a b = f a b := if_neg fun q => h ⟨q.2, q.1⟩
theorem swp_0 {a b : Int} : Swp sd x y x y a b ↔ InS sd x y a b := by
  unfold Swp InS
  rw [mn_l (Int.le_refl x), mn_l (Int.le_refl y), mx_l (Int.le_refl x), mx_l (Int.le_refl y)]
  omega
theorem mv_0 {c c' : Int} : mv c c' 0 = c := by have := mv_s c c' 0; omega
theorem mv_end {c c' : Int} : mv c c' (absI (c' - c)) = c' := by
  have := mv_s c c' (absI (c' - c))
  unfold absI at *
  split at this <;> split <;> omega
end
end PV.K81

set_option maxRecDepth 100000
set_option maxHeartbeats 4000000
namespace PV.K81
open PySem PV
/-! ### moves, tools by their names -/
@[simp] theorem gs_hi : gs[0]? = some (.int 12) := id rfl
@[simp] theorem gs_tool : gs[2]? = some (.str "tool") := id rfl
abbrev Tool := Str × Int × Int × Int
abbrev P3 := Int × Int × Int
def p3D (p : P3) : D := ptD p.1 p.2.1 p.2.2
inductive Mv where
  | tool (x : Str) | way (k : Bool) (p : P3)
def mvD : Mv → D
  | .tool x => .tup [.str "tool", .str x]
  | .way k p => .tup [kindD k, p3D p]
def fit (W H : Nat) (sd : Int) (p : P3) : Prop := (0 ≤ p.1 ∧ p.1 ≤ W - sd) ∧ (0 ≤ p.2.1 ∧ p.2.1 ≤ H - sd) ∧ 0 ≤ p.2.2 ∧ p.2.2 ≤ 12
instance {W H : Nat} {sd : Int} {p : P3} : Decidable (fit W H sd p) := inferInstanceAs (Decidable ((_ ∧ _) ∧ (_ ∧ _) ∧ _ ∧ _))
section
variable {n : Nat} {s : Sto} {W H : Nat} {f : Int → Int → Int} {nm : D} {sd sh rm x y z x' y' z' : Int}
theorem e_isnum {i a b : Int} (hn : 1 ≤ n) : callF fs gs n 1 [.int i, .int a, .int b] s = .ok (.bl (decide (a ≤ i ∧ i ≤ b))) s := by
  obtain ⟨m, rfl, hm⟩ := sc hn
  rw [call_at (f := c_is_number) rfl rfl]
  by_cases h1 : a ≤ i <;> simp [c_is_number, startE, frzR, List.replicate, h1]
theorem e_place {p : P3} {sh rm : D} (hn : 2 ≤ n) : callF fs gs n 7 [.tup [.int W, .int H], .tup [nm, .int sd, sh, rm], p3D p] s = .ok (.bl (decide (fit W H sd p))) s := by
  obtain ⟨m, rfl, hm⟩ := sc hn
  rw [call_at (f := c_is_place) rfl rfl]
  have e := fun (i a b : Int) => e_isnum (n := m) (s := s) (i := i) (a := a) (b := b) hm
  unfold fit p3D
  by_cases h1 : 0 ≤ p.1 ∧ p.1 ≤ W - sd
  · by_cases h2 : 0 ≤ p.2.1 ∧ p.2.1 ≤ H - sd
    · simp [c_is_place, startE, frzR, List.replicate, ptD, e, borrows, isOwn, h1, h2]
    · simp [c_is_place, startE, frzR, List.replicate, ptD, e, borrows, isOwn, h1, h2]
  · simp [c_is_place, startE, frzR, List.replicate, ptD, e, borrows, isOwn, h1]
def oT : Option Tool → D
  | some t => toolD t
  | none => .non
def NmP (x : Str) : Prop := PyData.strOk x = true
theorem e_named {ts : List Tool} {x : Str} (hx : NmP x) (ht : ∀ t ∈ ts, NmP t.1) (hl : ts.length ≤ 100) (hn : 1 ≤ n) : callF fs gs n 6 [.tup (ts.map toolD), .str x] s = .ok (oT (ts.find? fun t => t.1 = x)) s := by
  obtain ⟨m, rfl, hm⟩ := sc hn
  rw [call_at (f := c_tool_named) rfl rfl]
  have e1 : ∀ env, env = [some (SV.val (.tup (ts.map toolD))), some (.val (.str x)), none, none] → evF (callF fs gs m) gs (.cp1 (.var 3) (.nm 3) (.seq (.var 0)) (.s (.cmp .eq (.idx (.var 3) (.int 0)) (.var 1))) [3]) env s = .ok ((ts.filter fun t => t.1 = x).map toolD) s := by
    rintro env rfl
    have hf : ts.flatMap (fun t => if t.1 = x then [toolD t] else []) = (ts.filter fun t => t.1 = x).map toolD := by
      clear ht hl
      induction ts with
      | nil => rfl
      | cons t ts ih => by_cases h : t.1 = x <;> simp [h, ih]
    rw [← hf]
    refine cp1_pure (xs := ts) (mk := toolD) (by simp [items?]) (fun t h => ?_) (by
      rw [hf, List.length_map]
      exact Nat.le_trans (List.length_filter_le _ _) (by show _ ≤ 16777216; omega))
    have e2 := eq_str (ht t h) hx
    by_cases h : t.1 = x
    · simp [turn1, wipeE, noOwn, toolD, e2, h]
      simp [h] at e2; simp [e2]
    · simp [turn1, wipeE, noOwn, toolD, e2, h]
  have e1 := e1 _ rfl
  have hff : (ts.find? fun t => t.1 = x) = (ts.filter fun t => t.1 = x).head? := by
    clear e1 ht hl
    induction ts with
    | nil => rfl
    | cons t ts ih => by_cases h : t.1 = x <;> simp [h, ih]
  rw [hff]
  generalize (ts.filter fun t => t.1 = x) = L at *
  cases L with
  | nil => simp [c_tool_named, startE, frzR, List.replicate, e1, oT] at e1 ⊢
  | cons t L => simp [c_tool_named, startE, frzR, List.replicate, e1, oT] at e1 ⊢
/-! ### what is allowed -/
theorem fit_home {W H : Nat} {sd : Int} : fit W H sd (0, 0, 12) ↔ sd ≤ W ∧ sd ≤ H := by
  unfold fit; simp only; omega
theorem kind_tool {k : Bool} : cmpD .eq (kindD k) (.str "tool") = some false := by cases k <;> decide +kernel
theorem tool_tool : cmpD .eq (.str "tool") (.str "tool") = some true := by decide +kernel
@[simp] theorem deref_p3 {p : P3} : deref s (p3D p) = p3D p := id rfl
@[simp] theorem deref_tool {t : Tool} : deref s (toolD t) = toolD t := id rfl
@[simp] theorem isNon_tool {t : Tool} : isNonD (toolD t) = false := id rfl
@[simp] theorem deref_oT {t : Option Tool} : deref s (oT t) = oT t := by cases t <;> rfl
end
end PV.K81

set_option maxRecDepth 100000
set_option maxHeartbeats 4000000
namespace PV.K81
open PySem PV
section
variable {n : Nat} {s : Sto} {sd sh rm x y z x' y' z' : Int} {f : Int → Int → Int} {W H : Nat} {k : Bool}
structure Setup (sd sh rm : Int) (W H : Nat) : Prop where
  sd : 1 ≤ sd ∧ sd ≤ 3
  sh : 1 ≤ sh ∧ sh ≤ 4
  rm : 0 ≤ rm ∧ rm ≤ 1
  W : 0 < W ∧ W ≤ 10
  H : 0 < H ∧ H ≤ 10
def steps (x y z x' y' z' : Int) : Int := absI (x' - x) + absI (y' - y) + absI (z' - z)
/-! ### strokes, one behind the other -/
theorem steps_pos (hO : One x y z x' y' z') : 0 < steps x y z x' y' z' := by
  unfold steps absI One at *
  split <;> split <;> split <;> omega
theorem mv_steps (hO : One x y z x' y' z') : mv x x' (steps x y z x' y' z') = x' ∧ mv y y' (steps x y z x' y' z') = y' ∧ mv z z' (steps x y z x' y' z') = z' := by
  have a := mv_s x x' (steps x y z x' y' z')
  have b := mv_s y y' (steps x y z x' y' z')
  have c := mv_s z z' (steps x y z x' y' z')
  unfold One at hO
  have e : steps x y z x' y' z' = absI (x' - x) + absI (y' - y) + absI (z' - z) := rfl
  have a1 : absI (x' - x) = x' - x ∨ absI (x' - x) = x - x' := by unfold absI; split <;> omega
  have a2 : x < x' → absI (x' - x) = x' - x := fun h => absI_p (by omega)
  have a3 : x' < x → absI (x' - x) = x - x' := fun h => by rw [absI_n (by omega)]; omega
  have b1 : absI (y' - y) = y' - y ∨ absI (y' - y) = y - y' := by unfold absI; split <;> omega
  have b2 : y < y' → absI (y' - y) = y' - y := fun h => absI_p (by omega)
  have b3 : y' < y → absI (y' - y) = y - y' := fun h => by rw [absI_n (by omega)]; omega
  have c1 : absI (z' - z) = z' - z ∨ absI (z' - z) = z - z' := by unfold absI; split <;> omega
  have c2 : z < z' → absI (z' - z) = z' - z := fun h => absI_p (by omega)
  have c3 : z' < z → absI (z' - z) = z - z' := fun h => by rw [absI_n (by omega)]; omega
  rcases hO with hO | hO | hO
  · rcases Int.lt_or_gt_of_ne hO.1 with h | h
    · have := a2 h; omega
    · have := a3 h; omega
  · rcases Int.lt_or_gt_of_ne hO.2.1 with h | h
    · have := b2 h; omega
    · have := b3 h; omega
  · rcases Int.lt_or_gt_of_ne hO.2.2 with h | h
    · have := c2 h; omega
    · have := c3 h; omega
theorem cut_le (a b : Int) : cutf sd x y z f a b ≤ f a b := by
  by_cases c : InS sd x y a b
  · rw [cut_in c]; exact (mn_s _ _).1.1
  · rw [cut_out c]; exact Int.le_refl _
end
end PV.K81

set_option maxRecDepth 100000
set_option maxHeartbeats 4000000
namespace PV
open PySem
/-- what enumerate gives -/
def enL : Int → List D → List D
  | _, [] => []
  | i, d :: ds => .tup [.int i, d] :: enL (i + 1) ds
theorem enL_eq : ∀ {ds : List D} {a : Nat}, (List.range' a ds.length).zipWith (fun (i : Nat) d => D.tup [.int i, d]) ds = enL a ds
  | [], a => rfl
  | d :: ds, a => by
    rw [List.length_cons, List.range'_succ, List.zipWith_cons_cons, enL_eq]
    rfl
theorem enum_tup {ds : List D} : enum? (.tup ds) = some (enL 0 ds) := by
  show some _ = _
  rw [List.range_eq_range', enL_eq]; rfl
end PV
namespace PV.K81
open PySem PV
section
variable {n : Nat} {s : Sto} {W H : Nat} {f : Int → Int → Int} {k : Bool} {t : Tool}
/-! ### the checker's ways -/
end
end PV.K81

set_option maxRecDepth 100000
set_option maxHeartbeats 4000000
namespace PV.K81
open PySem PV
section
variable {n : Nat} {s : Sto} {W H : Nat} {f : Int → Int → Int} {k : Bool} {t : Tool}
/-! ### a program's run -/
/-! ### checked -/
def hereD (tl : Option (Tool × Int)) (p : P3) : D := match tl with
  | none => .non
  | some _ => p3D p
theorem fit_Fit {sd : Int} {p : P3} (h : fit W H sd p) : Fit sd W H p.1 p.2.1 := by
  unfold fit at h; unfold Fit; omega
end
end PV.K81

set_option maxRecDepth 100000
set_option maxHeartbeats 4000000
namespace PV.K81
open PySem PV
section
variable {n : Nat} {s : Sto} {W H : Nat} {f : Int → Int → Int} {k : Bool} {t : Tool} {sd sh rm x y z w : Int}
/-! ### one unit step of the law's run -/
theorem gr_congr {L L' : List (Int × Int)} (h : ∀ p, p ∈ L ↔ p ∈ L') : gr f L = gr f L' := by
  have a : gr f L ≤ gr f L' := by
    have := (gr_le (f := f) (L := L') (z := gr f L')).mp (Int.le_refl _)
    exact gr_le.mpr ⟨this.1, fun p hp => this.2 p ((h p).mp hp)⟩
  have b : gr f L' ≤ gr f L := by
    have := (gr_le (f := f) (L := L) (z := gr f L)).mp (Int.le_refl _)
    exact gr_le.mpr ⟨this.1, fun p hp => this.2 p ((h p).mpr hp)⟩
  omega
theorem rng1_nat (hW : W ≤ 1000) : rng1? (.int W) = some ((List.range W).map fun (a : Nat) => D.int a) := by
  rw [rng1_ir (by omega)]
  unfold ir
  rw [List.map_map]
  simp [Function.comp_def]
theorem datk_p {p : Int × Int} : DatK 1 (pD p) := DatK.tup fun d hd => by
  have : d = .int p.1 ∨ d = .int p.2 := by simpa using hd
  rcases this with rfl | rfl <;> exact DatK.int
theorem in_win {a b : Int} {L : List (Int × Int)} : cmpD .inn (.tup [.int a, .int b]) (.lst (L.map pD)) = some (decide ((a, b) ∈ L)) := by
  have e := in_lst (x := pD (a, b)) (ds := L.map pD) (k := 1) (by omega) datk_p (fun d hd => by
    obtain ⟨p, _, rfl⟩ := List.mem_map.mp hd; exact datk_p)
  have e0 : cmpD .inn (.tup [.int a, .int b]) (.lst (L.map pD)) = inD (pD (a, b)) (.lst (L.map pD)) := id rfl
  rw [e0, e]
  congr 1
  have : pD (a, b) ∈ L.map pD ↔ (a, b) ∈ L := by
    rw [List.mem_map]
    constructor
    · rintro ⟨p, hp, e⟩
      have e1 : D.tup [.int p.1, .int p.2] = D.tup [.int a, .int b] := e
      simp only [D.tup.injEq, List.cons.injEq, D.int.injEq, and_true] at e1
      have : p = (a, b) := by rw [Prod.ext_iff]; exact e1
      rw [← this]; exact hp
    · exact fun h => ⟨(a, b), h, rfl⟩
  by_cases h : (a, b) ∈ L <;> simp [h, this]
@[simp] theorem p3_0 {p : P3} : idxD (p3D p) (.int 0) = some (.int p.1) := idx_tup (k := 0) rfl
@[simp] theorem p3_1 {p : P3} : idxD (p3D p) (.int 1) = some (.int p.2.1) := idx_tup (k := 1) rfl
@[simp] theorem p3_2 {p : P3} : idxD (p3D p) (.int 2) = some (.int p.2.2) := idx_tup (k := 2) rfl
@[simp] theorem tool_1 : idxD (toolD t) (.int 1) = some (.int t.2.1) := idx_tup (k := 1) rfl
@[simp] theorem tool_2 : idxD (toolD t) (.int 2) = some (.int t.2.2.1) := idx_tup (k := 2) rfl
@[simp] theorem tool_3 : idxD (toolD t) (.int 3) = some (.int t.2.2.2) := idx_tup (k := 3) rfl
def pk3 (ax : Int) (p : P3) : Int := if ax = 0 then p.1 else if ax = 1 then p.2.1 else p.2.2
def mv1 (ax : Int) (a q : P3) : P3 := if ax = 0 then (a.1 + (if a.1 < q.1 then 1 else -1), a.2.1, a.2.2) else if ax = 1 then (a.1, a.2.1 + (if a.2.1 < q.2.1 then 1 else -1), a.2.2) else (a.1, a.2.1, a.2.2 + (if a.2.2 < q.2.2 then 1 else -1))
/-- a step to b is in the way of something -/
def Vi (k : Bool) (t : Tool) (W H : Nat) (f : Int → Int → Int) (b : P3) (w : Int) : Prop :=
  (k = true ∧ ¬ gr f (benF t.2.1 b.1 b.2.1) ≤ b.2.2 + w) ∨ ¬ gr f (benF t.2.1 b.1 b.2.1 ++ abF t.2.1 t.2.2.2 b.1 b.2.1 W H) ≤ b.2.2 + w + t.2.2.1
instance {b : P3} : Decidable (Vi k t W H f b w) := inferInstanceAs (Decidable (_ ∨ _))
end
end PV.K81

set_option maxRecDepth 100000
set_option maxHeartbeats 4000000
namespace PV.K81
open PySem PV
section
variable {n : Nat} {s : Sto} {W H : Nat} {f : Int → Int → Int} {k : Bool} {t : Tool} {w : Int}
def virt (w : Int) (p : P3) : P3 := (p.1, p.2.1, p.2.2 + w)
theorem mv_add {c c' j w : Int} : mv (c + w) (c' + w) j = mv c c' j + w := by
  unfold mv
  by_cases h1 : c < c'
  · rw [if_pos h1, if_pos (by omega)]; omega
  · by_cases h2 : c' < c
    · rw [if_neg h1, if_pos h2, if_neg (by omega), if_pos (by omega)]; omega
    · rw [if_neg h1, if_neg h2, if_neg (by omega), if_neg (by omega)]
/-- the place after j steps of a stroke -/
def at3 (p q : P3) (j : Int) : P3 := (mv p.1 q.1 j, mv p.2.1 q.2.1 j, mv p.2.2 q.2.2 j)
/-- q, but only along one axis from p -/
def set3 (ax : Int) (p q : P3) : P3 := if ax = 0 then (q.1, p.2.1, p.2.2) else if ax = 1 then (p.1, q.2.1, p.2.2) else (p.1, p.2.1, q.2.2)
def len3 (p q : P3) : Int := steps p.1 p.2.1 p.2.2 q.1 q.2.1 q.2.2
theorem at_set {ax j : Int} {p q : P3} (hax : ax = 0 ∨ ax = 1 ∨ ax = 2) (hne : pk3 ax p ≠ pk3 ax q) (hj : 0 ≤ j ∧ j < len3 p (set3 ax p q)) : pk3 ax (at3 p (set3 ax p q) j) ≠ pk3 ax q ∧ mv1 ax (at3 p (set3 ax p q) j) q = at3 p (set3 ax p q) (j + 1) := by
  have e0 : ∀ c : Int, absI (c - c) = 0 := fun c => by rw [absI_p (by omega)]; omega
  unfold len3 steps at hj
  rcases hax with rfl | rfl | rfl
  · simp only [pk3, if_true] at hne
    simp only [set3, if_true] at hj ⊢
    simp only [e0] at hj
    simp only [pk3, at3, mv1, if_true, mv_eq rfl]
    rcases Int.lt_or_gt_of_ne hne with h | h
    · rw [absI_p (by omega)] at hj
      rw [mv_lt h, mv_lt h, if_pos (by omega)]
      exact ⟨by omega, by rw [Prod.mk.injEq]; exact ⟨by omega, rfl⟩⟩
    · rw [absI_n (by omega)] at hj
      rw [mv_gt h, mv_gt h, if_neg (by omega)]
      exact ⟨by omega, by rw [Prod.mk.injEq]; exact ⟨by omega, rfl⟩⟩
  · have q1 : ¬ ((1 : Int) = 0) := by decide
    simp only [pk3, if_true, if_neg q1] at hne
    simp only [set3, if_true, if_neg q1] at hj ⊢
    simp only [e0] at hj
    simp only [pk3, at3, mv1, if_true, if_neg q1, mv_eq rfl]
    rcases Int.lt_or_gt_of_ne hne with h | h
    · rw [absI_p (by omega)] at hj
      rw [mv_lt h, mv_lt h, if_pos (by omega)]
      exact ⟨by omega, by rw [Prod.mk.injEq, Prod.mk.injEq]; exact ⟨rfl, by omega, rfl⟩⟩
    · rw [absI_n (by omega)] at hj
      rw [mv_gt h, mv_gt h, if_neg (by omega)]
      exact ⟨by omega, by rw [Prod.mk.injEq, Prod.mk.injEq]; exact ⟨rfl, by omega, rfl⟩⟩
  · have q1 : ¬ ((2 : Int) = 0) := by decide
    have q2 : ¬ ((2 : Int) = 1) := by decide
    simp only [pk3, if_neg q1, if_neg q2] at hne
    simp only [set3, if_neg q1, if_neg q2] at hj ⊢
    simp only [e0] at hj
    simp only [pk3, at3, mv1, if_neg q1, if_neg q2, mv_eq rfl]
    rcases Int.lt_or_gt_of_ne hne with h | h
    · rw [absI_p (by omega)] at hj
      rw [mv_lt h, mv_lt h, if_pos (by omega)]
      exact ⟨by omega, by rw [Prod.mk.injEq, Prod.mk.injEq]; exact ⟨rfl, rfl, by omega⟩⟩
    · rw [absI_n (by omega)] at hj
      rw [mv_gt h, mv_gt h, if_neg (by omega)]
      exact ⟨by omega, by rw [Prod.mk.injEq, Prod.mk.injEq]; exact ⟨rfl, rfl, by omega⟩⟩
def OneP (w : Int) (p q : P3) : Prop := One p.1 p.2.1 (p.2.2 + w) q.1 q.2.1 (q.2.2 + w)
theorem len_virt {p q : P3} : steps p.1 p.2.1 (p.2.2 + w) q.1 q.2.1 (q.2.2 + w) = len3 p q := by
  unfold len3 steps
  have : q.2.2 + w - (p.2.2 + w) = q.2.2 - p.2.2 := by omega
  rw [this]
end
end PV.K81

set_option maxRecDepth 100000
set_option maxHeartbeats 4000000
namespace PV.K81
open PySem PV
section
variable {n : Nat} {s : Sto} {W H : Nat} {f : Int → Int → Int} {k : Bool} {t : Tool} {w : Int}
theorem set_eq {ax : Int} {p q : P3} (hax : ax = 0 ∨ ax = 1 ∨ ax = 2) (h : pk3 ax p = pk3 ax q) : set3 ax p q = p := by
  have q1 : ¬ ((1 : Int) = 0) := by decide
  have q2 : ¬ ((2 : Int) = 0) := by decide
  have q3 : ¬ ((2 : Int) = 1) := by decide
  rcases hax with rfl | rfl | rfl
  · simp only [pk3, if_true] at h; simp only [set3, if_true, ← h]
  · simp only [pk3, if_true, if_neg q1] at h; simp only [set3, if_true, if_neg q1, ← h]
  · simp only [pk3, if_neg q2, if_neg q3] at h; simp only [set3, if_neg q2, if_neg q3, ← h]
theorem set_one {ax : Int} {p q : P3} (hax : ax = 0 ∨ ax = 1 ∨ ax = 2) (h : pk3 ax p ≠ pk3 ax q) : OneP w p (set3 ax p q) ∧ pk3 ax (set3 ax p q) = pk3 ax q := by
  have q1 : ¬ ((1 : Int) = 0) := by decide
  have q2 : ¬ ((2 : Int) = 0) := by decide
  have q3 : ¬ ((2 : Int) = 1) := by decide
  unfold OneP One
  rcases hax with rfl | rfl | rfl
  · simp only [pk3, if_true] at h; simp only [set3, pk3, if_true]; exact ⟨.inl ⟨h, trivial, trivial⟩, trivial⟩
  · simp only [pk3, if_true, if_neg q1] at h; simp only [set3, pk3, if_true, if_neg q1]; exact ⟨.inr (.inl ⟨trivial, h, trivial⟩), trivial⟩
  · simp only [pk3, if_neg q2, if_neg q3] at h; simp only [set3, pk3, if_neg q2, if_neg q3]; exact ⟨.inr (.inr ⟨trivial, trivial, by omega⟩), trivial⟩
end
end PV.K81

set_option maxRecDepth 100000
set_option maxHeartbeats 4000000
namespace PV.K81
open PySem PV
section
variable {n : Nat} {s : Sto} {W H : Nat} {f : Int → Int → Int} {k : Bool} {t : Tool} {w : Int} {tw : List (Tool × Int)}
/-! ### the law's run of a whole program -/
@[simp] theorem tool_0 {t : Tool} : idxD (toolD t) (.int 0) = some (.str t.1) := idx_tup (k := 0) rfl
end
end PV.K81

set_option maxRecDepth 100000
set_option maxHeartbeats 4000000
namespace PV.K81
open PySem PV
section
variable {n : Nat} {s : Sto} {W H : Nat} {f : Int → Int → Int} {k : Bool} {t : Tool} {w : Int}
/-! ### unit steps -/
def segU (p q : P3) : List P3 := (ir 1 (len3 p q + 1)).map (at3 p q)
def usL (p q : P3) : List P3 := segU p (set3 0 p q) ++ (segU (set3 0 p q) (set3 1 (set3 0 p q) q) ++ segU (set3 1 (set3 0 p q) q) q)
def EU (p q : P3) (acc : List P3) (a : P3) (o : Option SV) : Env := [some (.val (p3D p)), some (.val (p3D q)), some (.own (acc.map p3D)), some (.own [.int a.1, .int a.2.1, .int a.2.2]), o]
def cUs : Ex := .cmp .ne (.idx (.var 3) (.var 4)) (.idx (.var 1) (.var 4))
def bUs : Sms := (.c (.augV 3 (.var 4) .add (.ite (.cmp .lt (.idx (.var 3) (.var 4)) (.idx (.var 1) (.var 4))) (.int 1) (.neg (.int 1)))) (.c (.app 2 (.blt .tup (.c (.var 3) .nil))) .nil))
theorem us_cond {p q a : P3} {ax : Int} {acc : List P3} (hax : ax = 0 ∨ ax = 1 ∨ ax = 2) : ((ev (callF fs gs n) gs true cUs (EU p q acc a (some (.val (.int ax)))) s).bind fun x s => truthS s x) = .ok (decide (pk3 ax a ≠ pk3 ax q)) s := by
  rcases hax with rfl | rfl | rfl <;> simp [cUs, EU, pk3]
theorem us_step {p q a : P3} {ax : Int} {acc : List P3} (hax : ax = 0 ∨ ax = 1 ∨ ax = 2) (hl : acc.length ≤ 1000) : execs (callF fs gs n) gs bUs (EU p q acc a (some (.val (.int ax)))) s = .ok (.nx (EU p q (acc ++ [mv1 ax a q]) (mv1 ax a q) (some (.val (.int ax))))) s := by
  have hz : acc.length < LINE := by show _ < 16777216; omega
  rcases hax with rfl | rfl | rfl
  · by_cases c : a.1 < q.1 <;> simp [bUs, EU, exec_augV, augVx, augVk, L2.atI, L2.ixN, augI, chg, c, mv1, hz, p3D, ptD]
  · by_cases c : a.2.1 < q.2.1 <;> simp [bUs, EU, exec_augV, augVx, augVk, L2.atI, L2.ixN, augI, chg, c, mv1, hz, p3D, ptD]
  · by_cases c : a.2.2 < q.2.2 <;> simp [bUs, EU, exec_augV, augVx, augVk, L2.atI, L2.ixN, augI, chg, c, mv1, hz, p3D, ptD]
theorem len_nn {p q : P3} : 0 ≤ len3 p q := by unfold len3 steps absI; split <;> split <;> split <;> omega
theorem at_end {ax : Int} {p q : P3} (hax : ax = 0 ∨ ax = 1 ∨ ax = 2) (hne : pk3 ax p ≠ pk3 ax q) : at3 p (set3 ax p q) (len3 p (set3 ax p q)) = set3 ax p q ∧ pk3 ax (set3 ax p q) = pk3 ax q := by
  obtain ⟨hO, hend⟩ := set_one (w := 0) hax hne
  obtain ⟨m1, m2, m3⟩ := mv_steps hO
  have hl3 : steps p.1 p.2.1 (p.2.2 + 0) (set3 ax p q).1 (set3 ax p q).2.1 ((set3 ax p q).2.2 + 0) = len3 p (set3 ax p q) := len_virt (w := 0) (p := p) (q := set3 ax p q)
  rw [hl3] at m1 m2 m3
  rw [mv_add] at m3
  refine ⟨?_, hend⟩
  unfold at3
  rw [Prod.ext_iff, Prod.ext_iff]
  exact ⟨m1, m2, by show mv _ _ _ = _; omega⟩
theorem us_while {p0 p q : P3} {ax : Int} (hax : ax = 0 ∨ ax = 1 ∨ ax = 2) (hne : pk3 ax p ≠ pk3 ax q) : ∀ (t : Nat) (j : Int) (acc : List P3), 0 ≤ j → j + t = len3 p (set3 ax p q) → acc.length + t ≤ 1000 →
    whileN (fun env s => (ev (callF fs gs n) gs true cUs env s).bind fun x s => truthS s x) (fun env s => execs (callF fs gs n) gs bUs env s) (t + 1) (EU p0 q acc (at3 p (set3 ax p q) j) (some (.val (.int ax)))) s
      = .ok (.nx (EU p0 q (acc ++ (ir (j + 1) (len3 p (set3 ax p q) + 1)).map (at3 p (set3 ax p q))) (set3 ax p q) (some (.val (.int ax))))) s
  | 0, j, acc, hj, he, hl => by
    have e : j = len3 p (set3 ax p q) := by omega
    obtain ⟨e1, e2⟩ := at_end hax hne
    rw [e, e1, ir_nil (Int.le_refl _)]
    refine (whileN_stop (s1 := s) ?_).trans ?_
    · rw [us_cond hax]; simp [e2]
    · simp
  | t + 1, j, acc, hj, he, hl => by
    obtain ⟨h1, h2⟩ := at_set hax hne ⟨hj, by omega⟩
    refine (whileN_go (s1 := s) (s2 := s) (env' := EU p0 q (acc ++ [at3 p (set3 ax p q) (j + 1)]) (at3 p (set3 ax p q) (j + 1)) (some (.val (.int ax)))) ?_ ?_).trans ?_
    · rw [us_cond hax]; simp [h1]
    · rw [us_step hax (by omega), h2]
    · rw [us_while hax hne t (j + 1) _ (by omega) (by omega) (by rw [List.length_append]; simp; omega), ir_cons (lo := j + 1) (hi := len3 p (set3 ax p q) + 1) (by omega)]
      simp
theorem us_axis {p0 p q : P3} {ax : Int} {acc : List P3} (hax : ax = 0 ∨ ax = 1 ∨ ax = 2) (hl : (acc.length : Int) + len3 p (set3 ax p q) ≤ 1000) :
    exec (callF fs gs n) gs (.whl cUs bUs) (EU p0 q acc p (some (.val (.int ax)))) s = .ok (.nx (EU p0 q (acc ++ segU p (set3 ax p q)) (set3 ax p q) (some (.val (.int ax))))) s := by
  rw [exec_whl]
  by_cases hne : pk3 ax p = pk3 ax q
  · rw [set_eq hax hne]
    refine whileF_eq (n := 1) ((whileN_stop (s1 := s) ?_).trans ?_)
    · rw [us_cond hax]; simp [hne]
    · have e0 : ∀ c : Int, absI (c - c) = 0 := fun c => by rw [absI_p (by omega)]; omega
      have : len3 p p = 0 := by unfold len3 steps; simp only [e0]; omega
      unfold segU
      rw [this, ir_nil (by omega)]
      simp
  · have a0 : at3 p (set3 ax p q) 0 = p := by unfold at3; rw [mv_0, mv_0, mv_0]
    have := len_nn (p := p) (q := set3 ax p q)
    have e := us_while (n := n) (s := s) (p0 := p0) hax hne (len3 p (set3 ax p q)).toNat 0 acc (Int.le_refl _) (by omega) (by omega)
    rw [a0] at e
    exact whileF_eq e
theorem len_le {p q : P3} {ax : Int} (hax : ax = 0 ∨ ax = 1 ∨ ax = 2) (h1 : absI (q.1 - p.1) ≤ 100) (h2 : absI (q.2.1 - p.2.1) ≤ 100) (h3 : absI (q.2.2 - p.2.2) ≤ 100) : len3 p (set3 ax p q) ≤ 100 := by
  have e0 : ∀ c : Int, absI (c - c) = 0 := fun c => by rw [absI_p (by omega)]; omega
  have q1 : ¬ ((1 : Int) = 0) := by decide
  have q2 : ¬ ((2 : Int) = 0) := by decide
  have q3 : ¬ ((2 : Int) = 1) := by decide
  unfold len3 steps
  rcases hax with rfl | rfl | rfl
  · simp only [set3, if_true, e0]; omega
  · simp only [set3, if_neg q1, if_true, e0]; omega
  · simp only [set3, if_neg q2, if_neg q3, e0]; omega
theorem segU_len {p q : P3} : (segU p q).length = (len3 p q).toNat := by
  unfold segU
  rw [List.length_map, ir_len]; omega
theorem e_unit {p q : P3} (h1 : absI (q.1 - p.1) ≤ 100) (h2 : absI (q.2.1 - p.2.1) ≤ 100) (h3 : absI (q.2.2 - p.2.2) ≤ 100) (hn : 1 ≤ n) : callF fs gs n 14 [p3D p, p3D q] s = .ok (.lst ((usL p q).map p3D)) s := by
  obtain ⟨m, rfl, hm⟩ := sc hn
  rw [call_at (f := c_unit_steps) rfl rfl]
  have eb : c_unit_steps.body = .c (.par [2, 3] (.o (.dsp .nil) (.o (.lof (.var 0)) .nil))) (.c (.for (.nm 4) (.seq (.tup (.c (.int 0) (.c (.int 1) (.c (.int 2) .nil))))) (.c (.whl cUs bUs) .nil)) (.c (.ret (.var 2)) .nil)) := rfl
  have es : startE c_unit_steps.N.length [p3D p, p3D q] = [some (SV.val (p3D p)), some (.val (p3D q)), none, none, none] := rfl
  have e2 : exec (callF fs gs m) gs (.par [2, 3] (.o (.dsp .nil) (.o (.lof (.var 0)) .nil))) [some (SV.val (p3D p)), some (.val (p3D q)), none, none, none] s = .ok (.nx (EU p q [] p none)) s := by simp [EU, p3D, ptD]
  have e3 : evI (callF fs gs m) gs false (.seq (.tup (.c (.int 0) (.c (.int 1) (.c (.int 2) .nil))))) (EU p q [] p none) s = .ok [.int 0, .int 1, .int 2] s := by simp [items?]
  have e4 : frzI (EU p q [] p none) (.seq (.tup (.c (.int 0) (.c (.int 1) (.c (.int 2) .nil))))) = EU p q [] p none := rfl
  have bod : ∀ (ax : Int) (acc : List P3) (a : P3) (o : Option SV), stepF (callF fs gs m) gs (.nm 4) (.c (.whl cUs bUs) .nil) (.int ax) (EU p q acc a o) s = nextF (exec (callF fs gs m) gs (.whl cUs bUs) (EU p q acc a (some (.val (.int ax)))) s) (execs (callF fs gs m) gs .nil) := by
    intro ax acc a o
    have eb : bindT (.nm 4) (.int ax) (EU p q acc a o) = some (EU p q acc a (some (.val (.int ax)))) := rfl
    unfold stepF
    rw [eb]
    simp only [execs_c]
  have l0 := len_le (p := p) (q := q) (ax := 0) (.inl rfl) h1 h2 h3
  have l1 := len_le (p := set3 0 p q) (q := q) (ax := 1) (.inr (.inl rfl)) (by show absI (q.1 - q.1) ≤ 100; rw [absI_p (by omega)]; omega) h2 h3
  have l2 := len_le (p := set3 1 (set3 0 p q) q) (q := q) (ax := 2) (.inr (.inr rfl)) (by show absI (q.1 - q.1) ≤ 100; rw [absI_p (by omega)]; omega) (by show absI (q.2.1 - q.2.1) ≤ 100; rw [absI_p (by omega)]; omega) h3
  have n0 := len_nn (p := p) (q := set3 0 p q)
  have n1 := len_nn (p := set3 0 p q) (q := set3 1 (set3 0 p q) q)
  have n2 := len_nn (p := set3 1 (set3 0 p q) q) (q := set3 2 (set3 1 (set3 0 p q) q) q)
  have qe : set3 2 (set3 1 (set3 0 p q) q) q = q := rfl
  rw [eb, es, execs_c, e2, nextF_nx, execs_c, exec_for, e4, e3, ok_bind]
  rw [forF_cons, bod, us_axis (.inl rfl) (by simp; omega), nextF_nx, execs_nil, nextL_nx]
  rw [forF_cons, bod, us_axis (.inr (.inl rfl)) (by simp [segU_len]; omega), nextF_nx, execs_nil, nextL_nx]
  rw [forF_cons, bod, us_axis (.inr (.inr rfl)) (by simp [segU_len]; omega), nextF_nx, execs_nil, nextL_nx, forF_nil, nextF_nx]
  rw [qe]
  have eu : usL p q = [] ++ segU p (set3 0 p q) ++ segU (set3 0 p q) (set3 1 (set3 0 p q) q) ++ segU (set3 1 (set3 0 p q) q) q := by unfold usL; simp
  rw [← eu]
  simp [EU, frzR, frzAt]
end
end PV.K81

set_option maxRecDepth 100000
set_option maxHeartbeats 4000000
namespace PV.K81
open PySem PV
section
variable {n : Nat} {s : Sto} {W H : Nat} {f : Int → Int → Int} {k : Bool} {t : Tool} {w : Int} {ts : List Tool}
/-! ### the mill -/
def mf (W H : Nat) (ts : List Tool) (f : Int → Int → Int) (tl : Option Tool) (p : D) (c : Int) : List (Str × D) :=
  [("_block", bD W H f), ("_tools", .tup (ts.map toolD)), ("_size", .tup [.int W, .int H]), ("_tool", oT tl), ("_place", p), ("_step", .int c)]
section
variable {tl : Option Tool} {p : D} {c : Int}
@[simp] theorem mf_block : (mf W H ts f tl p c).lookup ("_block" : Str) = some (bD W H f) := id rfl
@[simp] theorem mf_tools : (mf W H ts f tl p c).lookup ("_tools" : Str) = some (.tup (ts.map toolD)) := id rfl
@[simp] theorem mf_size : (mf W H ts f tl p c).lookup ("_size" : Str) = some (.tup [.int W, .int H]) := id rfl
@[simp] theorem mf_tool : (mf W H ts f tl p c).lookup ("_tool" : Str) = some (oT tl) := id rfl
@[simp] theorem mf_place : (mf W H ts f tl p c).lookup ("_place" : Str) = some p := id rfl
@[simp] theorem mf_step : (mf W H ts f tl p c).lookup ("_step" : Str) = some (.int c) := id rfl
theorem mf_no : (mf W H ts f tl p c).lookup ("block" : Str) = none ∧ (mf W H ts f tl p c).lookup ("take" : Str) = none ∧ (mf W H ts f tl p c).lookup ("step" : Str) = none ∧ (mf W H ts f tl p c).lookup ("do" : Str) = none := ⟨rfl, rfl, rfl, rfl⟩
theorem mf_put1 {g : Int → Int → Int} : putDs (mf W H ts f tl p c) ((["_block"] : List Str).zip [bD W H g]) = mf W H ts g tl p c := rfl
theorem mf_put2 {p' : D} {c' : Int} : putDs (mf W H ts f tl p c) ((["_place", "_step"] : List Str).zip [p', .int c']) = mf W H ts f tl p' c' := rfl
theorem mf_put3 {p' : D} {t : Tool} : putDs (mf W H ts f tl p c) ((["_tool", "_place"] : List Str).zip [toolD t, p']) = mf W H ts f (some t) p' c := rfl
theorem mf_len : (mf W H ts f tl p c).length = 6 := rfl
end
def MS (i : Nat) (s : Sto) (W H : Nat) (ts : List Tool) (f : Int → Int → Int) (tl : Option Tool) (p : D) (c : Int) : Sto := s.set i (.obj "Mill" (mf W H ts f tl p c))
theorem MS_get {i : Nat} {tl : Option Tool} {p : D} {c : Int} (h : i < s.length) : (MS i s W H ts f tl p c)[i]? = some (.obj "Mill" (mf W H ts f tl p c)) := List.getElem?_set_self h
theorem MS_set {i : Nat} {tl : Option Tool} {p : D} {c : Int} {o : List (Str × D)} : (MS i s W H ts f tl p c).set i (.obj "Mill" o) = s.set i (.obj "Mill" o) := by unfold MS; rw [List.set_set]
variable {i : Nat} (hi : i < s.length)
include hi in
theorem e_step {b : P3} {a : D} {c : Int} (S : Setup t.2.1 t.2.2.1 t.2.2.2 W H) (hf : fit W H t.2.1 b) (hv : ¬ Vi k t W H f b 0) (hn : 4 ≤ n) :
    callF fs gs n 53 [.loc i, kindD k, p3D b] (MS i s W H ts f (some t) a c) = .ok .non (MS i s W H ts (cutf t.2.1 b.1 b.2.1 (b.2.2 + 0) f) (some t) (p3D b) (c + 1)) := by
  obtain ⟨m, rfl, hm⟩ := sc hn
  rw [call_at (f := c_Mill_step) rfl rfl]
  have hF := fit_Fit hf
  unfold Fit at hF
  have z0 : b.2.2 + 0 = b.2.2 := by omega
  rw [z0]
  have e1 := fun s => e_place (n := m) (s := s) (W := W) (H := H) (nm := .str t.1) (sd := t.2.1) (sh := .int t.2.2.1) (rm := .int t.2.2.2) (p := b) (by omega)
  have e1 : ∀ s, callF fs gs m 7 [.tup [.int W, .int H], toolD t, p3D b] s = .ok (.bl true) s := fun s => by rw [← decide_eq_true hf]; exact e1 s
  have e2 : ∀ s, callF fs gs m 11 [bD W H f, toolD t, p3D b] s = .ok (.bl (decide (gr f (benF t.2.1 b.1 b.2.1) ≤ b.2.2))) s := fun s => e_free (nm := .str t.1) (sh := t.2.2.1) (rm := t.2.2.2) (x := b.1) (y := b.2.1) (z := b.2.2) ⟨by have := S.sd; omega, S.sd.2⟩ hF.1 hF.2 S.W S.H (by omega)
  have e3 : ∀ s, callF fs gs m 12 [bD W H f, toolD t, p3D b] s = .ok (.bl (decide (gr f (benF t.2.1 b.1 b.2.1 ++ abF t.2.1 t.2.2.2 b.1 b.2.1 W H) ≤ b.2.2 + t.2.2.1))) s := fun s => e_shank (nm := .str t.1) (sh := t.2.2.1) (rm := t.2.2.2) (x := b.1) (y := b.2.1) (z := b.2.2) ⟨by have := S.sd; omega, S.sd.2⟩ S.rm hF.1 hF.2 S.W S.H (by omega)
  have e4 : ∀ s, callF fs gs m 13 [bD W H f, toolD t, p3D b] s = .ok (bD W H (cutf t.2.1 b.1 b.2.1 b.2.2 f)) s := fun s => e_cut (nm := .str t.1) (sh := t.2.2.1) (rm := t.2.2.2) S.W.2 S.H.2 (by omega)
  unfold Vi at hv
  rw [z0] at hv
  have hv1 : ¬ (k = true ∧ ¬ gr f (benF t.2.1 b.1 b.2.1) ≤ b.2.2) := fun q => hv (.inl q)
  have hv2 : gr f (benF t.2.1 b.1 b.2.1 ++ abF t.2.1 t.2.2.2 b.1 b.2.1 W H) ≤ b.2.2 + t.2.2.1 := Classical.not_not.mp fun q => hv (.inr q)
  generalize gr f (benF t.2.1 b.1 b.2.1) = r1 at *
  generalize gr f (benF t.2.1 b.1 b.2.1 ++ abF t.2.1 t.2.2.2 b.1 b.2.1 W H) = r2 at *
  have g := MS_get (W := W) (H := H) (ts := ts) (f := f) (tl := some t) (p := a) (c := c) hi
  have es : startE c_Mill_step.N.length [.loc i, kindD k, p3D b] = [some (SV.val (.loc i)), some (.val (kindD k)), some (.val (p3D b)), none] := rfl
  have eb : c_Mill_step.body = .c (.ite (.bop false (.c (.cmp .is (.fld (.var 0) "_tool") .non) (.c (.not (.call 7 (.c (.fld (.var 0) "_size") (.c (.fld (.var 0) "_tool") (.c (.var 2) .nil))))) .nil))) (.c .never .nil) .nil) (.c (.asg (.nm 3) (.bop true (.c (.cmp .eq (.var 1) (.gl 1)) (.c (.not (.call 11 (.c (.fld (.var 0) "_block") (.c (.fld (.var 0) "_tool") (.c (.var 2) .nil))))) .nil)))) (.c (.ite (.bop false (.c (.var 3) (.c (.not (.call 12 (.c (.fld (.var 0) "_block") (.c (.fld (.var 0) "_tool") (.c (.var 2) .nil))))) .nil))) (.c (.raise "Strike" (.fld (.var 0) "_step")) .nil) .nil) (.c (.setF 0 "Mill" ["_block"] (.c (.call 13 (.c (.fld (.var 0) "_block") (.c (.fld (.var 0) "_tool") (.c (.var 2) .nil)))) .nil)) (.c (.setF 0 "Mill" ["_place", "_step"] (.c (.var 2) (.c (.bin .add (.fld (.var 0) "_step") (.int 1)) .nil))) .nil)))) := rfl
  have s1 : ∀ rest, execs (callF fs gs m) gs (.c (.ite (.bop false (.c (.cmp .is (.fld (.var 0) "_tool") .non) (.c (.not (.call 7 (.c (.fld (.var 0) "_size") (.c (.fld (.var 0) "_tool") (.c (.var 2) .nil))))) .nil))) (.c .never .nil) .nil) rest) [some (SV.val (.loc i)), some (.val (kindD k)), some (.val (p3D b)), none] (MS i s W H ts f (some t) a c) = execs (callF fs gs m) gs rest [some (SV.val (.loc i)), some (.val (kindD k)), some (.val (p3D b)), none] (MS i s W H ts f (some t) a c) := fun rest => by
    simp [g, oT, e1, borrows, isOwn]
  have s2 : ∀ rest, execs (callF fs gs m) gs (.c (.asg (.nm 3) (.bop true (.c (.cmp .eq (.var 1) (.gl 1)) (.c (.not (.call 11 (.c (.fld (.var 0) "_block") (.c (.fld (.var 0) "_tool") (.c (.var 2) .nil))))) .nil)))) rest) [some (SV.val (.loc i)), some (.val (kindD k)), some (.val (p3D b)), none] (MS i s W H ts f (some t) a c) = execs (callF fs gs m) gs rest [some (SV.val (.loc i)), some (.val (kindD k)), some (.val (p3D b)), some (.val (.bl false))] (MS i s W H ts f (some t) a c) := fun rest => by
    cases k with
    | true =>
      have : r1 ≤ b.2.2 := Classical.not_not.mp fun q => hv1 ⟨rfl, q⟩
      simp [g, oT, e2, kind_eq, borrows, isOwn, this]
    | false => simp [g, oT, kind_eq, borrows, isOwn]
  have s3 : ∀ rest, execs (callF fs gs m) gs (.c (.ite (.bop false (.c (.var 3) (.c (.not (.call 12 (.c (.fld (.var 0) "_block") (.c (.fld (.var 0) "_tool") (.c (.var 2) .nil))))) .nil))) (.c (.raise "Strike" (.fld (.var 0) "_step")) .nil) .nil) rest) [some (SV.val (.loc i)), some (.val (kindD k)), some (.val (p3D b)), some (.val (.bl false))] (MS i s W H ts f (some t) a c) = execs (callF fs gs m) gs rest [some (SV.val (.loc i)), some (.val (kindD k)), some (.val (p3D b)), some (.val (.bl false))] (MS i s W H ts f (some t) a c) := fun rest => by
    simp [g, oT, e3, borrows, isOwn, hv2]
  have s4 : exec (callF fs gs m) gs (.setF 0 "Mill" ["_block"] (.c (.call 13 (.c (.fld (.var 0) "_block") (.c (.fld (.var 0) "_tool") (.c (.var 2) .nil)))) .nil)) [some (SV.val (.loc i)), some (.val (kindD k)), some (.val (p3D b)), some (.val (.bl false))] (MS i s W H ts f (some t) a c) = .ok (.nx [some (SV.val (.loc i)), some (.val (kindD k)), some (.val (p3D b)), some (.val (.bl false))]) (MS i s W H ts (cutf t.2.1 b.1 b.2.1 b.2.2 f) (some t) a c) := by
    rw [exec_setF (n := i) rfl]
    have el : evL (callF fs gs m) gs false (.c (.call 13 (.c (.fld (.var 0) "_block") (.c (.fld (.var 0) "_tool") (.c (.var 2) .nil)))) .nil) [some (SV.val (.loc i)), some (.val (kindD k)), some (.val (p3D b)), some (.val (.bl false))] (MS i s W H ts f (some t) a c) = .ok [bD W H (cutf t.2.1 b.1 b.2.1 b.2.2 f)] (MS i s W H ts f (some t) a c) := by
      simp [g, oT, e4, borrows, isOwn]
    rw [el, ok_bind, g, setFO_obj rfl (by rw [mf_len]; decide), mf_put1, MS_set]
    rfl
  have g2 := MS_get (W := W) (H := H) (ts := ts) (f := cutf t.2.1 b.1 b.2.1 b.2.2 f) (tl := some t) (p := a) (c := c) hi
  have s5 : exec (callF fs gs m) gs (.setF 0 "Mill" ["_place", "_step"] (.c (.var 2) (.c (.bin .add (.fld (.var 0) "_step") (.int 1)) .nil))) [some (SV.val (.loc i)), some (.val (kindD k)), some (.val (p3D b)), some (.val (.bl false))] (MS i s W H ts (cutf t.2.1 b.1 b.2.1 b.2.2 f) (some t) a c) = .ok (.nx [some (SV.val (.loc i)), some (.val (kindD k)), some (.val (p3D b)), some (.val (.bl false))]) (MS i s W H ts (cutf t.2.1 b.1 b.2.1 b.2.2 f) (some t) (p3D b) (c + 1)) := by
    rw [exec_setF (n := i) rfl]
    have el : evL (callF fs gs m) gs false (.c (.var 2) (.c (.bin .add (.fld (.var 0) "_step") (.int 1)) .nil)) [some (SV.val (.loc i)), some (.val (kindD k)), some (.val (p3D b)), some (.val (.bl false))] (MS i s W H ts (cutf t.2.1 b.1 b.2.1 b.2.2 f) (some t) a c) = .ok [p3D b, .int (c + 1)] (MS i s W H ts (cutf t.2.1 b.1 b.2.1 b.2.2 f) (some t) a c) := by
      simp [g2]
    rw [el, ok_bind, g2, setFO_obj rfl (by rw [mf_len]; decide), mf_put2, MS_set]
    rfl
  rw [eb, es, s1, s2, s3, execs_c, s4, nextF_nx, execs_c, s5, nextF_nx, execs_nil]
  rfl
include hi in
theorem e_stepX {b : P3} {a : D} {c : Int} (S : Setup t.2.1 t.2.2.1 t.2.2.2 W H) (hf : fit W H t.2.1 b) (hv : Vi k t W H f b 0) (hc : 0 ≤ c ∧ c ≤ 1000000000000) (hn : 4 ≤ n) :
    callF fs gs n 53 [.loc i, kindD k, p3D b] (MS i s W H ts f (some t) a c) = .err ∧ callF fs gs n (RX + 53) [.loc i, kindD k, p3D b] (MS i s W H ts f (some t) a c) = .ok (.tup [.str "Strike", .int c]) (MS i s W H ts f (some t) a c) := by
  obtain ⟨m, rfl, hm⟩ := sc hn
  rw [call_at (f := c_Mill_step) rfl rfl, callX_at (f := c_Mill_step) rfl (by decide) rfl]
  have hF := fit_Fit hf
  unfold Fit at hF
  have z0 : b.2.2 + 0 = b.2.2 := by omega
  have e1 := fun s => e_place (n := m) (s := s) (W := W) (H := H) (nm := .str t.1) (sd := t.2.1) (sh := .int t.2.2.1) (rm := .int t.2.2.2) (p := b) (by omega)
  have e1 : ∀ s, callF fs gs m 7 [.tup [.int W, .int H], toolD t, p3D b] s = .ok (.bl true) s := fun s => by rw [← decide_eq_true hf]; exact e1 s
  have e2 : ∀ s, callF fs gs m 11 [bD W H f, toolD t, p3D b] s = .ok (.bl (decide (gr f (benF t.2.1 b.1 b.2.1) ≤ b.2.2))) s := fun s => e_free (nm := .str t.1) (sh := t.2.2.1) (rm := t.2.2.2) (x := b.1) (y := b.2.1) (z := b.2.2) ⟨by have := S.sd; omega, S.sd.2⟩ hF.1 hF.2 S.W S.H (by omega)
  have e3 : ∀ s, callF fs gs m 12 [bD W H f, toolD t, p3D b] s = .ok (.bl (decide (gr f (benF t.2.1 b.1 b.2.1 ++ abF t.2.1 t.2.2.2 b.1 b.2.1 W H) ≤ b.2.2 + t.2.2.1))) s := fun s => e_shank (nm := .str t.1) (sh := t.2.2.1) (rm := t.2.2.2) (x := b.1) (y := b.2.1) (z := b.2.2) ⟨by have := S.sd; omega, S.sd.2⟩ S.rm hF.1 hF.2 S.W S.H (by omega)
  have e4 : ∀ s, callF fs gs m 13 [bD W H f, toolD t, p3D b] s = .ok (bD W H (cutf t.2.1 b.1 b.2.1 b.2.2 f)) s := fun s => e_cut (nm := .str t.1) (sh := t.2.2.1) (rm := t.2.2.2) S.W.2 S.H.2 (by omega)
  unfold Vi at hv
  rw [z0] at hv
  generalize gr f (benF t.2.1 b.1 b.2.1) = r1 at *
  generalize gr f (benF t.2.1 b.1 b.2.1 ++ abF t.2.1 t.2.2.2 b.1 b.2.1 W H) = r2 at *
  have g := MS_get (W := W) (H := H) (ts := ts) (f := f) (tl := some t) (p := a) (c := c) hi
  have es : startE c_Mill_step.N.length [.loc i, kindD k, p3D b] = [some (SV.val (.loc i)), some (.val (kindD k)), some (.val (p3D b)), none] := rfl
  have eb : c_Mill_step.body = .c (.ite (.bop false (.c (.cmp .is (.fld (.var 0) "_tool") .non) (.c (.not (.call 7 (.c (.fld (.var 0) "_size") (.c (.fld (.var 0) "_tool") (.c (.var 2) .nil))))) .nil))) (.c .never .nil) .nil) (.c (.asg (.nm 3) (.bop true (.c (.cmp .eq (.var 1) (.gl 1)) (.c (.not (.call 11 (.c (.fld (.var 0) "_block") (.c (.fld (.var 0) "_tool") (.c (.var 2) .nil))))) .nil)))) (.c (.ite (.bop false (.c (.var 3) (.c (.not (.call 12 (.c (.fld (.var 0) "_block") (.c (.fld (.var 0) "_tool") (.c (.var 2) .nil))))) .nil))) (.c (.raise "Strike" (.fld (.var 0) "_step")) .nil) .nil) (.c (.setF 0 "Mill" ["_block"] (.c (.call 13 (.c (.fld (.var 0) "_block") (.c (.fld (.var 0) "_tool") (.c (.var 2) .nil)))) .nil)) (.c (.setF 0 "Mill" ["_place", "_step"] (.c (.var 2) (.c (.bin .add (.fld (.var 0) "_step") (.int 1)) .nil))) .nil)))) := rfl
  have s1 : ∀ rest, execs (callF fs gs m) gs (.c (.ite (.bop false (.c (.cmp .is (.fld (.var 0) "_tool") .non) (.c (.not (.call 7 (.c (.fld (.var 0) "_size") (.c (.fld (.var 0) "_tool") (.c (.var 2) .nil))))) .nil))) (.c .never .nil) .nil) rest) [some (SV.val (.loc i)), some (.val (kindD k)), some (.val (p3D b)), none] (MS i s W H ts f (some t) a c) = execs (callF fs gs m) gs rest [some (SV.val (.loc i)), some (.val (kindD k)), some (.val (p3D b)), none] (MS i s W H ts f (some t) a c) := fun rest => by
    simp [g, oT, e1, borrows, isOwn]
  have s2 : ∀ rest, execs (callF fs gs m) gs (.c (.asg (.nm 3) (.bop true (.c (.cmp .eq (.var 1) (.gl 1)) (.c (.not (.call 11 (.c (.fld (.var 0) "_block") (.c (.fld (.var 0) "_tool") (.c (.var 2) .nil))))) .nil)))) rest) [some (SV.val (.loc i)), some (.val (kindD k)), some (.val (p3D b)), none] (MS i s W H ts f (some t) a c) = execs (callF fs gs m) gs rest [some (SV.val (.loc i)), some (.val (kindD k)), some (.val (p3D b)), some (.val (.bl (decide (k = true ∧ ¬ r1 ≤ b.2.2))))] (MS i s W H ts f (some t) a c) := fun rest => by
    cases k with
    | true =>
      by_cases c1 : r1 ≤ b.2.2 <;> simp [g, oT, e2, kind_eq, borrows, isOwn, c1] <;> omega
    | false => simp [g, oT, kind_eq, borrows, isOwn]
  have s3 : ∀ rest, execs (callF fs gs m) gs (.c (.ite (.bop false (.c (.var 3) (.c (.not (.call 12 (.c (.fld (.var 0) "_block") (.c (.fld (.var 0) "_tool") (.c (.var 2) .nil))))) .nil))) (.c (.raise "Strike" (.fld (.var 0) "_step")) .nil) .nil) rest) [some (SV.val (.loc i)), some (.val (kindD k)), some (.val (p3D b)), some (.val (.bl (decide (k = true ∧ ¬ r1 ≤ b.2.2))))] (MS i s W H ts f (some t) a c) = .ok (.rs "Strike" (.int c)) (MS i s W H ts f (some t) a c) := fun rest => by
    generalize hK : decide (k = true ∧ ¬ r1 ≤ b.2.2) = B
    cases B with
    | true => simp [g, oT, raiseD_int hc]
    | false =>
      have c2 : ¬ r2 ≤ b.2.2 + t.2.2.1 := hv.resolve_left (of_decide_eq_false hK)
      simp [g, oT, e3, borrows, isOwn, c2, raiseD_int hc]
  rw [eb, es, s1, s2, s3]
  exact ⟨rfl, rfl⟩
include hi in
theorem e_take {x : Str} {a : D} {c : Int} {tl : Option Tool} (hx : NmP x) (ht : ∀ t ∈ ts, NmP t.1) (hl : ts.length ≤ 100) (hfd : (ts.find? fun t => t.1 = x) = some t) (hf : t.2.1 ≤ W ∧ t.2.1 ≤ H) (hn : 3 ≤ n) :
    callF fs gs n 52 [.loc i, .str x] (MS i s W H ts f tl a c) = .ok .non (MS i s W H ts f (some t) (p3D (0, 0, 12)) c) := by
  obtain ⟨m, rfl, hm⟩ := sc hn
  rw [call_at (f := c_Mill_take) rfl rfl]
  have e0 := fun s => e_named (n := m) (s := s) hx ht hl (by omega)
  rw [hfd] at e0
  have e1 := fun s => e_place (n := m) (s := s) (W := W) (H := H) (nm := .str t.1) (sd := t.2.1) (sh := .int t.2.2.1) (rm := .int t.2.2.2) (p := (0, 0, 12)) (by omega)
  have e1 : ∀ s, callF fs gs m 7 [.tup [.int W, .int H], toolD t, .tup [.int 0, .int 0, .int 12]] s = .ok (.bl true) s := fun s => by rw [← decide_eq_true (fit_home.mpr hf)]; exact e1 s
  have g := MS_get (W := W) (H := H) (ts := ts) (f := f) (tl := tl) (p := a) (c := c) hi
  have es : startE c_Mill_take.N.length [.loc i, .str x] = [some (SV.val (.loc i)), some (.val (.str x)), none, none] := rfl
  have eb : c_Mill_take.body = .c (.asg (.nm 2) (.call 6 (.c (.fld (.var 0) "_tools") (.c (.var 1) .nil)))) (.c (.asg (.nm 3) (.tup (.c (.int 0) (.c (.int 0) (.c (.gl 0) .nil))))) (.c (.ite (.bop false (.c (.cmp .is (.var 2) .non) (.c (.not (.call 7 (.c (.fld (.var 0) "_size") (.c (.var 2) (.c (.var 3) .nil))))) .nil))) (.c .never .nil) .nil) (.c (.setF 0 "Mill" ["_tool", "_place"] (.c (.var 2) (.c (.var 3) .nil))) .nil))) := rfl
  have s1 : ∀ rest, execs (callF fs gs m) gs (.c (.asg (.nm 2) (.call 6 (.c (.fld (.var 0) "_tools") (.c (.var 1) .nil)))) (.c (.asg (.nm 3) (.tup (.c (.int 0) (.c (.int 0) (.c (.gl 0) .nil))))) (.c (.ite (.bop false (.c (.cmp .is (.var 2) .non) (.c (.not (.call 7 (.c (.fld (.var 0) "_size") (.c (.var 2) (.c (.var 3) .nil))))) .nil))) (.c .never .nil) .nil) rest))) [some (SV.val (.loc i)), some (.val (.str x)), none, none] (MS i s W H ts f tl a c) = execs (callF fs gs m) gs rest [some (SV.val (.loc i)), some (.val (.str x)), some (.val (toolD t)), some (.val (p3D (0, 0, 12)))] (MS i s W H ts f tl a c) := fun rest => by
    simp [g, oT, e0, e1, borrows, isOwn]
    rfl
  have s5 : exec (callF fs gs m) gs (.setF 0 "Mill" ["_tool", "_place"] (.c (.var 2) (.c (.var 3) .nil))) [some (SV.val (.loc i)), some (.val (.str x)), some (.val (toolD t)), some (.val (p3D (0, 0, 12)))] (MS i s W H ts f tl a c) = .ok (.nx [some (SV.val (.loc i)), some (.val (.str x)), some (.val (toolD t)), some (.val (p3D (0, 0, 12)))]) (MS i s W H ts f (some t) (p3D (0, 0, 12)) c) := by
    rw [exec_setF (n := i) rfl]
    have el : evL (callF fs gs m) gs false (.c (.var 2) (.c (.var 3) .nil)) [some (SV.val (.loc i)), some (.val (.str x)), some (.val (toolD t)), some (.val (p3D (0, 0, 12)))] (MS i s W H ts f tl a c) = .ok [toolD t, p3D (0, 0, 12)] (MS i s W H ts f tl a c) := by
      simp
    rw [el, ok_bind, g, setFO_obj rfl (by rw [mf_len]; decide), mf_put3, MS_set]
    rfl
  rw [eb, es, s1, execs_c, s5, nextF_nx, execs_nil]
  rfl
end
end PV.K81

set_option maxRecDepth 100000
set_option maxHeartbeats 4000000
namespace PV.K81
open PySem PV
section
variable {n : Nat} {s : Sto} {W H : Nat} {f : Int → Int → Int} {k : Bool} {t : Tool} {w : Int} {ts : List Tool}
/-- places gone to, one by one, with nothing in the way -/
def Go (k : Bool) (t : Tool) (W H : Nat) : List P3 → (Int → Int → Int) → P3 → (Int → Int → Int) → P3 → Prop
  | [], f, p, g, q => g = f ∧ q = p
  | b :: L, f, _, g, q => ¬ Vi k t W H f b 0 ∧ fit W H t.2.1 b ∧ Go k t W H L (cutf t.2.1 b.1 b.2.1 (b.2.2 + 0) f) b g q
theorem Go.app : ∀ {A B : List P3} {f g h : Int → Int → Int} {p q r : P3}, Go k t W H A f p g q → Go k t W H B g q h r → Go k t W H (A ++ B) f p h r
  | [], B, f, g, h, p, q, r, a, b => by obtain ⟨rfl, rfl⟩ := a; exact b
  | x :: A, B, f, g, h, p, q, r, a, b => ⟨a.1, a.2.1, Go.app a.2.2 b⟩
theorem virt_0 {p : P3} : virt 0 p = p := by unfold virt; rw [Int.add_zero]
/-! ### the mill's moves -/
variable {i : Nat} (hi : i < s.length)
def bDo : Sms := (.c (.exM "Mill" (.var 0) "step" 53 (.c (.idx (.var 1) (.int 0)) (.c (.var 2) .nil))) .nil)
open Classical in
/-- places gone to, one by one, while nothing is in the way -/
noncomputable def runP (k : Bool) (t : Tool) (W H : Nat) : List P3 → (Int → Int → Int) → Option (Int → Int → Int)
  | [], f => some f
  | b :: L, f => if Vi k t W H f b 0 then none else runP k t W H L (cutf t.2.1 b.1 b.2.1 (b.2.2 + 0) f)
include hi in
theorem do_loop {q0 : P3} (S : Setup t.2.1 t.2.2.1 t.2.2.2 W H) (hn : 4 ≤ n) : ∀ {L : List P3} {f : Int → Int → Int} {p : P3} {c : Int} {o : Option SV}, (∀ b ∈ L, fit W H t.2.1 b) → 0 ≤ c → c + L.length ≤ 1000000 →
    (∀ g, runP k t W H L f = some g → ∃ o', forF (stepF (callF fs gs n) gs (.nm 2) bDo) (L.map p3D) [some (.val (.loc i)), some (.val (mvD (.way k q0))), o] (MS i s W H ts f (some t) (p3D p) c) = .ok (.nx [some (.val (.loc i)), some (.val (mvD (.way k q0))), o']) (MS i s W H ts g (some t) (p3D (L.getLastD p)) (c + L.length))) ∧
    (runP k t W H L f = none → ∃ (d : D) (o' : SO), forF (stepF (callF fs gs n) gs (.nm 2) bDo) (L.map p3D) [some (.val (.loc i)), some (.val (mvD (.way k q0))), o] (MS i s W H ts f (some t) (p3D p) c) = .ok (.rs "Strike" d) (s.set i o'))
  | [], f, p, c, o, hf, h0, hc => ⟨fun g h => by
      have h : f = g := Option.some.inj h
      subst h
      refine ⟨o, ?_⟩
      have e : c + (([] : List P3).length : Int) = c := by simp
      rw [e]
      rfl, fun h => by cases h⟩
  | b :: L, f, p, c, o, hf, h0, hc => by
    rw [List.length_cons] at hc
    have hfb := hf b List.mem_cons_self
    have g0 := MS_get (W := W) (H := H) (ts := ts) (f := f) (tl := some t) (p := p3D p) (c := c) hi
    by_cases hv : Vi k t W H f b 0
    · have er : runP k t W H (b :: L) f = none := if_pos hv
      rw [er]
      refine ⟨fun g h => by (cases h), fun _ => ?_⟩
      obtain ⟨e1, e2⟩ := e_stepX (n := n) (s := s) (ts := ts) (k := k) (a := p3D p) (c := c) hi S hfb hv (by omega) hn
      have e3 : stepF (callF fs gs n) gs (.nm 2) bDo (p3D b) [some (SV.val (.loc i)), some (.val (mvD (.way k q0))), o] (MS i s W H ts f (some t) (p3D p) c) = .ok (.rs "Strike" (.int c)) (MS i s W H ts f (some t) (p3D p) c) := by
        unfold stepF
        simp [bDo, g0, exMo_obj mf_no.2.2.1, mvD, e1, e2]
      exact ⟨.int c, _, by rw [List.map_cons, forF_cons, e3, nextL_rs]; rfl⟩
    · have er : runP k t W H (b :: L) f = runP k t W H L (cutf t.2.1 b.1 b.2.1 (b.2.2 + 0) f) := if_neg hv
      rw [er]
      have e1 := e_step (n := n) (s := s) (ts := ts) (k := k) (a := p3D p) (c := c) hi S hfb hv hn
      have e2 : stepF (callF fs gs n) gs (.nm 2) bDo (p3D b) [some (SV.val (.loc i)), some (.val (mvD (.way k q0))), o] (MS i s W H ts f (some t) (p3D p) c) = .ok (.nx [some (.val (.loc i)), some (.val (mvD (.way k q0))), some (.val (p3D b))]) (MS i s W H ts (cutf t.2.1 b.1 b.2.1 (b.2.2 + 0) f) (some t) (p3D b) (c + 1)) := by
        unfold stepF
        simp [bDo, g0, exMo_obj mf_no.2.2.1, mvD, e1]
      obtain ⟨i1, i2⟩ := do_loop (L := L) (q0 := q0) S hn (f := cutf t.2.1 b.1 b.2.1 (b.2.2 + 0) f) (p := b) (c := c + 1) (o := some (.val (p3D b))) (fun x hx => hf x (List.mem_cons_of_mem _ hx)) (by omega) (by omega)
      refine ⟨fun g h => ?_, fun h => ?_⟩
      · obtain ⟨o', e⟩ := i1 g h
        refine ⟨o', ?_⟩
        rw [List.map_cons, forF_cons, e2, nextL_nx, e]
        have e3 : c + 1 + (L.length : Int) = c + ((b :: L).length : Int) := by rw [List.length_cons]; omega
        have e4 : L.getLastD b = (b :: L).getLastD p := by cases L <;> rfl
        rw [e3, e4]
      · obtain ⟨d, o', e⟩ := i2 h
        exact ⟨d, o', by rw [List.map_cons, forF_cons, e2, nextL_nx, e]⟩
include hi in
theorem e_do_way {p q : P3} {c : Int} (S : Setup t.2.1 t.2.2.1 t.2.2.2 W H) (hp : fit W H t.2.1 p) (hq : fit W H t.2.1 q) (hu : ∀ b ∈ usL p q, fit W H t.2.1 b) (h0 : 0 ≤ c) (hc : c + (usL p q).length ≤ 1000000) (hl : (usL p q).getLastD p = q) (hn : 5 ≤ n) :
    (∀ g, runP k t W H (usL p q) f = some g → callF fs gs n 54 [.loc i, mvD (.way k q)] (MS i s W H ts f (some t) (p3D p) c) = .ok .non (MS i s W H ts g (some t) (p3D q) (c + (usL p q).length))) ∧
    (runP k t W H (usL p q) f = none → ∃ (d : D) (o' : SO), callF fs gs n 54 [.loc i, mvD (.way k q)] (MS i s W H ts f (some t) (p3D p) c) = .err ∧ callF fs gs n (RX + 54) [.loc i, mvD (.way k q)] (MS i s W H ts f (some t) (p3D p) c) = .ok (.tup [.str "Strike", d]) (s.set i o')) := by
  obtain ⟨m, rfl, hm⟩ := sc hn
  rw [call_at (f := c_Mill_do) rfl rfl, callX_at (f := c_Mill_do) rfl (by decide) rfl]
  obtain ⟨l1, l2⟩ := do_loop (n := m) (k := k) (t := t) (W := W) (H := H) (f := f) (ts := ts) (q0 := q) hi S hm (p := p) (c := c) (o := none) hu h0 hc
  have g0 := MS_get (W := W) (H := H) (ts := ts) (f := f) (tl := some t) (p := p3D p) (c := c) hi
  have e1 := fun s => e_place (n := m) (s := s) (W := W) (H := H) (nm := .str t.1) (sd := t.2.1) (sh := .int t.2.2.1) (rm := .int t.2.2.2) (p := q) (by omega)
  have e1 : ∀ s, callF fs gs m 7 [.tup [.int W, .int H], toolD t, p3D q] s = .ok (.bl true) s := fun s => by rw [← decide_eq_true hq]; exact e1 s
  have b : ∀ a b : Int, (0 ≤ a ∧ a ≤ 12) → (0 ≤ b ∧ b ≤ 12) → absI (a - b) ≤ 100 := fun a b _ _ => by unfold absI; split <;> omega
  have hp' := hp
  have hq' := hq
  unfold fit at hp' hq'
  have hW := S.W
  have hH := S.H
  have hsd := S.sd
  have e2 := fun s => e_unit (n := m) (s := s) (p := p) (q := q) (b _ _ (by omega) (by omega)) (b _ _ (by omega) (by omega)) (b _ _ (by omega) (by omega)) (by omega)
  have eb : c_Mill_do.body = .c (.ite (.cmp .eq (.idx (.var 1) (.int 0)) (.gl 2)) (.c (.ex (.mth "Mill" (.var 0) "take" 52 (.c (.idx (.var 1) (.int 1)) .nil))) (.c .retN .nil)) .nil) (.c (.ite (.bop false (.c (.cmp .is (.fld (.var 0) "_tool") .non) (.c (.not (.call 7 (.c (.fld (.var 0) "_size") (.c (.fld (.var 0) "_tool") (.c (.idx (.var 1) (.int 1)) .nil))))) .nil))) (.c .never .nil) .nil) (.c (.for (.nm 2) (.seq (.call 14 (.c (.fld (.var 0) "_place") (.c (.idx (.var 1) (.int 1)) .nil)))) bDo) .nil)) := rfl
  have es : startE c_Mill_do.N.length [.loc i, mvD (.way k q)] = [some (SV.val (.loc i)), some (.val (mvD (.way k q))), none] := rfl
  have s1 : ∀ rest, execs (callF fs gs m) gs (.c (.ite (.cmp .eq (.idx (.var 1) (.int 0)) (.gl 2)) (.c (.ex (.mth "Mill" (.var 0) "take" 52 (.c (.idx (.var 1) (.int 1)) .nil))) (.c .retN .nil)) .nil) (.c (.ite (.bop false (.c (.cmp .is (.fld (.var 0) "_tool") .non) (.c (.not (.call 7 (.c (.fld (.var 0) "_size") (.c (.fld (.var 0) "_tool") (.c (.idx (.var 1) (.int 1)) .nil))))) .nil))) (.c .never .nil) .nil) rest)) [some (SV.val (.loc i)), some (.val (mvD (.way k q))), none] (MS i s W H ts f (some t) (p3D p) c) = execs (callF fs gs m) gs rest [some (SV.val (.loc i)), some (.val (mvD (.way k q))), none] (MS i s W H ts f (some t) (p3D p) c) := fun rest => by
    simp [g0, oT, e1, mvD, kind_tool, borrows, isOwn]
  have e3 : evI (callF fs gs m) gs false (.seq (.call 14 (.c (.fld (.var 0) "_place") (.c (.idx (.var 1) (.int 1)) .nil)))) [some (SV.val (.loc i)), some (.val (mvD (.way k q))), none] (MS i s W H ts f (some t) (p3D p) c) = .ok ((usL p q).map p3D) (MS i s W H ts f (some t) (p3D p) c) := by
    simp [g0, mvD, e2, borrows, isOwn, items?]
  have e4 : frzI [some (SV.val (.loc i)), some (.val (mvD (.way k q))), none] (.seq (.call 14 (.c (.fld (.var 0) "_place") (.c (.idx (.var 1) (.int 1)) .nil)))) = [some (SV.val (.loc i)), some (.val (mvD (.way k q))), none] := rfl
  rw [eb, es, s1, execs_c, exec_for, e4, e3, ok_bind]
  refine ⟨fun g h => ?_, fun h => ?_⟩
  · obtain ⟨o', e⟩ := l1 g h
    rw [e, nextF_nx, execs_nil, hl]
    rfl
  · obtain ⟨d, o', e⟩ := l2 h
    rw [e, nextF_rs]
    exact ⟨d, o', rfl, rfl⟩
include hi in
theorem e_do_tool {x : Str} {a : D} {c : Int} {tl : Option Tool} (hx : NmP x) (ht : ∀ t ∈ ts, NmP t.1) (hl : ts.length ≤ 100) (hfd : (ts.find? fun t => t.1 = x) = some t) (hf : t.2.1 ≤ W ∧ t.2.1 ≤ H) (hn : 4 ≤ n) :
    callF fs gs n 54 [.loc i, mvD (.tool x)] (MS i s W H ts f tl a c) = .ok .non (MS i s W H ts f (some t) (p3D (0, 0, 12)) c) := by
  obtain ⟨m, rfl, hm⟩ := sc hn
  rw [call_at (f := c_Mill_do) rfl rfl]
  have e1 := e_take (n := m) (s := s) (f := f) (a := a) (c := c) (tl := tl) hi hx ht hl hfd hf hm
  have g0 := MS_get (W := W) (H := H) (ts := ts) (f := f) (tl := tl) (p := a) (c := c) hi
  simp [c_Mill_do, startE, List.replicate, g0, mthO_obj mf_no.2.1, mvD, tool_tool, e1]
end
end PV.K81

set_option maxRecDepth 100000
set_option maxHeartbeats 4000000
namespace PV.K81
open PySem PV
section
variable {n : Nat} {s : Sto} {W H : Nat} {f : Int → Int → Int} {k : Bool} {t : Tool} {w : Int} {ts : List Tool} {tw : List (Tool × Int)}
/-! ### the mill's whole program -/
variable {i : Nat} (hi : i < s.length)
end
section
variable {n : Nat} {s : Sto} {W H : Nat} {f : Int → Int → Int} {ts : List Tool}
end
end PV.K81

set_option maxRecDepth 100000
set_option maxHeartbeats 4000000
namespace PV.K81
open PySem PV
section
variable {W H : Nat} {f g : Int → Int → Int} {k : Bool} {t : Tool} {w : Int} {tw : List (Tool × Int)} {sd sh rm x y z x' y' z' : Int}
/-! ### lower blocks: plain mathematics -/
def LeF (g f : Int → Int → Int) : Prop := ∀ a b, g a b ≤ f a b
theorem mn_mono {a b c : Int} (h : a ≤ b) : mn a c ≤ mn b c := by
  have := mn_s a c; have := mn_s b c; omega
theorem gr_mono (h : LeF g f) {L : List (Int × Int)} : gr g L ≤ gr f L := by
  have := (gr_le (f := f) (L := L) (z := gr f L)).mp (Int.le_refl _)
  exact gr_le.mpr ⟨this.1, fun p hp => Int.le_trans (h _ _) (this.2 p hp)⟩
end
end PV.K81

set_option maxRecDepth 100000
set_option maxHeartbeats 4000000
namespace PV
open PySem
theorem all_truth : ∀ {L : List D}, (∀ d ∈ L, d = .bl true) → bltD .all [.lst L] = some (.bl true) := by
  intro L h
  have e : L = L.map fun _ => D.bl true := by
    conv => lhs; rw [← List.map_id L]
    exact List.map_congr_left fun d hd => h d hd
  rw [e]
  exact all_true
end PV
namespace PV.K81
open PySem PV
section
variable {n : Nat} {s : Sto} {W H : Nat} {f g : Int → Int → Int} {ts : List Tool}
theorem zipR {α β γ : Type} {h : α → β} {u : α → γ} {φ : β → γ → D} : ∀ {l : List α}, (l.map h).zipWith φ (l.map u) = l.map fun a => φ (h a) (u a)
  | [] => rfl
  | a :: l => by simp
theorem zip_bD : zip? (bD W H g) (bD W H f) = some ((List.range H).map fun (b : Nat) => D.tup [rowD W g b, rowD W f b]) := by
  show some (((List.range H).map (rowD W g)).zipWith (fun a b => D.tup [a, b]) ((List.range H).map (rowD W f))) = _
  rw [zipR]
theorem zip_row {b : Nat} : zip? (rowD W g b) (rowD W f b) = some ((List.range W).map fun (a : Nat) => D.tup [.int (g a b), .int (f a b)]) := by
  show some (((List.range W).map fun (a : Nat) => D.int (g a b)).zipWith (fun a b => D.tup [a, b]) ((List.range W).map fun (a : Nat) => D.int (f a b))) = _
  rw [zipR]
theorem items_bD : items? (bD W H f) = some ((List.range H).map (rowD W f)) := rfl
theorem items_row {b : Nat} : items? (rowD W f b) = some ((List.range W).map fun (a : Nat) => D.int (f a b)) := rfl
@[simp] theorem isi_bD {t : Ty} : isiD (bD W H f) t = some (t == .tup) := id rfl
@[simp] theorem isi_row {b : Nat} {t : Ty} : isiD (rowD W f b) t = some (t == .tup) := id rfl
@[simp] theorem isi_toolD {t : Tool} {ty : Ty} : isiD (toolD t) ty = some (ty == .tup) := id rfl
/-! ### the tools are tools -/
/-! ### what checked tells, compared -/
theorem dat_row {b : Nat} : DatK 1 (rowD W f b) := DatK.tup fun d hd => by
  obtain ⟨a, _, rfl⟩ := List.mem_map.mp hd; exact DatK.int
theorem dat_bD : DatK 2 (bD W H f) := DatK.tup fun d hd => by
  obtain ⟨a, _, rfl⟩ := List.mem_map.mp hd; exact dat_row
theorem sim_row {b : Nat} (hW : W ≤ 10) : Sim 1 (rowD W f b) := Sim.tup (by simp; omega) fun d hd => by
  obtain ⟨a, _, rfl⟩ := List.mem_map.mp hd; exact Sim.int
theorem sim_bD (hW : W ≤ 10) (hH : H ≤ 10) : Sim 2 (bD W H f) := Sim.tup (by simp; omega) fun d hd => by
  obtain ⟨a, _, rfl⟩ := List.mem_map.mp hd; exact sim_row hW
end
end PV.K81

set_option maxRecDepth 100000
set_option maxHeartbeats 4000000
namespace PV
open PySem
/-- draws, one value for each turn, with what is known of each -/
theorem flatF_rel {α β : Type} {f : D → Sto → Out (List D)} {mk : α → D} {dec : β → D} {I : Sto → Prop} {R : α → β → Prop} : ∀ {xs : List α} {s : Sto}, I s → (∀ x ∈ xs, ∀ s, I s → ∃ v s', f (mk x) s = .ok [dec v] s' ∧ I s' ∧ R x v) →
    ∃ (l : List β) (s' : Sto), flatF f (xs.map mk) s = .ok (l.map dec) s' ∧ I s' ∧ l.length = xs.length ∧ ∀ (i : Nat) x v, xs[i]? = some x → l[i]? = some v → R x v
  | [], s, hI, _ => ⟨[], s, rfl, hI, rfl, fun i x v h => by simp at h⟩
  | x :: xs, s, hI, h => by
    obtain ⟨v, s1, e1, I1, p1⟩ := h x List.mem_cons_self s hI
    obtain ⟨l, s2, e2, I2, hl, p2⟩ := flatF_rel (f := f) (mk := mk) (dec := dec) (R := R) (xs := xs) I1 fun y hy => h y (List.mem_cons_of_mem _ hy)
    refine ⟨v :: l, s2, ?_, I2, by simp [hl], fun i y w h1 h2 => ?_⟩
    · rw [List.map_cons, flatF_cons, e1, ok_bind, e2, ok_bind]; rfl
    · cases i with
      | zero => simp at h1 h2; subst h1 h2; exact p1
      | succ i => simp at h1 h2; exact p2 i y w h1 h2
theorem cp1_rel {α β : Type} {cf : Nat → List D → Sto → Out D} {gs : List D} {elt : Ex} {tg : Tg} {it : Src} {vs : List Nat} {env : Env} {s s1 : Sto} {mk : α → D} {dec : β → D} {I : Sto → Prop} {R : α → β → Prop} {xs : List α} (h1 : evI cf gs true it env s = .ok (xs.map mk) s1) (hI : I s1)
    (h2 : ∀ x ∈ xs, ∀ s, I s → ∃ env1 v s', bindT tg (mk x) (wipeE (noOwn env) vs) = some env1 ∧ ev cf gs false elt env1 s = .ok (dec v) s' ∧ I s' ∧ R x v) (hz : xs.length ≤ LINE) :
    ∃ (l : List β) (s' : Sto), evF cf gs (.cp1 elt tg it .n vs) env s = .ok (l.map dec) s' ∧ I s' ∧ l.length = xs.length ∧ ∀ (i : Nat) x v, xs[i]? = some x → l[i]? = some v → R x v := by
  obtain ⟨l, s', e, I', hl, p⟩ := flatF_rel (f := turn1 cf gs elt tg .n vs (noOwn env)) (mk := mk) (dec := dec) (I := I) (R := R) (xs := xs) hI fun x hx s hs => by
    obtain ⟨env1, v, s', e1, e2, i, p⟩ := h2 x hx s hs
    exact ⟨v, s', by simp [turn1, e1, e2], i, p⟩
  refine ⟨l, s', ?_, I', hl, p⟩
  rw [evF_cp1', h1, ok_bind, e, ok_bind, if_pos (by rw [List.length_map, hl]; exact hz)]
end PV
namespace PV.K81
open PySem PV
section
variable {n : Nat} {s : Sto} {W H : Nat} {f g : Int → Int → Int} {ts : List Tool}
/-! ### the tools drawn -/
/-! ### the moves drawn -/
end
end PV.K81

set_option maxRecDepth 100000
set_option maxHeartbeats 4000000
namespace PV.K81
open PySem PV
section
variable {n : Nat} {s : Sto} {W H : Nat} {f g h : Int → Int → Int} {ts : List Tool} {ms : List Mv}
theorem cut_map {α : Type} {q : α → D} {l : List α} {a b : Option Int} : cut (l.map q) a b = (cut l a b).map q := by
  unfold cut; rw [List.length_map, List.map_take, List.map_drop]
theorem cut_mem {α : Type} {x : α} {l : List α} {a b : Option Int} (h : x ∈ cut l a b) : x ∈ l := List.mem_of_mem_drop (List.mem_of_mem_take h)
theorem cut_len {α : Type} {l : List α} {a b : Option Int} : (cut l a b).length ≤ l.length := by
  unfold cut; rw [List.length_take, List.length_drop]; omega
section
variable {Sc : D} {top : Int} {o2 o4 o8 o9 o10 o11 o12 : Option SV}
end
end
end PV.K81

set_option maxRecDepth 100000
set_option maxHeartbeats 4000000
namespace PV
open PySem
theorem noOwn_val {env : Env} {i : Nat} {d : D} (h : env[i]? = some (some (.val d))) : (noOwn env)[i]? = some (some (.val d)) := by unfold noOwn; rw [List.getElem?_map, h]; rfl
theorem loop_any {α : Type} {f : D → Env → Sto → Out Flow} {mk : α → D} {I : Env → Sto → Prop} : ∀ {xs : List α} {env : Env} {s : Sto}, I env s → (∀ x env s, I env s → ∃ env' s', f (mk x) env s = .ok (.nx env') s' ∧ I env' s') → ∃ env' s', forF f (xs.map mk) env s = .ok (.nx env') s' ∧ I env' s'
  | [], env, s, hI, _ => ⟨env, s, rfl, hI⟩
  | x :: xs, env, s, hI, h => by
    obtain ⟨env1, s1, e1, I1⟩ := h x env s hI
    obtain ⟨env2, s2, e2, I2⟩ := loop_any (mk := mk) (xs := xs) I1 h
    exact ⟨env2, s2, by rw [List.map_cons, forF_cons, e1, nextL_nx, e2], I2⟩
end PV
namespace PV.K81
open PySem PV
section
variable {n : Nat} {s : Sto} {W H : Nat} {f g h : Int → Int → Int} {ts : List Tool} {ms : List Mv}
theorem bD_congr (h : ∀ a b : Nat, a < W → b < H → f a b = g a b) : bD W H f = bD W H g := by
  unfold bD
  congr 1
  refine List.map_congr_left fun b hb => ?_
  unfold rowD
  congr 1
  refine List.map_congr_left fun a ha => ?_
  rw [h a b (List.mem_range.mp ha) (List.mem_range.mp hb)]
section
variable {Sc : D} {top : Int} {o2 o4 o8 o9 o10 o11 o12 : Option SV}
theorem row_cons {b : Nat} (hW : 0 < W) : rowD W h b = .tup (.int (h 0 b) :: (List.range (W - 1)).map fun (a : Nat) => D.int (h ((a + 1 : Nat) : Int) b)) := by
  obtain ⟨V, rfl⟩ : ∃ V, W = V + 1 := ⟨W - 1, by omega⟩
  unfold rowD
  rw [List.range_succ_eq_map, List.map_cons, List.map_map]
  rfl
theorem bD_cons (hW : 0 < W) (hH : 0 < H) : bD W H h = .tup (rowD W h 0 :: (List.range (H - 1)).map fun b => rowD W h (b + 1)) := by
  obtain ⟨V, rfl⟩ : ∃ V, H = V + 1 := ⟨H - 1, by omega⟩
  unfold bD
  rw [List.range_succ_eq_map, List.map_cons, List.map_map]
  rfl
theorem slc_tail {x : D} {l : List D} : slcD (.tup (x :: l)) (some 1) none = some (.tup l) := by
  show some (D.tup (cut (x :: l) (some 1) none)) = _
  unfold cut HT.sIx
  simp
end
end
end PV.K81
set_option maxRecDepth 100000
set_option maxHeartbeats 4000000
namespace PV.K81
open PySem PV
abbrev F2 := Int → Int → Int
abbrev Stk := Str × Int × Int × Int
def skD (q : Stk) : D := .tup [.str q.1, .int q.2.1, .int q.2.2.1, .int q.2.2.2]
def spots (W H : Nat) (sd : Int) : List (Int × Int) := (ir 0 (H - sd + 1)).flatMap fun y => (ir 0 (W - sd + 1)).map fun x => (x, y)
/-- a tool of the law's kind -/
structure TOk (W H : Nat) (t : Tool) : Prop where
  sd : 1 ≤ t.2.1 ∧ t.2.1 ≤ 3
  sh : 1 ≤ t.2.2.1
  rm : 0 ≤ t.2.2.2 ∧ t.2.2.2 ≤ 1
structure BOk (W H : Nat) : Prop where
  W : 0 < W ∧ W ≤ 10
  H : 0 < H ∧ H ≤ 10
section
variable {n : Nat} {s : Sto} {W H : Nat} {f g : F2} {t : Tool} {ts : List Tool}
theorem mem_spots {p : Int × Int} {sd : Int} : p ∈ spots W H sd ↔ (0 ≤ p.1 ∧ p.1 + sd ≤ W) ∧ 0 ≤ p.2 ∧ p.2 + sd ≤ H := by
  unfold spots
  simp only [List.mem_flatMap, List.mem_map, mem_ir]
  constructor
  · rintro ⟨y, hy, x, hx, rfl⟩; simp only; omega
  · intro h; exact ⟨p.2, by omega, p.1, by omega, rfl⟩
theorem spots_len {sd : Int} (B : BOk W H) (h : 1 ≤ sd) : (spots W H sd).length ≤ 100 := by
  have hW := B.W
  have hH := B.H
  refine Nat.le_trans (flatMap_le (c := 10) fun y _ => by rw [List.length_map, ir_len]; omega) ?_
  rw [ir_len]; omega
/-! ### a round -/
end
end PV.K81

set_option maxRecDepth 100000
set_option maxHeartbeats 4000000
namespace PV.K81
open PySem PV
section
variable {W H : Nat} {f g h F G : F2} {t : Tool} {ts : List Tool}
/-! ### lowering: plain mathematics -/
theorem gr_not' {F : F2} {L : List (Int × Int)} {t : Int} (h : 0 ≤ t) : t < gr F L ↔ ∃ p ∈ L, t < F p.1 p.2 := by
  constructor
  · intro q
    refine Classical.byContradiction fun n => ?_
    have : gr F L ≤ t := gr_le.mpr ⟨h, fun p hp => Int.not_lt.mp fun r => n ⟨p, hp, r⟩⟩
    omega
  · rintro ⟨p, hp, r⟩
    have := (gr_le (f := F) (L := L) (z := gr F L)).mp (Int.le_refl _)
    have := this.2 p hp; omega
theorem gr_nn {L : List (Int × Int)} : 0 ≤ gr f L := ((gr_le (f := f) (L := L) (z := gr f L)).mp (Int.le_refl _)).1
theorem gr_mem {L : List (Int × Int)} {p : Int × Int} (h : p ∈ L) : f p.1 p.2 ≤ gr f L := ((gr_le (f := f) (L := L) (z := gr f L)).mp (Int.le_refl _)).2 p h
variable {sp : Spot → Prop} {u u' : Nat → F2}
end
end PV.K81

set_option maxRecDepth 100000
set_option maxHeartbeats 4000000
namespace PV.K81
open PySem PV
section
variable {n : Nat} {s : Sto} {W H : Nat} {f g : F2} {t : Tool} {ts : List Tool}
/-- blocks that the tools lower -/
structure Blk (W H : Nat) (f : F2) : Prop where
  in_ : ∀ a b, InB W H (a, b) → 0 ≤ f a b ∧ f a b ≤ 12
/-! ### all rounds -/
end
end PV.K81

set_option maxRecDepth 100000
set_option maxHeartbeats 4000000
namespace PV.K81
open PySem PV
structure TL (W H : Nat) (ts : List Tool) : Prop where
  B : BOk W H
  ok : ∀ t ∈ ts, TOk W H t
  nm : ∀ t ∈ ts, NmP t.1
  len : ts.length ≤ 3
  find : ∀ t ∈ ts, ts.find? (fun u => u.1 = t.1) = some t
section
variable {n : Nat} {s : Sto} {W H : Nat} {f g h : F2} {t : Tool} {ts : List Tool}
theorem gr12 {L : List (Int × Int)} (hf : Blk W H f) (hL : ∀ p ∈ L, InB W H p) : gr f L ≤ 12 := gr_le.mpr ⟨by omega, fun p hp => (hf.in_ p.1 p.2 (hL p hp)).2⟩
/-! ### the strokes' moves -/
/-! ### floors -/
theorem rngL_ir {j : Int} (h : -1000000 ≤ j ∧ j ≤ 1000000) : rngL? (.int j) = some ((ir 0 j).map D.int) := by
  unfold rngL?
  simp only
  rw [if_pos h, ← rangeL_ir]
  simp
end
end PV.K81

set_option maxRecDepth 100000
set_option maxHeartbeats 4000000
namespace PV.K81
open PySem PV
section
variable {n : Nat} {s : Sto} {W H : Nat} {f g h : F2} {k : Bool} {t : Tool} {ts : List Tool}
/-! ### the moves of strokes: plain mathematics -/
theorem len_self {p : P3} : len3 p p = 0 := by
  have e0 : ∀ c : Int, absI (c - c) = 0 := fun c => by rw [absI_p (by omega)]; omega
  unfold len3 steps; simp only [e0]; omega
theorem segU_self {p : P3} : segU p p = [] := by
  unfold segU
  rw [len_self, ir_nil (by omega)]; rfl
theorem at_0 {p q : P3} : at3 p q 0 = p := by unfold at3; rw [mv_0, mv_0, mv_0]
theorem cut_id {x y z : Int} (hz : 12 ≤ z) (hb : Blk W H f) (hf : ∀ a b, InS t.2.1 x y a b → InB W H (a, b)) : cutf t.2.1 x y z f = f := by
  funext a b
  by_cases c : InS t.2.1 x y a b
  · rw [cut_in c]
    have := (hb.in_ a b (hf a b c)).2
    have := mn_s (f a b) z
    omega
  · exact cut_out c
theorem fit_inb {x y z a b : Int} (hf : fit W H t.2.1 (x, y, z)) (h : InS t.2.1 x y a b) : InB W H (a, b) := by
  unfold fit at hf; unfold InS at h; unfold InB; simp only at *; omega
theorem cut_cut {sd x y z z' : Int} (h : z' ≤ z) : cutf sd x y z' (cutf sd x y z f) = cutf sd x y z' f := by
  funext a b
  by_cases c : InS sd x y a b
  · rw [cut_in c, cut_in c, cut_in c]
    have := mn_s (f a b) z
    have := mn_s (f a b) z'
    have := mn_s (mn (f a b) z) z'
    omega
  · rw [cut_out c, cut_out c, cut_out c]
theorem cut_up {sd x y z z' : Int} (h : z ≤ z') : cutf sd x y z' (cutf sd x y z f) = cutf sd x y z f := by
  funext a b
  by_cases c : InS sd x y a b
  · rw [cut_in c, cut_in c]
    have := mn_s (f a b) z
    have := mn_s (mn (f a b) z) z'
    omega
  · rw [cut_out c]
/-! ### a stroke's moves, one by one -/
variable {i : Nat} (hi : i < s.length)
end
section
variable {n : Nat} {s : Sto} {W H : Nat} {f g h : F2} {ts : List Tool}
end
end PV.K81

set_option maxRecDepth 100000
set_option maxHeartbeats 4000000
namespace PV.K81
open PySem PV
section
variable {n : Nat} {s : Sto} {W H : Nat} {f g h : F2} {t : Tool} {ts : List Tool} {x y z : Int}
/-! ### the law's own fields -/
theorem e_flatM {Ls : List (List D)} {M c : Nat} (hn : 1 ≤ n) (h1 : Ls.length * c ≤ M) (hM : M ≤ 1000000) (h2 : ∀ l ∈ Ls, l.length ≤ c) : callF fs gs n 29 [.lst (Ls.map D.lst)] s = .ok (.lst Ls.flatten) s := by
  obtain ⟨m, rfl, hm⟩ := sc hn
  rw [call_at (f := c__law_flat) rfl rfl]
  obtain ⟨k', e1⟩ := forF_app (f := stepF (callF fs gs m) gs (.nm 2) (.c (.ext 1 (.var 2)) .nil)) (mk := D.lst) (E := fun acc (k : Option SV) => [some (.val (.lst (Ls.map D.lst))), some (.own acc), k]) (g := fun l => l) (s := s) (M := M + c) (c := c) (xs := Ls)
    (fun l hl acc k ha => ⟨some (.val (.lst l)), by
      have := h2 l hl
      have hc : c ≤ M + c := by omega
      have hz : acc.length + l.length ≤ LINE := by
        have hc2 : Ls.length * c ≤ M := h1
        have : 1 ≤ Ls.length := List.length_pos_of_mem hl
        have : 1 * c ≤ Ls.length * c := Nat.mul_le_mul_right _ this
        show _ ≤ 16777216; omega
      simp [stepF, chg, hz]⟩) h2 [] none (by simp; omega)
  have e2 : ∀ env, env = [some (SV.val (.lst (Ls.map D.lst))), some (.own []), none] → exec (callF fs gs m) gs (.for (.nm 2) (.seq (.var 0)) (.c (.ext 1 (.var 2)) .nil)) env s = .ok (.nx [some (SV.val (.lst (Ls.map D.lst))), some (.own Ls.flatten), k']) s := by
    rintro env rfl
    rw [exec_for]
    have e3 : frzI [some (SV.val (.lst (Ls.map D.lst))), some (.own []), none] (.seq (.var 0)) = [some (SV.val (.lst (Ls.map D.lst))), some (.own []), none] := rfl
    rw [e3]
    have e4 : evI (callF fs gs m) gs false (.seq (.var 0)) [some (SV.val (.lst (Ls.map D.lst))), some (.own []), none] s = .ok (Ls.map D.lst) s := by simp [items?]
    rw [e4, ok_bind, e1]
    simp [List.flatMap_def]
  have e5 := e2 _ rfl
  simp [c__law_flat, startE, List.replicate, e5, frzR, frzAt]
theorem flat_flatMap {α : Type} {F : α → List D} {l : List α} : (l.map F).flatten = l.flatMap F := by rw [List.flatMap_def]
theorem e_lben (hsd : 1 ≤ t.2.1 ∧ t.2.1 ≤ 3) (hx : -100 ≤ x ∧ x ≤ 1000) (hy : -100 ≤ y ∧ y ≤ 1000) (hn : 2 ≤ n) : callF fs gs n 33 [toolD t, .int x, .int y] s = .ok (.lst ((benF t.2.1 x y).map pD)) s := by
  obtain ⟨m, rfl, hm⟩ := sc hn
  rw [call_at (f := c__law_beneath) rfl rfl]
  have r1 := rng2_ir (i := x) (j := x + t.2.1) (by omega)
  have r2 := rng2_ir (i := y) (j := y + t.2.1) (by omega)
  have inner : ∀ (b : Int) env, env = [some (SV.val (toolD t)), some (.val (.int x)), some (.val (.int y)), some (.val (.int b)), none] → evF (callF fs gs m) gs (.cp1 (.tup (.c (.var 4) (.c (.var 3) .nil))) (.nm 4) (.rg2 (.var 1) (.bin .add (.var 1) (.idx (.var 0) (.int 1)))) .n [4]) env s = .ok ((ir x (x + t.2.1)).map fun a => pD (a, b)) s := by
    rintro b env rfl
    exact cp1_map (xs := ir x (x + t.2.1)) (mk := D.int) (g := fun a => pD (a, b)) (by simp [r1]) (fun a ha => ⟨_, rfl, by simp [noOwn, wipeE, pD]⟩) (by rw [ir_len]; show _ ≤ 16777216; omega)
  have outer : ∀ env, env = [some (SV.val (toolD t)), some (.val (.int x)), some (.val (.int y)), none, none] → evF (callF fs gs m) gs (.cp1 (.fz (.cp1 (.tup (.c (.var 4) (.c (.var 3) .nil))) (.nm 4) (.rg2 (.var 1) (.bin .add (.var 1) (.idx (.var 0) (.int 1)))) .n [4])) (.nm 3) (.rg2 (.var 2) (.bin .add (.var 2) (.idx (.var 0) (.int 1)))) .n [3]) env s = .ok (((ir y (y + t.2.1)).map fun b => (ir x (x + t.2.1)).map fun a => pD (a, b)).map D.lst) s := by
    rintro env rfl
    rw [List.map_map]
    exact cp1_map (xs := ir y (y + t.2.1)) (mk := D.int) (g := D.lst ∘ fun b => (ir x (x + t.2.1)).map fun a => pD (a, b)) (by simp [r2]) (fun b hb => ⟨_, rfl, by
      have e := inner b _ rfl
      simp [noOwn, wipeE, e]⟩) (by rw [ir_len]; show _ ≤ 16777216; omega)
  have e1 := outer _ rfl
  have e2 := e_flatM (n := m) (s := s) (Ls := (ir y (y + t.2.1)).map fun b => (ir x (x + t.2.1)).map fun a => pD (a, b)) (M := 100) (c := 10) (by omega) (by rw [List.length_map, ir_len]; omega) (by omega) (fun l hl => by
    obtain ⟨b, _, rfl⟩ := List.mem_map.mp hl
    rw [List.length_map, ir_len]; omega)
  have e3 : ((ir y (y + t.2.1)).map fun b => (ir x (x + t.2.1)).map fun a => pD (a, b)).flatten = (benF t.2.1 x y).map pD := by
    unfold benF
    rw [List.map_flatMap, List.flatMap_def]
    simp only [List.map_map]
    rfl
  rw [e3] at e2
  generalize ((ir y (y + t.2.1)).map fun b => (ir x (x + t.2.1)).map fun a => pD (a, b)).map D.lst = M at e1 e2
  simp [c__law_beneath, startE, List.replicate, frzR, e1, e2, borrows, isOwn]
/-- the law's fields about -/
def widR (sd rm x : Int) (W H : Nat) (b : Int) : List (Int × Int) := (ir (x - rm) (x + sd + rm)).flatMap fun (a : Int) => if 0 ≤ a ∧ a < W then [(a, b)] else []
def widF (sd rm x y : Int) (W H : Nat) : List (Int × Int) := (ir (y - rm) (y + sd + rm)).flatMap fun (b : Int) => if 0 ≤ b ∧ b < H then widR sd rm x W H b else []
def laF (sd rm x y : Int) (W H : Nat) : List (Int × Int) := (widF sd rm x y W H).flatMap fun p => if p ∈ benF sd x y then [] else [p]
theorem mem_la {sd rm : Int} : ∀ p, p ∈ laF sd rm x y W H ↔ p ∈ abF sd rm x y W H := by
  intro p
  rw [mem_ab]
  unfold laF widF widR
  simp only [List.mem_flatMap, mem_ir]
  constructor
  · rintro ⟨q, ⟨b, hb, hq⟩, hp⟩
    split at hq
    · rename_i hb2
      obtain ⟨a, ha, hq⟩ := List.mem_flatMap.mp hq
      rw [mem_ir] at ha
      split at hq
      · rename_i ha2
        rw [List.mem_singleton] at hq
        subst hq
        split at hp
        · cases hp
        · rename_i hn
          rw [List.mem_singleton] at hp
          subst hp
          rw [mem_ben] at hn
          simp only at hn ⊢
          exact ⟨⟨ha2, hb2⟩, by omega, hn⟩
      · cases hq
    · cases hq
  · rintro ⟨h1, h2, h3⟩
    refine ⟨p, ⟨p.2, by omega, ?_⟩, ?_⟩
    · rw [if_pos h1.2, List.mem_flatMap]
      exact ⟨p.1, by rw [mem_ir]; omega, by rw [if_pos h1.1]; simp⟩
    · rw [if_neg (by rw [mem_ben]; exact h3)]; simp
theorem widR_len {sd rm : Int} {b : Int} (h : 0 ≤ sd ∧ sd ≤ 3) (hr : 0 ≤ rm ∧ rm ≤ 1) : (widR sd rm x W H b).length ≤ 10 := by
  unfold widR
  refine Nat.le_trans (flatMap_le (c := 1) fun a _ => by split <;> simp) ?_
  rw [ir_len]; omega
theorem widF_len {sd rm : Int} (h : 0 ≤ sd ∧ sd ≤ 3) (hr : 0 ≤ rm ∧ rm ≤ 1) : (widF sd rm x y W H).length ≤ 100 := by
  unfold widF
  refine Nat.le_trans (flatMap_le (c := 10) fun b _ => by split; exact widR_len h hr; simp) ?_
  rw [ir_len]; omega
theorem laF_len {sd rm : Int} (h : 0 ≤ sd ∧ sd ≤ 3) (hr : 0 ≤ rm ∧ rm ≤ 1) : (laF sd rm x y W H).length ≤ 100 := by
  unfold laF
  refine Nat.le_trans (flatMap_le (c := 1) fun b _ => by split <;> simp) ?_
  have := widF_len (x := x) (y := y) (W := W) (H := H) h hr; omega
theorem nin_ben {a b : Int} {L : List (Int × Int)} : cmpD .nin (.tup [.int a, .int b]) (.lst (L.map pD)) = some (!decide ((a, b) ∈ L)) := by
  have e : cmpD .inn (.tup [.int a, .int b]) (.lst (L.map pD)) = inD (.tup [.int a, .int b]) (.lst (L.map pD)) := id rfl
  have e2 := in_win (a := a) (b := b) (L := L)
  rw [e] at e2
  have e3 : cmpD .nin (.tup [.int a, .int b]) (.lst (L.map pD)) = (inD (.tup [.int a, .int b]) (.lst (L.map pD))).map (!·) := id rfl
  rw [e3, e2]; rfl
theorem e_labout (T : TOk W H t) (hx : 0 ≤ x ∧ x ≤ 1000) (hy : 0 ≤ y ∧ y ≤ 1000) (hn : 3 ≤ n) : callF fs gs n 34 [.tup [.int W, .int H], toolD t, .int x, .int y] s = .ok (.lst ((laF t.2.1 t.2.2.2 x y W H).map pD)) s := by
  obtain ⟨m, rfl, hm⟩ := sc hn
  rw [call_at (f := c__law_about) rfl rfl]
  have hsd := T.sd
  have hrm := T.rm
  have r1 := rng2_ir (i := x - t.2.2.2) (j := x + t.2.1 + t.2.2.2) (by omega)
  have r2 := rng2_ir (i := y - t.2.2.2) (j := y + t.2.1 + t.2.2.2) (by omega)
  have e0 := e_lben (n := m) (s := s) (t := t) (x := x) (y := y) hsd (by omega) (by omega) hm
  have inner : ∀ (b : Int) env, env = [some (SV.val (.tup [.int W, .int H])), some (.val (toolD t)), some (.val (.int x)), some (.val (.int y)), some (.val (.lst ((benF t.2.1 x y).map pD))), some (.val (.int t.2.2.2)), none, none, some (.val (.int b)), none] →
      evF (callF fs gs m) gs (.cp1 (.tup (.c (.var 9) (.c (.var 8) .nil))) (.nm 9) (.rg2 (.bin .sub (.var 2) (.var 5)) (.bin .add (.bin .add (.var 2) (.idx (.var 1) (.int 1))) (.var 5))) (.s (.chn .le .lt (.int 0) (.var 9) (.idx (.var 0) (.int 0)))) [9]) env s = .ok ((widR t.2.1 t.2.2.2 x W H b).map pD) s := by
    rintro b env rfl
    unfold widR
    rw [List.map_flatMap]
    refine cp1_pure (xs := ir (x - t.2.2.2) (x + t.2.1 + t.2.2.2)) (mk := D.int) (g := fun (a : Int) => (if 0 ≤ a ∧ a < W then [(a, b)] else []).map pD) (by simp [r1]) (fun a ha => ?_) (Nat.le_trans (flatMap_le (c := 1) fun a _ => by split <;> simp) (by rw [ir_len]; show _ ≤ 16777216; omega))
    by_cases c1 : 0 ≤ a <;> by_cases c2 : a < W <;> simp [turn1, noOwn, wipeE, c1, c2, pD]
  have outer : ∀ env, env = [some (SV.val (.tup [.int W, .int H])), some (.val (toolD t)), some (.val (.int x)), some (.val (.int y)), some (.val (.lst ((benF t.2.1 x y).map pD))), some (.val (.int t.2.2.2)), none, none, none, none] →
      evF (callF fs gs m) gs (.cp1 (.fz (.cp1 (.tup (.c (.var 9) (.c (.var 8) .nil))) (.nm 9) (.rg2 (.bin .sub (.var 2) (.var 5)) (.bin .add (.bin .add (.var 2) (.idx (.var 1) (.int 1))) (.var 5))) (.s (.chn .le .lt (.int 0) (.var 9) (.idx (.var 0) (.int 0)))) [9])) (.nm 8) (.rg2 (.bin .sub (.var 3) (.var 5)) (.bin .add (.bin .add (.var 3) (.idx (.var 1) (.int 1))) (.var 5))) (.s (.chn .le .lt (.int 0) (.var 8) (.idx (.var 0) (.int 1)))) [8]) env s
        = .ok ((((ir (y - t.2.2.2) (y + t.2.1 + t.2.2.2)).flatMap fun (b : Int) => if 0 ≤ b ∧ b < H then [(widR t.2.1 t.2.2.2 x W H b).map pD] else [])).map D.lst) s := by
    rintro env rfl
    rw [List.map_flatMap]
    refine cp1_pure (xs := ir (y - t.2.2.2) (y + t.2.1 + t.2.2.2)) (mk := D.int) (g := fun (b : Int) => (if 0 ≤ b ∧ b < H then [(widR t.2.1 t.2.2.2 x W H b).map pD] else []).map D.lst) (by simp [r2]) (fun b hb => ?_) (Nat.le_trans (flatMap_le (c := 1) fun a _ => by split <;> simp) (by rw [ir_len]; show _ ≤ 16777216; omega))
    have e := inner b _ rfl
    by_cases c1 : 0 ≤ b <;> by_cases c2 : b < H <;> simp [turn1, noOwn, wipeE, c1, c2, e]
  have e1 := outer _ rfl
  have e2 := e_flatM (n := m) (s := s) (Ls := (ir (y - t.2.2.2) (y + t.2.1 + t.2.2.2)).flatMap fun (b : Int) => if 0 ≤ b ∧ b < H then [(widR t.2.1 t.2.2.2 x W H b).map pD] else []) (M := 100) (c := 10) (by omega) (by
      have : ((ir (y - t.2.2.2) (y + t.2.1 + t.2.2.2)).flatMap fun (b : Int) => if 0 ≤ b ∧ b < H then [(widR t.2.1 t.2.2.2 x W H b).map pD] else []).length ≤ (ir (y - t.2.2.2) (y + t.2.1 + t.2.2.2)).length * 1 := flatMap_le (c := 1) fun a _ => by split <;> simp
      rw [ir_len] at this; omega) (by omega) (fun l hl => by
    obtain ⟨b, _, hl⟩ := List.mem_flatMap.mp hl
    split at hl
    · rw [List.mem_singleton] at hl
      rw [hl, List.length_map]
      exact widR_len (by omega) hrm
    · cases hl)
  have e3 : ((ir (y - t.2.2.2) (y + t.2.1 + t.2.2.2)).flatMap fun (b : Int) => if 0 ≤ b ∧ b < H then [(widR t.2.1 t.2.2.2 x W H b).map pD] else []).flatten = (widF t.2.1 t.2.2.2 x y W H).map pD := by
    unfold widF
    rw [List.map_flatMap, List.flatMap_def, List.flatMap_def, List.flatten_flatten, List.map_map]
    congr 1
    refine List.map_congr_left fun b _ => ?_
    simp only [Function.comp]
    split <;> simp
  rw [e3] at e2
  have fin : ∀ env, env = [some (SV.val (.tup [.int W, .int H])), some (.val (toolD t)), some (.val (.int x)), some (.val (.int y)), some (.val (.lst ((benF t.2.1 x y).map pD))), some (.val (.int t.2.2.2)), some (.val (.lst ((widF t.2.1 t.2.2.2 x y W H).map pD))), none, none, none] →
      evF (callF fs gs m) gs (.cp1 (.var 7) (.nm 7) (.seq (.var 6)) (.s (.cmp .nin (.var 7) (.var 4))) [7]) env s = .ok ((laF t.2.1 t.2.2.2 x y W H).map pD) s := by
    rintro env rfl
    have hl := laF_len (x := x) (y := y) (W := W) (H := H) (sd := t.2.1) (rm := t.2.2.2) (by omega) hrm
    unfold laF at hl ⊢
    rw [List.map_flatMap]
    refine cp1_pure (xs := widF t.2.1 t.2.2.2 x y W H) (mk := pD) (g := fun p => (if p ∈ benF t.2.1 x y then [] else [p]).map pD) (by simp [items?]) (fun p hp => ?_) (by
      rw [← List.map_flatMap, List.length_map]
      exact Nat.le_trans hl (by decide))
    have e := nin_ben (a := p.1) (b := p.2) (L := benF t.2.1 x y)
    have ep : (p.1, p.2) = p := rfl
    rw [ep] at e
    have ed : pD p = .tup [.int p.1, .int p.2] := rfl
    by_cases c : p ∈ benF t.2.1 x y <;> simp [turn1, noOwn, wipeE, ed, e, c]
  have e4 := fin _ rfl
  generalize ((ir (y - t.2.2.2) (y + t.2.1 + t.2.2.2)).flatMap fun (b : Int) => if 0 ≤ b ∧ b < H then [(widR t.2.1 t.2.2.2 x W H b).map pD] else []).map D.lst = M at e1 e2
  simp [c__law_about, startE, List.replicate, frzR, e0, e1, e2, e4, borrows, isOwn]
theorem e_most {L : List (Int × Int)} (hn : 1 ≤ n) (hL : ∀ p ∈ L, InB W H p) (hz : L.length ≤ 10000) : callF fs gs n 35 [bD W H f, .lst (L.map pD)] s = .ok (.int (gr f L)) s := by
  have e := e_great (s := s) (f := f) hn hL hz
  obtain ⟨m, rfl, hm⟩ := sc hn
  rw [call_at (f := c_greatest_at) rfl rfl] at e
  rw [call_at (f := c__law_most) rfl rfl]
  exact e
theorem gr_la {sd rm : Int} : gr f (laF sd rm x y W H) = gr f (abF sd rm x y W H) := gr_congr mem_la
/-! ### the law's cut -/
def xCell : Ex := (.ite (.cmp .inn (.tup (.c (.var 7) (.c (.var 6) .nil))) (.var 5)) (.blt .min (.c (.idx (.idx (.var 0) (.var 6)) (.var 7)) (.c (.var 4) .nil))) (.idx (.idx (.var 0) (.var 6)) (.var 7)))
theorem e_lcut (B : BOk W H) (hsd : 1 ≤ t.2.1 ∧ t.2.1 ≤ 3) (hx : -100 ≤ x ∧ x ≤ 1000) (hy : -100 ≤ y ∧ y ≤ 1000) (hn : 3 ≤ n) : callF fs gs n 36 [bD W H f, toolD t, .int x, .int y, .int z] s = .ok (bD W H (cutf t.2.1 x y z f)) s := by
  obtain ⟨m, rfl, hm⟩ := sc hn
  rw [call_at (f := c__law_cut) rfl rfl]
  have hW := B.W
  have hH := B.H
  have e0 := e_lben (n := m) (s := s) (t := t) (x := x) (y := y) hsd hx hy hm
  have row : ∀ (b : Nat) (env : Env), b < H → env = [some (SV.val (bD W H f)), some (.val (toolD t)), some (.val (.int x)), some (.val (.int y)), some (.val (.int z)), some (.val (.lst ((benF t.2.1 x y).map pD))), some (.val (.int (b : Nat))), none] →
      evF (callF fs gs m) gs (.cp1 xCell (.nm 7) (.rg1 (.blt .len (.c (.idx (.var 0) (.var 6)) .nil))) .n [7]) env s = .ok ((List.range W).map fun (a : Nat) => D.int (cutf t.2.1 x y z f a b)) s := by
    rintro b env hb rfl
    have i1 := idx_bD (W := W) (H := H) (f := f) (y := b) (by omega)
    have tn : ((b : Int)).toNat = b := by omega
    rw [tn] at i1
    refine cp1_map (xs := List.range W) (mk := fun (a : Nat) => D.int a) (g := fun (a : Nat) => D.int (cutf t.2.1 x y z f a b)) (by simp [i1, rng1_nat (W := W) (by omega)]) (fun a ha => ⟨_, rfl, ?_⟩) (by rw [List.length_range]; show _ ≤ 16777216; omega)
    have ha' := List.mem_range.mp ha
    have i2 := idx_row (W := W) (f := f) (x := a) (b := b) (by omega)
    have ec := in_win (a := a) (b := b) (L := benF t.2.1 x y)
    by_cases c : InS t.2.1 x y a b
    · rw [cut_in c]
      have hc : ((a : Int), (b : Int)) ∈ benF t.2.1 x y := mem_ben.mpr c
      simp [xCell, noOwn, wipeE, ec, hc, i1, i2]
    · rw [cut_out c]
      have hc : ((a : Int), (b : Int)) ∉ benF t.2.1 x y := fun q => c (mem_ben.mp q)
      simp [xCell, noOwn, wipeE, ec, hc, i1, i2]
  have outer : ∀ env, env = [some (SV.val (bD W H f)), some (.val (toolD t)), some (.val (.int x)), some (.val (.int y)), some (.val (.int z)), some (.val (.lst ((benF t.2.1 x y).map pD))), none, none] →
      evF (callF fs gs m) gs (.cp1 (.blt .tup (.c (.fz (.cp1 xCell (.nm 7) (.rg1 (.blt .len (.c (.idx (.var 0) (.var 6)) .nil))) .n [7])) .nil)) (.nm 6) (.rg1 (.blt .len (.c (.var 0) .nil))) .n [6]) env s = .ok ((List.range H).map (rowD W (cutf t.2.1 x y z f))) s := by
    rintro env rfl
    refine cp1_map (xs := List.range H) (mk := fun (b : Nat) => D.int b) (g := rowD W (cutf t.2.1 x y z f)) (by simp [rng1_nat (W := H) (by omega)]) (fun b hb => ⟨_, rfl, ?_⟩) (by rw [List.length_range]; show _ ≤ 16777216; omega)
    have e := row b _ (List.mem_range.mp hb) rfl
    simp [noOwn, wipeE, e]
    rfl
  have e1 := outer _ rfl
  have e2 : D.tup ((List.range H).map (rowD W (cutf t.2.1 x y z f))) = bD W H (cutf t.2.1 x y z f) := rfl
  simp only [xCell] at e1
  simp [c__law_cut, startE, List.replicate, frzR, e0, e1, e2, borrows, isOwn]
end
end PV.K81

set_option maxRecDepth 100000
set_option maxHeartbeats 4000000
namespace PV.K81
open PySem PV
section
variable {n : Nat} {s : Sto} {W H : Nat} {f g h : F2} {t : Tool} {ts : List Tool}
/-! ### the law's ways -/
def EL (p q : P3) (acc : List P3) (a : P3) (o4 o5 : Option SV) : Env := [some (.val (p3D p)), some (.val (p3D q)), some (.own (acc.map p3D)), some (.own [.int a.1, .int a.2.1, .int a.2.2]), o4, o5]
def bLw : Sms := (.c (.ite (.cmp .ne (.idx (.var 3) (.var 4)) (.idx (.var 1) (.var 4))) (.c (.setV 3 (.var 4) (.bin .add (.idx (.var 3) (.var 4)) (.ite (.cmp .lt (.idx (.var 3) (.var 4)) (.idx (.var 1) (.var 4))) (.int 1) (.neg (.int 1))))) (.c (.app 2 (.blt .tup (.c (.var 3) .nil))) .nil)) .nil) .nil)
theorem lw_step {p q a : P3} {ax j : Int} {acc : List P3} {o5 : Option SV} (hax : ax = 0 ∨ ax = 1 ∨ ax = 2) (hl : acc.length ≤ 1000) (hne : pk3 ax a ≠ pk3 ax q) : stepF (callF fs gs n) gs (.nm 5) bLw (.int j) (EL p q acc a (some (.val (.int ax))) o5) s = .ok (.nx (EL p q (acc ++ [mv1 ax a q]) (mv1 ax a q) (some (.val (.int ax))) (some (.val (.int j))))) s := by
  have hz : acc.length < LINE := by show _ < 16777216; omega
  have eb : bindT (.nm 5) (.int j) (EL p q acc a (some (.val (.int ax))) o5) = some (EL p q acc a (some (.val (.int ax))) (some (.val (.int j)))) := rfl
  unfold stepF
  rw [eb]
  rcases hax with rfl | rfl | rfl <;> simp [pk3] at hne
  · by_cases c : a.1 < q.1 <;> simp [bLw, EL, L2.ixN, chg, hne, c, mv1, hz, p3D, ptD]
  · by_cases c : a.2.1 < q.2.1 <;> simp [bLw, EL, L2.ixN, chg, hne, c, mv1, hz, p3D, ptD]
  · by_cases c : a.2.2 < q.2.2 <;> simp [bLw, EL, L2.ixN, chg, hne, c, mv1, hz, p3D, ptD]
theorem lw_idle {p q a : P3} {ax j : Int} {acc : List P3} {o5 : Option SV} (hax : ax = 0 ∨ ax = 1 ∨ ax = 2) (he : pk3 ax a = pk3 ax q) : stepF (callF fs gs n) gs (.nm 5) bLw (.int j) (EL p q acc a (some (.val (.int ax))) o5) s = .ok (.nx (EL p q acc a (some (.val (.int ax))) (some (.val (.int j))))) s := by
  have eb : bindT (.nm 5) (.int j) (EL p q acc a (some (.val (.int ax))) o5) = some (EL p q acc a (some (.val (.int ax))) (some (.val (.int j)))) := rfl
  unfold stepF
  rw [eb]
  rcases hax with rfl | rfl | rfl <;> simp [pk3] at he <;> simp [bLw, EL, he]
theorem lw_idles {p q a : P3} {ax : Int} {acc : List P3} (hax : ax = 0 ∨ ax = 1 ∨ ax = 2) (he : pk3 ax a = pk3 ax q) : ∀ {l : List Int} {o5 : Option SV}, ∃ o5', forF (stepF (callF fs gs n) gs (.nm 5) bLw) (l.map D.int) (EL p q acc a (some (.val (.int ax))) o5) s = .ok (.nx (EL p q acc a (some (.val (.int ax))) o5')) s
  | [], o5 => ⟨o5, rfl⟩
  | j :: l, o5 => by
    obtain ⟨o, e⟩ := lw_idles (p := p) (acc := acc) hax he (l := l) (o5 := some (.val (.int j)))
    exact ⟨o, by rw [List.map_cons, forF_cons, lw_idle hax he, nextL_nx, e]⟩
theorem lw_loop {p0 p q : P3} {ax : Int} (hax : ax = 0 ∨ ax = 1 ∨ ax = 2) (hne : pk3 ax p ≠ pk3 ax q) : ∀ (t : Nat) (j : Int) (acc : List P3) (o5 : Option SV) (l : List Int), 0 ≤ j → j + t = len3 p (set3 ax p q) → acc.length + t ≤ 1000 →
    ∃ o5', forF (stepF (callF fs gs n) gs (.nm 5) bLw) ((ir j (len3 p (set3 ax p q)) ++ l).map D.int) (EL p0 q acc (at3 p (set3 ax p q) j) (some (.val (.int ax))) o5) s = .ok (.nx (EL p0 q (acc ++ (ir (j + 1) (len3 p (set3 ax p q) + 1)).map (at3 p (set3 ax p q))) (set3 ax p q) (some (.val (.int ax))) o5')) s
  | 0, j, acc, o5, l, hj, he, hl => by
    have e : j = len3 p (set3 ax p q) := by omega
    obtain ⟨e1, e2⟩ := at_end hax hne
    obtain ⟨o, e3⟩ := lw_idles (n := n) (s := s) (p := p0) (q := q) (a := set3 ax p q) (acc := acc) hax e2 (l := l) (o5 := o5)
    refine ⟨o, ?_⟩
    rw [e, e1, ir_nil (Int.le_refl _), ir_nil (Int.le_refl _)]
    simpa using e3
  | t + 1, j, acc, o5, l, hj, he, hl => by
    obtain ⟨h1, h2⟩ := at_set hax hne ⟨hj, by omega⟩
    obtain ⟨o, e⟩ := lw_loop (p0 := p0) hax hne t (j + 1) (acc ++ [at3 p (set3 ax p q) (j + 1)]) (some (.val (.int j))) l (by omega) (by omega) (by rw [List.length_append]; simp; omega)
    refine ⟨o, ?_⟩
    rw [ir_cons (lo := j) (hi := len3 p (set3 ax p q)) (by omega), List.cons_append, List.map_cons, forF_cons, lw_step hax (by omega) h1, h2, nextL_nx, e, ir_cons (lo := j + 1) (hi := len3 p (set3 ax p q) + 1) (by omega)]
    simp
theorem ir_split40 {N : Int} (h : 0 ≤ N ∧ N ≤ 40) : ir 0 40 = ir 0 N ++ ir N 40 := by
  unfold ir
  have e : (40 - 0 : Int).toNat = (N - 0).toNat + (40 - N).toNat := by omega
  rw [e, List.range_add, List.map_append]
  congr 1
  rw [List.map_map]
  refine List.map_congr_left fun i _ => ?_
  simp only [Function.comp]
  omega
def sLw : Sm := .for (.nm 5) (.rg1 (.int 40)) bLw
theorem lw_axis {p0 p q : P3} {ax : Int} {acc : List P3} {o5 : Option SV} (hax : ax = 0 ∨ ax = 1 ∨ ax = 2) (hl : len3 p (set3 ax p q) ≤ 40) (hz : acc.length ≤ 500) :
    ∃ o5', exec (callF fs gs n) gs sLw (EL p0 q acc p (some (.val (.int ax))) o5) s = .ok (.nx (EL p0 q (acc ++ segU p (set3 ax p q)) (set3 ax p q) (some (.val (.int ax))) o5')) s := by
  have e0 : evI (callF fs gs n) gs false (.rg1 (.int 40)) (EL p0 q acc p (some (.val (.int ax))) o5) s = .ok ((ir 0 40).map D.int) s := by simp [rng1_ir (j := 40) (by omega)]
  have e4 : frzI (EL p0 q acc p (some (.val (.int ax))) o5) (.rg1 (.int 40)) = EL p0 q acc p (some (.val (.int ax))) o5 := rfl
  have hn := len_nn (p := p) (q := set3 ax p q)
  unfold sLw
  rw [exec_for, e4, e0, ok_bind]
  by_cases hne : pk3 ax p = pk3 ax q
  · rw [set_eq hax hne, segU_self, List.append_nil]
    obtain ⟨o, e⟩ := lw_idles (n := n) (s := s) (p := p0) (acc := acc) hax hne (l := ir 0 40) (o5 := o5)
    exact ⟨o, e⟩
  · obtain ⟨o, e⟩ := lw_loop (n := n) (s := s) (p0 := p0) hax hne (len3 p (set3 ax p q)).toNat 0 acc o5 (ir (len3 p (set3 ax p q)) 40) (Int.le_refl _) (by omega) (by omega)
    rw [at_0, ← ir_split40 ⟨hn, hl⟩] at e
    exact ⟨o, e⟩
theorem abs12 {a b : Int} (h1 : 0 ≤ a ∧ a ≤ 12) (h2 : 0 ≤ b ∧ b ≤ 12) : absI (a - b) ≤ 12 := by unfold absI; split <;> omega
theorem len12 {p q : P3} {ax : Int} (hax : ax = 0 ∨ ax = 1 ∨ ax = 2) (h1 : absI (q.1 - p.1) ≤ 12) (h2 : absI (q.2.1 - p.2.1) ≤ 12) (h3 : absI (q.2.2 - p.2.2) ≤ 12) : len3 p (set3 ax p q) ≤ 12 := by
  have e0 : ∀ c : Int, absI (c - c) = 0 := fun c => by rw [absI_p (by omega)]; omega
  have q1 : ¬ ((1 : Int) = 0) := by decide
  have q2 : ¬ ((2 : Int) = 0) := by decide
  have q3 : ¬ ((2 : Int) = 1) := by decide
  unfold len3 steps
  rcases hax with rfl | rfl | rfl
  · simp only [set3, if_true, e0]; omega
  · simp only [set3, if_neg q1, if_true, e0]; omega
  · simp only [set3, if_neg q2, if_neg q3, e0]; omega
theorem us_len {p q : P3} (h1 : absI (q.1 - p.1) ≤ 12) (h2 : absI (q.2.1 - p.2.1) ≤ 12) (h3 : absI (q.2.2 - p.2.2) ≤ 12) : (usL p q).length ≤ 36 := by
  have l0 := len12 (p := p) (q := q) (ax := 0) (.inl rfl) h1 h2 h3
  have l1 := len12 (p := set3 0 p q) (q := q) (ax := 1) (.inr (.inl rfl)) (by show absI (q.1 - q.1) ≤ 12; rw [absI_p (by omega)]; omega) h2 h3
  have l2 := len12 (p := set3 1 (set3 0 p q) q) (q := q) (ax := 2) (.inr (.inr rfl)) (by show absI (q.1 - q.1) ≤ 12; rw [absI_p (by omega)]; omega) (by show absI (q.2.1 - q.2.1) ≤ 12; rw [absI_p (by omega)]; omega) h3
  have qe : set3 2 (set3 1 (set3 0 p q) q) q = q := rfl
  rw [qe] at l2
  unfold usL
  rw [List.length_append, List.length_append, segU_len, segU_len, segU_len]
  omega
theorem e_lways {p q : P3} (h1 : absI (q.1 - p.1) ≤ 12) (h2 : absI (q.2.1 - p.2.1) ≤ 12) (h3 : absI (q.2.2 - p.2.2) ≤ 12) (hn : 1 ≤ n) : callF fs gs n 37 [p3D p, p3D q] s = .ok (.lst ((usL p q).map p3D)) s := by
  obtain ⟨m, rfl, hm⟩ := sc hn
  rw [call_at (f := c__law_ways) rfl rfl]
  have eb : c__law_ways.body = .c (.par [2, 3] (.o (.dsp .nil) (.o (.lof (.var 0)) .nil))) (.c (.for (.nm 4) (.seq (.tup (.c (.int 0) (.c (.int 1) (.c (.int 2) .nil))))) (.c sLw .nil)) (.c (.ret (.var 2)) .nil)) := rfl
  have es : startE c__law_ways.N.length [p3D p, p3D q] = [some (SV.val (p3D p)), some (.val (p3D q)), none, none, none, none] := rfl
  have e2 : exec (callF fs gs m) gs (.par [2, 3] (.o (.dsp .nil) (.o (.lof (.var 0)) .nil))) [some (SV.val (p3D p)), some (.val (p3D q)), none, none, none, none] s = .ok (.nx (EL p q [] p none none)) s := by simp [EL, p3D, ptD]
  have e3 : evI (callF fs gs m) gs false (.seq (.tup (.c (.int 0) (.c (.int 1) (.c (.int 2) .nil))))) (EL p q [] p none none) s = .ok [.int 0, .int 1, .int 2] s := by simp [items?]
  have e4 : frzI (EL p q [] p none none) (.seq (.tup (.c (.int 0) (.c (.int 1) (.c (.int 2) .nil))))) = EL p q [] p none none := rfl
  have bod : ∀ (ax : Int) (acc : List P3) (a : P3) (o o5 : Option SV), stepF (callF fs gs m) gs (.nm 4) (.c sLw .nil) (.int ax) (EL p q acc a o o5) s = nextF (exec (callF fs gs m) gs sLw (EL p q acc a (some (.val (.int ax))) o5) s) (execs (callF fs gs m) gs .nil) := by
    intro ax acc a o o5
    have eb : bindT (.nm 4) (.int ax) (EL p q acc a o o5) = some (EL p q acc a (some (.val (.int ax))) o5) := rfl
    unfold stepF
    rw [eb]
    simp only [execs_c]
  have l0 := len12 (p := p) (q := q) (ax := 0) (.inl rfl) h1 h2 h3
  have l1 := len12 (p := set3 0 p q) (q := q) (ax := 1) (.inr (.inl rfl)) (by show absI (q.1 - q.1) ≤ 12; rw [absI_p (by omega)]; omega) h2 h3
  have l2 := len12 (p := set3 1 (set3 0 p q) q) (q := q) (ax := 2) (.inr (.inr rfl)) (by show absI (q.1 - q.1) ≤ 12; rw [absI_p (by omega)]; omega) (by show absI (q.2.1 - q.2.1) ≤ 12; rw [absI_p (by omega)]; omega) h3
  have n0 := len_nn (p := p) (q := set3 0 p q)
  have n1 := len_nn (p := set3 0 p q) (q := set3 1 (set3 0 p q) q)
  have qe : set3 2 (set3 1 (set3 0 p q) q) q = q := rfl
  obtain ⟨o1, x1⟩ := lw_axis (n := m) (s := s) (p0 := p) (p := p) (q := q) (ax := 0) (acc := []) (o5 := none) (.inl rfl) (by omega) (by simp)
  obtain ⟨o2, x2⟩ := lw_axis (n := m) (s := s) (p0 := p) (p := set3 0 p q) (q := q) (ax := 1) (acc := [] ++ segU p (set3 0 p q)) (o5 := o1) (.inr (.inl rfl)) (by omega) (by simp [segU_len]; omega)
  obtain ⟨o3, x3⟩ := lw_axis (n := m) (s := s) (p0 := p) (p := set3 1 (set3 0 p q) q) (q := q) (ax := 2) (acc := [] ++ segU p (set3 0 p q) ++ segU (set3 0 p q) (set3 1 (set3 0 p q) q)) (o5 := o2) (.inr (.inr rfl)) (by omega) (by simp [segU_len]; omega)
  rw [eb, es, execs_c, e2, nextF_nx, execs_c, exec_for, e4, e3, ok_bind]
  rw [forF_cons, bod, x1, nextF_nx, execs_nil, nextL_nx]
  rw [forF_cons, bod, x2, nextF_nx, execs_nil, nextL_nx]
  rw [forF_cons, bod, x3, nextF_nx, execs_nil, nextL_nx, forF_nil, nextF_nx]
  rw [qe]
  have eu : usL p q = [] ++ segU p (set3 0 p q) ++ segU (set3 0 p q) (set3 1 (set3 0 p q) q) ++ segU (set3 1 (set3 0 p q) q) q := by unfold usL; simp
  rw [← eu]
  simp [EL, frzR, frzAt]
/-! ### the law's unit steps, and its run -/
abbrev Us := Int × Tool × P3
def usD (u : Us) : D := .tup [.int u.1, toolD u.2.1, kindD false, p3D u.2.2]
def ES (ts : List Tool) (M : D) (tl : Option Tool) (p : P3) (L : List Us) (o5 o6 o7 : Option SV) : Env := [some (.val (.tup (ts.map toolD))), some (.val M), some (.val (oT tl)), some (.val (p3D p)), some (.val (.lst (L.map usD))), o5, o6, o7, none, none]
def xOne : Fx := (.cp1 (.var 9) (.nm 9) (.seq (.var 0)) (.s (.cmp .eq (.idx (.var 9) (.int 0)) (.var 7))) [9])
theorem filt_head {x : Str} : (ts.find? fun u => u.1 = x) = (ts.filter fun u => u.1 = x).head? := by rw [List.head?_filter]
theorem e_one {x : Str} {M a2 a3 a4 a5 a6 : D} (hx : NmP x) (hnm : ∀ t ∈ ts, NmP t.1) (hl : ts.length ≤ 3) : evF (callF fs gs n) gs xOne [some (SV.val (.tup (ts.map toolD))), some (.val M), some (.val a2), some (.val a3), some (.val a4), some (.val a5), some (.val a6), some (.val (.str x)), none, none] s = .ok ((ts.filter fun t => t.1 = x).map toolD) s := by
  have hf : ts.flatMap (fun t => if t.1 = x then [toolD t] else []) = (ts.filter fun t => t.1 = x).map toolD := by
    clear hl hnm
    induction ts with
    | nil => rfl
    | cons t ts ih => by_cases h : t.1 = x <;> simp [h, ih]
  rw [← hf]
  refine cp1_pure (xs := ts) (mk := toolD) (by simp [items?]) (fun t h => ?_) (by
    rw [hf, List.length_map]
    exact Nat.le_trans (List.length_filter_le _ _) (by show _ ≤ 16777216; omega))
  have e2 := eq_str (hnm t h) hx
  by_cases c : t.1 = x
  · rw [c] at e2
    simp [turn1, wipeE, noOwn, e2, c]
  · simp [turn1, wipeE, noOwn, e2, c]
theorem fit12 {p : P3} {sd : Int} (B : BOk W H) (hs : 1 ≤ sd) (h : fit W H sd p) : (0 ≤ p.1 ∧ p.1 ≤ 12) ∧ (0 ≤ p.2.1 ∧ p.2.1 ≤ 12) ∧ 0 ≤ p.2.2 ∧ p.2.2 ≤ 12 := by
  have := B.W; have := B.H
  unfold fit at h; omega
/-! ### the law's run -/
end
end PV.K81

set_option maxRecDepth 100000
set_option maxHeartbeats 4000000
namespace PV.K81
open PySem PV
section
variable {n : Nat} {s : Sto} {W H : Nat} {f g h : F2} {t : Tool} {ts : List Tool}
/-! ### the law's strokes -/
theorem bD_inj (e : bD W H f = bD W H h) {a b : Int} (hb : InB W H (a, b)) : f a b = h a b := by
  unfold InB at hb
  simp only at hb
  have i1 := idx_bD (W := W) (H := H) (f := f) (y := b) hb.2
  have i2 := idx_bD (W := W) (H := H) (f := h) (y := b) hb.2
  rw [e, i2] at i1
  have j1 := idx_row (W := W) (f := f) (x := a) (b := b.toNat) hb.1
  have j2 := idx_row (W := W) (f := h) (x := a) (b := b.toNat) hb.1
  have e2 : rowD W h b.toNat = rowD W f b.toNat := Option.some.inj i1
  rw [e2, j1] at j2
  have q : ((b.toNat : Nat) : Int) = b := by omega
  simp only [Option.some.injEq, D.int.injEq] at j2
  rw [q] at j2
  exact j2
theorem dat2 {f : F2} : Dat (bD W H f) := dat_bD.dat (by omega)
end
end PV.K81

set_option maxRecDepth 100000
set_option maxHeartbeats 4000000
namespace PV.K81
open PySem PV
section
variable {n : Nat} {s : Sto} {W H : Nat} {f g h : F2} {t : Tool} {ts : List Tool}
/-! ### draws that leave the rest of the store -/
def BxR (r : Sto) (s : Sto) : Prop := ∃ (cs : List Int) (v t : Int), s = .lst (cs.map D.int) :: .lst [.loc 0, .int v, .int t] :: r
theorem e_loadR {r : Sto} (hb : BxR r s) (hn : 1 ≤ n) : ∃ v s', callF fs gs n 26 [.loc 1] s = .ok (.int v) s' ∧ BxR r s' := by
  obtain ⟨m, rfl, hm⟩ := sc hn
  obtain ⟨cs, v, t, rfl⟩ := hb
  rw [call_at (f := c__law_load) rfl rfl]
  cases cs with
  | nil =>
    refine ⟨_, _, by simp [c__law_load, startE, List.replicate, L2.ixN, chg, frzR]; first | exact ⟨rfl, rfl⟩ | rfl, [], v, _, rfl⟩
  | cons c cs =>
    have ep : ∀ (o : Bool) (env : Env), env[1]? = some (some (.val (.loc 0))) → ev (callF fs gs m) gs o (.popL 1 (.s (.int 0))) env (.lst (D.int c :: cs.map D.int) :: .lst [.loc 0, .int v, .int t] :: r) = .ok (.int c) (.lst (cs.map D.int) :: .lst [.loc 0, .int v, .int t] :: r) := fun o env h =>
      ev_popL (n := 0) (k := 0) (j := 0) (ds := D.int c :: cs.map D.int) rfl h ev_int rfl (by decide) (by simp [L2.ixN]) rfl
    by_cases c1 : 0 ≤ c
    · by_cases c2 : 1000000000000000000 ≤ 2 * c
      · refine ⟨_, _, by simp [c__law_load, startE, List.replicate, L2.ixN, chg, frzR, ep, c1, c2]; first | exact ⟨rfl, rfl⟩ | rfl, cs, v, t, rfl⟩
      · refine ⟨_, _, by simp [c__law_load, startE, List.replicate, L2.ixN, chg, frzR, ep, c1, c2]; first | exact ⟨rfl, rfl⟩ | rfl, cs, v, _, rfl⟩
    · by_cases c2 : 1000000000000000000 ≤ -2 * c - 1
      · refine ⟨_, _, by simp [c__law_load, startE, List.replicate, L2.ixN, chg, frzR, ep, c1, c2]; first | exact ⟨rfl, rfl⟩ | rfl, cs, v, t, rfl⟩
      · refine ⟨_, _, by simp [c__law_load, startE, List.replicate, L2.ixN, chg, frzR, ep, c1, c2]; first | exact ⟨rfl, rfl⟩ | rfl, cs, v, _, rfl⟩
theorem e_drawR {many : Int} {r : Sto} (hb : BxR r s) (h : 0 < many ∧ many < 1073741824) (hn : 2 ≤ n) : ∃ d s', callF fs gs n 27 [.loc 1, .int many] s = .ok (.int d) s' ∧ (0 ≤ d ∧ d < many) ∧ BxR r s' := by
  obtain ⟨m, rfl, hm⟩ := sc hn
  obtain ⟨w, s1, e1, h1⟩ := e_loadR hb hm
  obtain ⟨cs, v, t, rfl⟩ := hb
  obtain ⟨cs1, v1, t1, rfl⟩ := h1
  rw [call_at (f := c__law_draw) rfl rfl]
  by_cases c : v < many
  · refine ⟨w % many, _, by simp [c__law_draw, startE, List.replicate, L2.ixN, chg, frzR, c, e1, borrows, isOwn, h.1, h.2]; rfl, ⟨Int.emod_nonneg _ (by omega), Int.emod_lt_of_pos _ h.1⟩, cs1, _, t1, rfl⟩
  · refine ⟨v % many, _, by simp [c__law_draw, startE, List.replicate, L2.ixN, chg, frzR, c, e1, borrows, isOwn, h.1, h.2]; rfl, ⟨Int.emod_nonneg _ (by omega), Int.emod_lt_of_pos _ h.1⟩, cs, _, t, rfl⟩
/-! ### the law's reach -/
end
end PV.K81

set_option maxRecDepth 100000
set_option maxHeartbeats 4000000
namespace PV
open PySem
theorem noOwn_len {env : Env} : (noOwn env).length = env.length := by unfold noOwn; simp
theorem min3 {i j l : Int} : bltD .min [.int i, .int j, .int l] = some (.int (if l < (if j < i then j else i) then l else (if j < i then j else i))) := id rfl
theorem mul_tup {x : D} {k : Nat} (h : 1 ≤ k ∧ k ≤ 1000) : binD .mul (.tup [x]) (.int k) = some (.tup (List.replicate k x)) := by
  show (if (k : Int) = 1 then some (D.tup [x]) else if 2 ≤ (k : Int) ∧ (k : Int) ≤ 1000 ∧ [x].length ≤ 1000 ∧ [x].isEmpty = false then some (.tup (List.replicate (k : Int).toNat [x]).flatten) else none) = _
  by_cases c : (k : Int) = 1
  · have : k = 1 := by omega
    subst this; rfl
  · rw [if_neg c, if_pos ⟨by omega, by omega, by simp, rfl⟩]
    congr 2
    have e : (k : Int).toNat = k := by omega
    rw [e]
    clear c e h
    induction k with
    | zero => rfl
    | succ k ih => rw [List.replicate_succ, List.flatten_cons, ih, List.replicate_succ]; rfl
end PV
namespace PV.K81
open PySem PV
section
variable {n : Nat} {s : Sto} {W H : Nat} {f g h : F2} {t : Tool} {ts : List Tool}
theorem e_lsize {most : Int} (hb : Bx s) (hm : 1 ≤ most ∧ most ≤ 100) (hn : 3 ≤ n) : ∃ (W H : Nat) (s' : Sto), callF fs gs n 30 [.loc 1, .int most] s = .ok (.tup [.int W, .int H]) s' ∧ Bx s' ∧ (0 < W ∧ (W : Int) ≤ most) ∧ 0 < H ∧ (H : Int) ≤ most := by
  obtain ⟨m, rfl, hm'⟩ := sc hn
  rw [call_at (f := c__law_size) rfl rfl]
  obtain ⟨d1, s1, e1, h1, b1⟩ := e_draw (n := m) (many := most) hb (by omega) hm'
  obtain ⟨d2, s2, e2, h2, b2⟩ := e_draw (n := m) (many := most) b1 (by omega) hm'
  obtain ⟨W, hW⟩ : ∃ W : Nat, (W : Int) = 1 + d1 := ⟨(1 + d1).toNat, by omega⟩
  obtain ⟨H, hH⟩ : ∃ H : Nat, (H : Int) = 1 + d2 := ⟨(1 + d2).toNat, by omega⟩
  refine ⟨W, H, s2, ?_, b2, by omega, by omega, by omega⟩
  rw [hW, hH]
  simp [c__law_size, startE, List.replicate, frzR, e1, e2, borrows, isOwn]
theorem rows_bD {rows : List (List Int)} {P : Int → Nat → Nat → Prop} (hl : rows.length = H) (hp : ∀ (b : Nat) l, rows[b]? = some l → l.length = W ∧ ∀ (a : Nat) v, l[a]? = some v → P v a b) :
    ∃ f : F2, D.tup (rows.map fun r => D.tup (r.map D.int)) = bD W H f ∧ ∀ a b : Nat, a < W → b < H → P (f a b) a b := by
  have hR : ∀ r ∈ rows, r.length = W := fun r hr => by
    obtain ⟨i, hi, rfl⟩ := List.getElem_of_mem hr
    exact (hp i rows[i] (List.getElem?_eq_getElem hi)).1
  refine ⟨_, block_of hl hR, fun a b ha hb => ?_⟩
  have h1 : b < rows.length := by omega
  have h2 := hp b rows[b] (List.getElem?_eq_getElem h1)
  have h3 : a < rows[b].length := by rw [h2.1]; omega
  have h4 := h2.2 a rows[b][a] (List.getElem?_eq_getElem h3)
  simpa [List.getD, List.getElem?_eq_getElem h1, List.getElem?_eq_getElem h3] using h4
theorem e_lheights {most : Int} (hb : Bx s) (hW : W ≤ 10) (hH : H ≤ 10) (hm : 0 ≤ most ∧ most ≤ 100) (hn : 3 ≤ n) : ∃ (f : F2) (s' : Sto), callF fs gs n 31 [.loc 1, .tup [.int W, .int H], .int most] s = .ok (bD W H f) s' ∧ Bx s' ∧ ∀ a b : Nat, a < W → b < H → 0 ≤ f a b ∧ f a b ≤ most := by
  obtain ⟨m, rfl, hm'⟩ := sc hn
  rw [call_at (f := c__law_heights) rfl rfl]
  have inner : ∀ (y : Int) (s2 : Sto), Bx s2 → ∃ (l : List Int) (s' : Sto), evF (callF fs gs m) gs (.cp1 (.call 27 (.c (.var 0) (.c (.bin .add (.var 2) (.int 1)) .nil))) (.nm 4) (.rg1 (.idx (.var 1) (.int 0))) .n [4]) [some (SV.val (.loc 1)), some (.val (.tup [.int W, .int H])), some (.val (.int most)), some (.val (.int y)), none] s2 = .ok (l.map D.int) s' ∧ Bx s' ∧ l.length = W ∧ ∀ v ∈ l, 0 ≤ v ∧ v ≤ most := by
    intro y s2 hb2
    obtain ⟨l, s', e2, b', hl, hp⟩ := cp1_gen (cf := callF fs gs m) (gs := gs) (elt := .call 27 (.c (.var 0) (.c (.bin .add (.var 2) (.int 1)) .nil))) (tg := .nm 4) (it := .rg1 (.idx (.var 1) (.int 0))) (vs := [4]) (env := [some (SV.val (.loc 1)), some (.val (.tup [.int W, .int H])), some (.val (.int most)), some (.val (.int y)), none]) (s := s2) (s1 := s2) (mk := D.int) (dec := D.int) (I := Bx) (P := fun v => 0 ≤ v ∧ v ≤ most) (xs := ir 0 W)
      (by simp [rng1_ir (j := W) (by omega)]) hb2 (fun i hi s3 hb3 => by
        obtain ⟨d, s4, g1, g2, g3⟩ := e_draw (n := m) (many := most + 1) hb3 (by omega) hm'
        exact ⟨_, d, s4, rfl, by simp [noOwn, wipeE, g1, borrows, isOwn], g3, by omega⟩) (by rw [ir_len]; show _ ≤ 16777216; omega)
    exact ⟨l, s', e2, b', by rw [hl, ir_len]; omega, hp⟩
  obtain ⟨rows, s', e2, b', hl, hp⟩ := cp1_gen (cf := callF fs gs m) (gs := gs) (elt := .blt .tup (.c (.fz (.cp1 (.call 27 (.c (.var 0) (.c (.bin .add (.var 2) (.int 1)) .nil))) (.nm 4) (.rg1 (.idx (.var 1) (.int 0))) .n [4])) .nil)) (tg := .nm 3) (it := .rg1 (.idx (.var 1) (.int 1))) (vs := [3]) (env := [some (SV.val (.loc 1)), some (.val (.tup [.int W, .int H])), some (.val (.int most)), none, none]) (s := s) (s1 := s) (mk := D.int) (dec := fun (l : List Int) => D.tup (l.map D.int)) (I := Bx) (P := fun (l : List Int) => l.length = W ∧ ∀ v ∈ l, 0 ≤ v ∧ v ≤ most) (xs := ir 0 H)
    (by simp [rng1_ir (j := H) (by omega)]) hb (fun i hi s3 hb3 => by
      obtain ⟨l, s4, g1, g2, g3, g4⟩ := inner i s3 hb3
      exact ⟨_, l, s4, rfl, by simp [noOwn, wipeE, g1], g2, g3, g4⟩) (by rw [ir_len]; show _ ≤ 16777216; omega)
  obtain ⟨f, hf, hP⟩ := rows_bD (W := W) (H := H) (P := fun v _ _ => 0 ≤ v ∧ v ≤ most) (by rw [hl, ir_len]; omega) (fun b l hbl => by
    have := hp l (List.mem_of_getElem? hbl)
    exact ⟨this.1, fun a v h => this.2 v (List.mem_of_getElem? h)⟩)
  refine ⟨f, s', ?_, b', hP⟩
  rw [← hf]
  simp [c__law_heights, startE, List.replicate, frzR, e2]
/-! ### the tools -/
def ET (W H : Nat) (l : List Tool) (o : Option SV) : Env := [some (.val (.loc 1)), some (.val (.tup [.int W, .int H])), some (.own (l.map toolD)), o]
def bTl : Sms := (.c (.app 2 (.tup (.c (.var 3) (.c (.bin .add (.int 1) (.call 27 (.c (.var 0) (.c (.blt .min (.c (.int 3) (.c (.idx (.var 1) (.int 0)) (.c (.idx (.var 1) (.int 1)) .nil)))) .nil)))) (.c (.bin .add (.int 1) (.call 27 (.c (.var 0) (.c (.int 4) .nil)))) (.c (.call 27 (.c (.var 0) (.c (.int 2) .nil))) .nil)))))) .nil)
structure LT (W H : Nat) (t : Tool) : Prop where
  ok : TOk W H t
  sh : t.2.2.1 ≤ 4
  fit : t.2.1 ≤ W ∧ t.2.1 ≤ H
theorem tl_loop (B : BOk W H) (hn : 2 ≤ n) : ∀ {xs : List Str} {l : List Tool} {o : Option SV} {s : Sto}, Bx s → l.length + xs.length ≤ 100 → (∀ t ∈ l, LT W H t) →
    ∃ (l' : List Tool) (o' : Option SV) (s' : Sto), forF (stepF (callF fs gs n) gs (.nm 3) bTl) (xs.map D.str) (ET W H l o) s = .ok (.nx (ET W H (l ++ l') o')) s' ∧ Bx s' ∧ l'.map (·.1) = xs ∧ ∀ t ∈ l', LT W H t
  | [], l, o, s, hb, _, _ => ⟨[], o, s, by rw [List.append_nil]; rfl, hb, rfl, fun t h => by cases h⟩
  | x :: xs, l, o, s, hb, hz, hl => by
    rw [List.length_cons] at hz
    have hW := B.W
    have hH := B.H
    have hz' : l.length < LINE := by show _ < 16777216; omega
    have hm3 : 0 < (if (H : Int) < (if (W : Int) < 3 then (W : Int) else 3) then (H : Int) else (if (W : Int) < 3 then (W : Int) else 3)) ∧ (if (H : Int) < (if (W : Int) < 3 then (W : Int) else 3) then (H : Int) else (if (W : Int) < 3 then (W : Int) else 3)) ≤ 3 ∧ (if (H : Int) < (if (W : Int) < 3 then (W : Int) else 3) then (H : Int) else (if (W : Int) < 3 then (W : Int) else 3)) ≤ W ∧ (if (H : Int) < (if (W : Int) < 3 then (W : Int) else 3) then (H : Int) else (if (W : Int) < 3 then (W : Int) else 3)) ≤ H := by
      split <;> split <;> omega
    have em := min3 (i := 3) (j := W) (l := H)
    generalize (if (H : Int) < (if (W : Int) < 3 then (W : Int) else 3) then (H : Int) else (if (W : Int) < 3 then (W : Int) else 3)) = M at *
    obtain ⟨d1, s1, g1, k1, b1⟩ := e_draw (n := n) (many := M) hb (by omega) hn
    obtain ⟨d2, s2, g2, k2, b2⟩ := e_draw (n := n) (many := 4) b1 (by omega) hn
    obtain ⟨d3, s3, g3, k3, b3⟩ := e_draw (n := n) (many := 2) b2 (by omega) hn
    have hnew : LT W H (x, 1 + d1, 1 + d2, d3) := ⟨⟨by simp only; omega, by simp only; omega, by simp only; omega⟩, by simp only; omega, by simp only; omega⟩
    obtain ⟨l', o', s', e, b', h1, h2⟩ := tl_loop B hn (xs := xs) (l := l ++ [(x, 1 + d1, 1 + d2, d3)]) (o := some (.val (.str x))) b3 (by rw [List.length_append]; simp; omega) (fun t ht => by
      rcases List.mem_append.mp ht with h | h
      · exact hl t h
      · rw [List.mem_singleton] at h; rw [h]; exact hnew)
    refine ⟨(x, 1 + d1, 1 + d2, d3) :: l', o', s', ?_, b', by rw [List.map_cons, h1], fun t ht => ?_⟩
    · have e1 : stepF (callF fs gs n) gs (.nm 3) bTl (.str x) (ET W H l o) s = .ok (.nx (ET W H (l ++ [(x, 1 + d1, 1 + d2, d3)]) (some (.val (.str x))))) s3 := by
        unfold stepF
        simp [bTl, ET, em, g1, g2, g3, borrows, isOwn, chg, hz', toolD]
      rw [List.map_cons, forF_cons, e1, nextL_nx, e, List.append_assoc]
      rfl
    · rcases List.mem_cons.mp ht with rfl | ht
      · exact hnew
      · exact h2 t ht
def Big (ts : List Tool) : Prop := ts.map (·.1) = (["big"] : List Str) ∨ ts.map (·.1) = (["big", "fine"] : List Str) ∨ ts.map (·.1) = (["big", "fine", "mid"] : List Str)
theorem e_ltools (B : BOk W H) (hb : Bx s) (hn : 3 ≤ n) : ∃ (ts : List Tool) (s' : Sto), callF fs gs n 32 [.loc 1, .tup [.int W, .int H]] s = .ok (.tup (ts.map toolD)) s' ∧ Bx s' ∧ Big ts ∧ ∀ t ∈ ts, LT W H t := by
  obtain ⟨m, rfl, hm⟩ := sc hn
  rw [call_at (f := c__law_tools) rfl rfl]
  obtain ⟨d, s1, e1, hd, hb1⟩ := e_draw (n := m) (many := 3) hb (by omega) hm
  have main : ∀ (l : List Str), l.length ≤ 10 → (evI (callF fs gs m) gs false (.seq (.slc (.tup (.c (.str "big") (.c (.str "fine") (.c (.str "mid") .nil)))) .n (.s (.bin .add (.int 1) (.call 27 (.c (.var 0) (.c (.int 3) .nil))))))) (ET W H [] none) s = .ok (l.map D.str) s1) →
      ∃ (ts : List Tool) (s' : Sto), retOf (execs (callF fs gs m) gs c__law_tools.body (startE c__law_tools.N.length [.loc 1, .tup [.int W, .int H]]) s) = .ok (.tup (ts.map toolD)) s' ∧ Bx s' ∧ ts.map (·.1) = l ∧ ∀ t ∈ ts, LT W H t := by
    intro l hz he
    obtain ⟨L, o', s', e2, b', h1, h2⟩ := tl_loop (n := m) B hm (xs := l) (l := []) (o := none) hb1 (by simp; omega) (fun t h => by cases h)
    refine ⟨L, s', ?_, b', h1, h2⟩
    have eb : c__law_tools.body = .c (.own 2 (.dsp .nil)) (.c (.for (.nm 3) (.seq (.slc (.tup (.c (.str "big") (.c (.str "fine") (.c (.str "mid") .nil)))) .n (.s (.bin .add (.int 1) (.call 27 (.c (.var 0) (.c (.int 3) .nil))))))) bTl) (.c (.ret (.blt .tup (.c (.var 2) .nil))) .nil)) := rfl
    have es : startE c__law_tools.N.length [.loc 1, .tup [.int W, .int H]] = [some (SV.val (.loc 1)), some (.val (.tup [.int W, .int H])), none, none] := rfl
    have x1 : exec (callF fs gs m) gs (.own 2 (.dsp .nil)) [some (SV.val (.loc 1)), some (.val (.tup [.int W, .int H])), none, none] s = .ok (.nx (ET W H [] none)) s := by simp [ET]
    have e4 : frzI (ET W H [] none) (.seq (.slc (.tup (.c (.str "big") (.c (.str "fine") (.c (.str "mid") .nil)))) .n (.s (.bin .add (.int 1) (.call 27 (.c (.var 0) (.c (.int 3) .nil))))))) = ET W H [] none := rfl
    rw [eb, es, execs_c, x1, nextF_nx, execs_c, exec_for, e4, he, ok_bind, e2, nextF_nx]
    simp [ET, frzR]
  rcases (by omega : d = 0 ∨ d = 1 ∨ d = 2) with rfl | rfl | rfl
  · obtain ⟨ts, s', a, b, c, d⟩ := main ["big"] (by simp) (by simp [ET, e1, borrows, isOwn, items?])
    exact ⟨ts, s', a, b, .inl c, d⟩
  · obtain ⟨ts, s', a, b, c, d⟩ := main ["big", "fine"] (by simp) (by simp [ET, e1, borrows, isOwn, items?])
    exact ⟨ts, s', a, b, .inr (.inl c), d⟩
  · obtain ⟨ts, s', a, b, c, d⟩ := main ["big", "fine", "mid"] (by simp) (by simp [ET, e1, borrows, isOwn, items?])
    exact ⟨ts, s', a, b, .inr (.inr c), d⟩
theorem find_nodup : ∀ {ts : List Tool}, (ts.map (·.1)).Nodup → ∀ t ∈ ts, ts.find? (fun u => u.1 = t.1) = some t
  | [], _, t, h => by cases h
  | u :: ts, hn, t, h => by
    rw [List.map_cons, List.nodup_cons] at hn
    rcases List.mem_cons.mp h with rfl | h
    · simp
    · have hne : u.1 ≠ t.1 := fun e => hn.1 (List.mem_map.mpr ⟨t, h, e.symm⟩)
      have := find_nodup hn.2 t h
      simp [hne, this]
theorem nodup3 : (["big", "fine", "mid"] : List Str).Nodup := by decide +kernel
theorem Big.tl (hB : Big ts) (B : BOk W H) (h : ∀ t ∈ ts, LT W H t) : TL W H ts := by
  have hsub : (ts.map (·.1)).Sublist (["big", "fine", "mid"] : List Str) := by
    rcases hB with e | e | e <;> rw [e]
    · exact (List.Sublist.refl _).cons₂ _ |>.trans (List.Sublist.cons₂ _ ((List.nil_sublist _)))
    · exact List.Sublist.cons₂ _ (List.Sublist.cons₂ _ (List.nil_sublist _))
    · exact List.Sublist.refl _
  have hl : ts.length ≤ 3 := by
    have := hsub.length_le
    simpa using this
  refine ⟨B, fun t ht => (h t ht).ok, fun t ht => ?_, hl, find_nodup (hsub.nodup nodup3)⟩
  have : t.1 ∈ (["big", "fine", "mid"] : List Str) := hsub.subset (List.mem_map.mpr ⟨t, ht, rfl⟩)
  unfold NmP
  simp only [List.mem_cons, List.not_mem_nil, or_false] at this
  rcases this with e | e | e <;> rw [e] <;> decide +kernel
end
end PV.K81

set_option maxRecDepth 100000
set_option maxHeartbeats 4000000
namespace PV
open PySem
abbrev At (env : Env) (k : Nat) (d : D) : Prop := env[k]? = some (some (.val d))
theorem atS {env : Env} {k : Nat} {d : D} (h : k < env.length) : At (env.set k (some (.val d))) k d := List.getElem?_set_self h
theorem At.ne {env : Env} {k j : Nat} {d : D} {x : Option SV} (h : At env k d) (hn : j ≠ k) : At (env.set j x) k d := by unfold At; rw [List.getElem?_set_ne hn]; exact h
theorem frzI_at {env : Env} {k : Nat} {d : D} (h : At env k d) : frzI env (.seq (.var k)) = env := by
  show frzE env (.var k) = env
  unfold frzE
  show frzAt env k = env
  rw [frzAt_eq, h]; rfl
theorem At.no {env : Env} {k : Nat} {d : D} (h : At env k d) : At (noOwn env) k d := by unfold At noOwn; rw [List.getElem?_map, h]; rfl
theorem loop_mem {α : Type} {f : D → Env → Sto → Out Flow} {mk : α → D} {I : Env → Sto → Prop} : ∀ {xs : List α} {env : Env} {s : Sto}, I env s → (∀ x, x ∈ xs → ∀ env s, I env s → ∃ env' s', f (mk x) env s = .ok (.nx env') s' ∧ I env' s') → ∃ env' s', forF f (xs.map mk) env s = .ok (.nx env') s' ∧ I env' s'
  | [], env, s, hI, _ => ⟨env, s, rfl, hI⟩
  | x :: xs, env, s, hI, h => by
    obtain ⟨env1, s1, e1, I1⟩ := h x List.mem_cons_self env s hI
    obtain ⟨env2, s2, e2, I2⟩ := loop_mem (mk := mk) (xs := xs) I1 fun y hy => h y (List.mem_cons_of_mem _ hy)
    exact ⟨env2, s2, by rw [List.map_cons, forF_cons, e1, nextL_nx, e2], I2⟩
end PV
namespace PV.K81
open PySem PV
section
variable {n : Nat} {s : Sto} {W H : Nat} {f g h : F2} {t : Tool} {ts : List Tool} {env : Env}
theorem cst_bD {c : Int} : D.tup (List.replicate H (.tup (List.replicate W (.int c)))) = bD W H (fun _ _ => c) := by
  unfold bD rowD
  rw [List.map_const', List.map_const', List.length_range, List.length_range]
end
end PV.K81

set_option maxRecDepth 100000
set_option maxHeartbeats 4000000
namespace PV.K81
open PySem PV
section
variable {n : Nat} {s : Sto} {W H : Nat} {f g h : F2} {t : Tool} {ts : List Tool} {env : Env} {N : Nat}
theorem Bx.app {o : SO} (h : Bx s) : Bx (s ++ [o]) := by
  obtain ⟨cs, v, t, r, rfl⟩ := h
  exact ⟨cs, v, t, r ++ [o], rfl⟩
theorem sim_up : ∀ {k j : Nat} {d : D}, k ≤ j → Sim k d → Sim j d
  | _, _, _, _, .non => .non
  | _, _, _, _, .int => .int
  | _, _, _, _, .bl => .bl
  | _, _, _, _, .str h => .str h
  | k + 1, j + 1, _, h, .tup h1 h2 => .tup h1 fun d hd => sim_up (by omega) (h2 d hd)
  | k + 1, j + 1, _, h, .lst h1 h2 => .lst h1 fun d hd => sim_up (by omega) (h2 d hd)
theorem slc_take {l : List Stk} {d : Int} (h : 0 ≤ d ∧ d ≤ l.length) : slcD (.tup (l.map skD)) none (some d) = some (.tup ((l.take d.toNat).map skD)) := by
  show some (D.tup (cut (l.map skD) none (some d))) = _
  rw [cut_map]
  congr 3
  have hd : ¬ d < 0 := by omega
  unfold cut HT.sIx
  simp [hd]
end
end PV.K81

set_option maxRecDepth 100000
set_option maxHeartbeats 4000000
namespace PV.K81
open PySem PV
section
variable {n : Nat} {s : Sto} {W H : Nat} {f g h : F2} {t : Tool} {ts : List Tool} {env : Env} {N : Nat}
theorem ir_get {lo hi j : Int} (h : lo ≤ j ∧ j < hi) : (ir lo hi)[(j - lo).toNat]? = some j := by
  unfold ir
  rw [List.getElem?_map, List.getElem?_range (by omega)]
  show some (lo + (((j - lo).toNat : Nat) : Int)) = some j
  congr 1; omega
theorem ir_get0 {hi j : Int} (h : 0 ≤ j ∧ j < hi) : (ir 0 hi)[j.toNat]? = some j := by
  have := ir_get (lo := 0) h
  rwa [Int.sub_zero] at this
end
end PV.K81

set_option maxRecDepth 100000
set_option maxHeartbeats 4000000
namespace PV.K81
open PySem PV
section
variable {n : Nat} {s : Sto} {W H : Nat} {f g h : F2} {t : Tool} {ts us : List Tool} {env : Env} {N : Nat}
theorem nat_in {P : Int → Int → Prop} (h : ∀ a b : Nat, a < W → b < H → P a b) : ∀ a b, InB W H (a, b) → P a b := fun a b hi => by
  have hi : (0 ≤ a ∧ a < W) ∧ 0 ≤ b ∧ b < H := hi
  obtain ⟨a', rfl⟩ : ∃ a' : Nat, a = a' := ⟨a.toNat, by omega⟩
  obtain ⟨b', rfl⟩ : ∃ b' : Nat, b = b' := ⟨b.toNat, by omega⟩
  exact h a' b' (by omega) (by omega)
end
end PV.K81

set_option maxRecDepth 100000
set_option maxHeartbeats 4000000
namespace PV.K81
open PySem PV
section
variable {n : Nat} {s : Sto} {env : Env}
theorem bD_cg {W H : Nat} {f g : F2} (h : ∀ a b : Nat, a < W → b < H → f a b = g a b) : bD W H f = bD W H g := by
  unfold bD
  congr 1
  refine List.map_congr_left fun b hb => ?_
  unfold rowD
  congr 1
  refine List.map_congr_left fun a ha => ?_
  rw [h a b (List.mem_range.mp ha) (List.mem_range.mp hb)]
variable {F : F2}
end
end PV.K81
set_option maxRecDepth 100000
set_option maxHeartbeats 4000000
namespace PV.K81
open PySem PV
section
variable {W H : Nat} {sd : Int} {p q : P3}
theorem absI_s (a : Int) : (0 ≤ a ∧ absI a = a) ∨ (a < 0 ∧ absI a = -a) := by
  by_cases h : a < 0
  · exact .inr ⟨h, absI_n h⟩
  · exact .inl ⟨by omega, absI_p (by omega)⟩
theorem mvb {c c' j : Int} (h : 0 ≤ j ∧ j ≤ absI (c' - c)) : (c ≤ mv c c' j ∧ mv c c' j ≤ c') ∨ (c' ≤ mv c c' j ∧ mv c c' j ≤ c) := by
  have h1 := mv_s c c' j
  have h2 := absI_s (c' - c)
  omega
theorem mv_self {c j : Int} : mv c c j = c := mv_eq rfl
theorem len_ax {ax : Int} (hax : ax = 0 ∨ ax = 1 ∨ ax = 2) : len3 p (set3 ax p q) = absI (pk3 ax q - pk3 ax p) := by
  have e0 : ∀ c : Int, absI (c - c) = 0 := fun c => by rw [absI_p (by omega)]; omega
  have e1 : ∀ c d : Int, absI (c - d) = absI (d - c) := fun c d => by
    have := absI_s (c - d); have := absI_s (d - c); omega
  rcases hax with rfl | rfl | rfl
  · show steps p.1 p.2.1 p.2.2 q.1 p.2.1 p.2.2 = absI (q.1 - p.1)
    unfold steps
    have := e1 q.1 p.1; have := e0 p.2.1; have := e0 p.2.2; omega
  · show steps p.1 p.2.1 p.2.2 p.1 q.2.1 p.2.2 = absI (q.2.1 - p.2.1)
    unfold steps
    have := e1 q.2.1 p.2.1; have := e0 p.1; have := e0 p.2.2; omega
  · show steps p.1 p.2.1 p.2.2 p.1 p.2.1 q.2.2 = absI (q.2.2 - p.2.2)
    unfold steps
    have := e1 q.2.2 p.2.2; have := e0 p.1; have := e0 p.2.1; omega
theorem seg_fit {ax : Int} (hax : ax = 0 ∨ ax = 1 ∨ ax = 2) (hp : fit W H sd p) (hq : fit W H sd q) : ∀ b ∈ segU p (set3 ax p q), fit W H sd b := fun b hb => by
  unfold segU at hb
  obtain ⟨j, hj, rfl⟩ := List.mem_map.mp hb
  rw [mem_ir, len_ax hax] at hj
  unfold fit at hp hq ⊢
  rcases hax with rfl | rfl | rfl
  · have e : at3 p (set3 0 p q) j = (mv p.1 q.1 j, mv p.2.1 p.2.1 j, mv p.2.2 p.2.2 j) := rfl
    have hj : 1 ≤ j ∧ j < absI (q.1 - p.1) + 1 := hj
    rw [e, mv_self, mv_self]
    have := mvb (c := p.1) (c' := q.1) (j := j) (by omega)
    simp only
    omega
  · have e : at3 p (set3 1 p q) j = (mv p.1 p.1 j, mv p.2.1 q.2.1 j, mv p.2.2 p.2.2 j) := rfl
    have hj : 1 ≤ j ∧ j < absI (q.2.1 - p.2.1) + 1 := hj
    rw [e, mv_self, mv_self]
    have := mvb (c := p.2.1) (c' := q.2.1) (j := j) (by omega)
    simp only
    omega
  · have e : at3 p (set3 2 p q) j = (mv p.1 p.1 j, mv p.2.1 p.2.1 j, mv p.2.2 q.2.2 j) := rfl
    have hj : 1 ≤ j ∧ j < absI (q.2.2 - p.2.2) + 1 := hj
    rw [e, mv_self, mv_self]
    have := mvb (c := p.2.2) (c' := q.2.2) (j := j) (by omega)
    simp only
    omega
theorem set_fit {ax : Int} (hax : ax = 0 ∨ ax = 1) (hp : fit W H sd p) (hq : fit W H sd q) : fit W H sd (set3 ax p q) := by
  unfold fit at hp hq ⊢
  rcases hax with rfl | rfl
  · show (0 ≤ q.1 ∧ q.1 ≤ W - sd) ∧ (0 ≤ p.2.1 ∧ p.2.1 ≤ H - sd) ∧ 0 ≤ p.2.2 ∧ p.2.2 ≤ 12
    omega
  · show (0 ≤ p.1 ∧ p.1 ≤ W - sd) ∧ (0 ≤ q.2.1 ∧ q.2.1 ≤ H - sd) ∧ 0 ≤ p.2.2 ∧ p.2.2 ≤ 12
    omega
theorem set2 : set3 2 (set3 1 (set3 0 p q) q) q = q := by
  show (q.1, q.2.1, q.2.2) = q
  rfl
theorem us_fit (hp : fit W H sd p) (hq : fit W H sd q) : ∀ b ∈ usL p q, fit W H sd b := fun b hb => by
  unfold usL at hb
  have f1 := set_fit (ax := 0) (.inl rfl) hp hq
  have f2 := set_fit (ax := 1) (.inr rfl) f1 hq
  rcases List.mem_append.mp hb with h | h
  · exact seg_fit (.inl rfl) hp hq b h
  · rcases List.mem_append.mp h with h | h
    · exact seg_fit (.inr (.inl rfl)) f1 hq b h
    · rw [← set2 (p := p) (q := q)] at h
      have e : set3 2 (set3 1 (set3 0 p q) q) q = q := set2
      rw [e] at h
      have h' : b ∈ segU (set3 1 (set3 0 p q) q) (set3 2 (set3 1 (set3 0 p q) q) q) := by rw [e]; exact h
      exact seg_fit (.inr (.inr rfl)) f2 hq b h'
theorem lastD_app {α : Type} {a : α} : ∀ {l m : List α}, (l ++ m).getLastD a = m.getLastD (l.getLastD a) := by
  intro l m
  cases m with
  | nil => simp
  | cons x m => 
    rw [List.getLastD_eq_getLast?, List.getLastD_eq_getLast?, List.getLast?_append]
    simp
theorem seg_last {ax : Int} (hax : ax = 0 ∨ ax = 1 ∨ ax = 2) : (segU p (set3 ax p q)).getLastD p = set3 ax p q := by
  unfold segU
  by_cases c : pk3 ax p = pk3 ax q
  · have e : len3 p (set3 ax p q) = 0 := by
      rw [len_ax hax, c, absI_p (by omega)]; omega
    rw [e, ir_nil (by omega)]
    show p = set3 ax p q
    rcases hax with rfl | rfl | rfl
    · have c : p.1 = q.1 := c
      show p = (q.1, p.2.1, p.2.2); rw [← c]
    · have c : p.2.1 = q.2.1 := c
      show p = (p.1, q.2.1, p.2.2); rw [← c]
    · have c : p.2.2 = q.2.2 := c
      show p = (p.1, p.2.1, q.2.2); rw [← c]
  · have h := (at_end hax c).1
    have hl : 1 ≤ len3 p (set3 ax p q) := by
      rw [len_ax hax]
      have := absI_s (pk3 ax q - pk3 ax p)
      omega
    have e : ir 1 (len3 p (set3 ax p q) + 1) = ir 1 (len3 p (set3 ax p q)) ++ [len3 p (set3 ax p q)] := by
      unfold ir
      have h1 : (len3 p (set3 ax p q) + 1 - 1).toNat = (len3 p (set3 ax p q) - 1).toNat + 1 := by omega
      rw [h1, List.range_succ, List.map_append]
      congr 1
      simp only [List.map_cons, List.map_nil]
      congr 1
      omega
    rw [e, List.map_append, List.map_cons, List.map_nil, List.getLastD_concat, h]
theorem us_last : (usL p q).getLastD p = q := by
  unfold usL
  rw [lastD_app, lastD_app, seg_last (.inl rfl), seg_last (.inr (.inl rfl))]
  have e : set3 2 (set3 1 (set3 0 p q) q) q = q := set2
  have := seg_last (p := set3 1 (set3 0 p q) q) (q := q) (ax := 2) (.inr (.inr rfl))
  rwa [e] at this
end
/-! ### unit steps of a plan, what they leave, what their trace tells -/
abbrev Un := Int × Tool × Bool × P3
def unD (u : Un) : D := .tup [.int u.1, toolD u.2.1, kindD u.2.2.1, p3D u.2.2.2]
def unitsL (ts : List Tool) : List Mv → Int → Option Tool → P3 → List Un
  | [], _, _, _ => []
  | .tool x :: r, j, _, _ => unitsL ts r (j + 1) (ts.find? fun t => t.1 = x) (0, 0, 12)
  | .way k q :: r, j, some t, p => (usL p q).map (fun b => (j, t, k, b)) ++ unitsL ts r (j + 1) (some t) q
  | .way _ q :: r, j, none, _ => unitsL ts r (j + 1) none q
def POk (W H : Nat) (ts : List Tool) : List Mv → Option Tool → Prop
  | [], _ => True
  | .tool x :: r, _ => (∃ t, t ∈ ts ∧ t.1 = x) ∧ POk W H ts r (ts.find? fun t => t.1 = x)
  | .way _ q :: r, some t => fit W H t.2.1 q ∧ POk W H ts r (some t)
  | .way _ _ :: _, none => False
def runU (W H : Nat) : List Un → F2 → Option F2
  | [], f => some f
  | u :: r, f => if Vi u.2.2.1 u.2.1 W H f u.2.2.2 0 then none else runU W H r (cutf u.2.1.2.1 u.2.2.2.1 u.2.2.2.2.1 (u.2.2.2.2.2 + 0) f)
/-- a step that may be walked -/
structure UOk (W H : Nat) (u : Un) : Prop where
  T : TOk W H u.2.1
  fit : fit W H u.2.1.2.1 u.2.2.2
def bn (u : Un) : List (Int × Int) := benF u.2.1.2.1 u.2.2.2.1 u.2.2.2.2.1
def wd (W H : Nat) (u : Un) : List (Int × Int) := bn u ++ abF u.2.1.2.1 u.2.1.2.2.2 u.2.2.2.1 u.2.2.2.2.1 W H
def zu (u : Un) : Int := u.2.2.2.2.2
def low (L : List (Int × Int)) (lim : Int) (f d : F2) : F2 := fun a b => if (a, b) ∈ L ∧ lim < d a b then mn (f a b) lim else f a b
def tr1 (W H : Nat) (u : Un) (m : F2 × F2) : F2 × F2 :=
  (if u.2.2.1 = true then low (bn u) (zu u) (low (wd W H u) (zu u + u.2.1.2.2.1) m.1 m.2) m.2 else low (wd W H u) (zu u + u.2.1.2.2.1) m.1 m.2,
   cutf u.2.1.2.1 u.2.2.2.1 u.2.2.2.2.1 (zu u) m.2)
def trU (W H : Nat) (us : List Un) (m : F2 × F2) : F2 × F2 := us.foldl (fun m u => tr1 W H u m) m
def c12 : F2 := fun _ _ => 12
section
variable {W H : Nat} {u : Un} {f f0 m d : F2}
theorem low_le' {L : List (Int × Int)} {lim a b v : Int} : v ≤ low L lim m d a b ↔ v ≤ m a b ∧ ((a, b) ∈ L → lim < d a b → v ≤ lim) := by
  unfold low
  have h := mn_s (m a b) lim
  by_cases c : (a, b) ∈ L ∧ lim < d a b
  · rw [if_pos c]
    refine ⟨fun q => ⟨by omega, fun _ _ => by omega⟩, fun q => ?_⟩
    have := q.2 c.1 c.2
    have := q.1
    omega
  · rw [if_neg c]
    exact ⟨fun q => ⟨q, fun h1 h2 => absurd ⟨h1, h2⟩ c⟩, fun q => q.1⟩
theorem wd_in (U : UOk W H u) (BW : 0 < W ∧ W ≤ 10) (BH : 0 < H ∧ H ≤ 10) : ∀ p ∈ wd W H u, InB W H p := fun p hp => by
  have h1 := U.fit
  unfold PV.K81.fit at h1
  have h2 := U.T.sd
  rcases List.mem_append.mp hp with h | h
  · exact ben_in (W := W) (H := H) (by omega) (by omega) (by omega) BW BH p h
  · exact ab_in p h
theorem vi_iff (U : UOk W H u) : ¬ Vi u.2.2.1 u.2.1 W H f u.2.2.2 0 ↔ (∀ p ∈ wd W H u, f p.1 p.2 ≤ zu u + u.2.1.2.2.1) ∧ (u.2.2.1 = true → ∀ p ∈ bn u, f p.1 p.2 ≤ zu u) := by
  have h1 := U.fit
  unfold PV.K81.fit at h1
  have h2 := U.T.sh
  unfold Vi
  rw [Int.add_zero, not_or]
  show ¬ (u.2.2.1 = true ∧ ¬ gr f (bn u) ≤ zu u) ∧ ¬ ¬ gr f (wd W H u) ≤ zu u + u.2.1.2.2.1 ↔ _
  have hz : 0 ≤ zu u := h1.2.2.1
  rw [gr_le, gr_le, Classical.not_not]
  refine ⟨fun q => ⟨q.2.2, fun hk p hp => ?_⟩, fun q => ⟨fun z => z.2 ⟨hz, q.2 z.1⟩, by omega, q.1⟩⟩
  by_cases c : 0 ≤ zu u ∧ ∀ p ∈ bn u, f p.1 p.2 ≤ zu u
  · exact c.2 p hp
  · exact absurd ⟨hk, c⟩ q.1
theorem cut_mn {sd x y z : Int} {a b : Int} (h : f a b = mn (f0 a b) (d a b)) : cutf sd x y z f a b = mn (f0 a b) (cutf sd x y z d a b) := by
  by_cases c : InS sd x y a b
  · rw [cut_in c, cut_in c, h]
    have := mn_s (mn (f0 a b) (d a b)) z
    have := mn_s (f0 a b) (d a b)
    have := mn_s (f0 a b) (mn (d a b) z)
    have := mn_s (d a b) z
    omega
  · rw [cut_out c, cut_out c, h]
/-- THE LAW of traces -/
theorem run_tr (BW : 0 < W ∧ W ≤ 10) (BH : 0 < H ∧ H ≤ 10) : ∀ {us : List Un} {f f0 m d : F2}, (∀ u ∈ us, UOk W H u) → (∀ a b, InB W H (a, b) → f a b = mn (f0 a b) (d a b)) →
    (((∀ a b, InB W H (a, b) → f0 a b ≤ m a b) ∧ ∃ h, runU W H us f = some h) ↔ ∀ a b, InB W H (a, b) → f0 a b ≤ (trU W H us (m, d)).1 a b) ∧
    ∀ h, runU W H us f = some h → ∀ a b, InB W H (a, b) → h a b = mn (f0 a b) ((trU W H us (m, d)).2 a b)
  | [], f, f0, m, d, _, hf => ⟨⟨fun q => q.1, fun q => ⟨q, f, rfl⟩⟩, fun h e a b hi => by
      have e : f = h := Option.some.inj e
      rw [← e]; exact hf a b hi⟩
  | u :: us, f, f0, m, d, hU, hf => by
    have U := hU u List.mem_cons_self
    have hin := wd_in U BW BH
    have hinb : ∀ p ∈ bn u, InB W H p := fun p hp => hin p (List.mem_append_left _ hp)
    have e1 : trU W H (u :: us) (m, d) = trU W H us (tr1 W H u (m, d)) := rfl
    have hcut : ∀ a b, InB W H (a, b) → cutf u.2.1.2.1 u.2.2.2.1 u.2.2.2.2.1 (u.2.2.2.2.2 + 0) f a b = mn (f0 a b) (cutf u.2.1.2.1 u.2.2.2.1 u.2.2.2.2.1 (zu u) d a b) := fun a b hi => by
      rw [Int.add_zero]
      exact cut_mn (hf a b hi)
    have key : (¬ Vi u.2.2.1 u.2.1 W H f u.2.2.2 0 ∧ ∀ a b, InB W H (a, b) → f0 a b ≤ m a b) ↔ ∀ a b, InB W H (a, b) → f0 a b ≤ (tr1 W H u (m, d)).1 a b := by
      rw [vi_iff U]
      have hm : ∀ a b (L : Int), InB W H (a, b) → (f a b ≤ L ↔ (L < d a b → f0 a b ≤ L)) := fun a b L hi => by
        rw [hf a b hi]
        have := mn_s (f0 a b) (d a b)
        constructor
        · intro q r; omega
        · intro q
          by_cases r : L < d a b
          · have := q r; omega
          · omega
      unfold tr1
      constructor
      · rintro ⟨⟨q1, q2⟩, q3⟩ a b hi
        have w : f0 a b ≤ low (wd W H u) (zu u + u.2.1.2.2.1) m d a b := low_le'.mpr ⟨q3 a b hi, fun h1 h2 => (hm a b _ hi).mp (q1 (a, b) h1) h2⟩
        by_cases c : u.2.2.1 = true
        · rw [if_pos c]
          exact low_le'.mpr ⟨w, fun h1 h2 => (hm a b _ hi).mp (q2 c (a, b) h1) h2⟩
        · rw [if_neg c]; exact w
      · intro q
        have q' : ∀ a b, InB W H (a, b) → f0 a b ≤ low (wd W H u) (zu u + u.2.1.2.2.1) m d a b := fun a b hi => by
          have := q a b hi
          by_cases c : u.2.2.1 = true
          · rw [if_pos c] at this; exact (low_le'.mp this).1
          · rw [if_neg c] at this; exact this
        refine ⟨⟨fun p hp => (hm p.1 p.2 _ (hin p hp)).mpr fun h2 => (low_le'.mp (q' p.1 p.2 (hin p hp))).2 hp h2, fun c p hp => ?_⟩, fun a b hi => (low_le'.mp (q' a b hi)).1⟩
        have := q p.1 p.2 (hinb p hp)
        rw [if_pos c] at this
        exact (hm p.1 p.2 _ (hinb p hp)).mpr fun h2 => (low_le'.mp this).2 hp h2
    rw [e1]
    obtain ⟨i1, i2⟩ := run_tr BW BH (us := us) (f := cutf u.2.1.2.1 u.2.2.2.1 u.2.2.2.2.1 (u.2.2.2.2.2 + 0) f) (f0 := f0) (m := (tr1 W H u (m, d)).1) (d := cutf u.2.1.2.1 u.2.2.2.1 u.2.2.2.2.1 (zu u) d) (fun v hv => hU v (List.mem_cons_of_mem _ hv)) hcut
    have e2 : tr1 W H u (m, d) = ((tr1 W H u (m, d)).1, cutf u.2.1.2.1 u.2.2.2.1 u.2.2.2.2.1 (zu u) d) := rfl
    rw [e2]
    by_cases c : Vi u.2.2.1 u.2.1 W H f u.2.2.2 0
    · have er : runU W H (u :: us) f = none := if_pos c
      rw [er]
      refine ⟨⟨fun q => ?_, fun q => ?_⟩, fun h e => by cases e⟩
      · obtain ⟨_, h, e⟩ := q; cases e
      · exact absurd c (key.mpr (i1.mpr q).1).1
    · have er : runU W H (u :: us) f = runU W H us (cutf u.2.1.2.1 u.2.2.2.1 u.2.2.2.2.1 (u.2.2.2.2.2 + 0) f) := if_neg c
      rw [er]
      refine ⟨⟨fun q => i1.mp ⟨key.mp ⟨c, q.1⟩, q.2⟩, fun q => ⟨(key.mpr (i1.mpr q).1).2, (i1.mpr q).2⟩⟩, i2⟩
end
end PV.K81
set_option maxRecDepth 100000
set_option maxHeartbeats 4000000
namespace PV
open PySem
theorem bools_map {l : List Bool} : bools? (l.map D.bl) = some l := by
  induction l with
  | nil => rfl
  | cons x l ih =>
    show (bools? (l.map D.bl)).map (x :: ·) = _
    rw [ih]; rfl
theorem all_bl {l : List Bool} : bltD .all [.lst (l.map D.bl)] = some (.bl (l.all id)) := by
  show (bools? (l.map D.bl)).map _ = _
  rw [bools_map]; rfl
theorem any_bl {l : List Bool} : bltD .any [.lst (l.map D.bl)] = some (.bl (l.any id)) := by
  show (bools? (l.map D.bl)).map _ = _
  rw [bools_map]; rfl
end PV
namespace PV.K81
open PySem PV
section
variable {n : Nat} {s : Sto} {W H : Nat} {f g h m d : F2} {t : Tool} {ts : List Tool}
/-- the store grows at its end -/
def Gr (s s' : Sto) : Prop := ∃ z, s' = s ++ z
theorem Gr.refl : Gr s s := ⟨[], by simp⟩
theorem Gr.trans {s1 s2 s3 : Sto} (a : Gr s1 s2) (b : Gr s2 s3) : Gr s1 s3 := by
  obtain ⟨z, rfl⟩ := a
  obtain ⟨y, rfl⟩ := b
  exact ⟨z ++ y, by rw [List.append_assoc]⟩
theorem Gr.bx {s s' : Sto} (a : Gr s s') (h : Bx s) : Bx s' := by
  obtain ⟨z, rfl⟩ := a
  obtain ⟨cs, v, t, r, rfl⟩ := h
  exact ⟨cs, v, t, r ++ z, rfl⟩
theorem e_level {c : Int} (B : BOk W H) (hn : 1 ≤ n) : callF fs gs n 3 [.tup [.int W, .int H], .int c] s = .ok (bD W H fun _ _ => c) s := by
  obtain ⟨k, rfl, hk⟩ := sc hn
  rw [call_at (f := c_level_block) rfl rfl]
  have hW := B.W
  have hH := B.H
  have m1 := mul_tup (x := .int c) (k := W) (by omega)
  have m2 := mul_tup (x := .tup (List.replicate W (.int c))) (k := H) (by omega)
  have hc := cst_bD (W := W) (H := H) (c := c)
  generalize bD W H (fun _ _ => c) = F at hc
  simp [c_level_block, startE, List.replicate, frzR, m1, m2, hc]
def lsF (f g : F2) : F2 := fun a b => mn (f a b) (g a b)
theorem e_least (B : BOk W H) (hn : 1 ≤ n) : callF fs gs n 5 [bD W H f, bD W H g] s = .ok (bD W H (lsF f g)) s := by
  obtain ⟨k, rfl, hk⟩ := sc hn
  rw [call_at (f := c_least_of) rfl rfl]
  have hW := B.W
  have hH := B.H
  have inner : ∀ (b : Nat) env, env = [some (SV.val (bD W H f)), some (.val (bD W H g)), some (.val (rowD W f b)), some (.val (rowD W g b)), none, none] →
      evF (callF fs gs k) gs (.cp1 (.blt .min (.c (.var 4) (.c (.var 5) .nil))) (.tp (.c (.nm 4) (.c (.nm 5) .nil))) (.zip (.var 2) (.var 3)) .n [4, 5]) env s = .ok ((List.range W).map fun (a : Nat) => D.int (lsF f g a b)) s := by
    rintro b env rfl
    exact cp1_map (xs := List.range W) (mk := fun (a : Nat) => D.tup [.int (f a b), .int (g a b)]) (g := fun (a : Nat) => D.int (lsF f g a b)) (by simp [zip_row]) (fun a ha => ⟨_, rfl, by simp [noOwn, wipeE, lsF]⟩) (by rw [List.length_range]; show _ ≤ 16777216; omega)
  have outer : ∀ env, env = [some (SV.val (bD W H f)), some (.val (bD W H g)), none, none, none, none] →
      evF (callF fs gs k) gs (.cp1 (.blt .tup (.c (.fz (.cp1 (.blt .min (.c (.var 4) (.c (.var 5) .nil))) (.tp (.c (.nm 4) (.c (.nm 5) .nil))) (.zip (.var 2) (.var 3)) .n [4, 5])) .nil)) (.tp (.c (.nm 2) (.c (.nm 3) .nil))) (.zip (.var 0) (.var 1)) .n [2, 3]) env s = .ok ((List.range H).map (rowD W (lsF f g))) s := by
    rintro env rfl
    exact cp1_map (xs := List.range H) (mk := fun (b : Nat) => D.tup [rowD W f b, rowD W g b]) (g := rowD W (lsF f g)) (by simp [zip_bD]) (fun b hb => ⟨_, rfl, by
      have e := inner b _ rfl
      simp [noOwn, wipeE, e]
      rfl⟩) (by rw [List.length_range]; show _ ≤ 16777216; omega)
  have e1 := outer _ rfl
  have e2 : D.tup ((List.range H).map (rowD W (lsF f g))) = bD W H (lsF f g) := rfl
  simp [c_least_of, startE, List.replicate, frzR, e1, e2]
def leB (W H : Nat) (f g : F2) : Bool := (List.range H).all fun b => (List.range W).all fun a => decide (f a b ≤ g a b)
theorem leB_iff : leB W H f g = true ↔ ∀ a b, InB W H (a, b) → f a b ≤ g a b := by
  unfold leB
  simp only [List.all_eq_true, List.mem_range, decide_eq_true_eq]
  constructor
  · intro q a b hi
    have hi : (0 ≤ a ∧ a < W) ∧ 0 ≤ b ∧ b < H := hi
    have := q b.toNat (by omega) a.toNat (by omega)
    rwa [show ((a.toNat : Nat) : Int) = a from by omega, show ((b.toNat : Nat) : Int) = b from by omega] at this
  · intro q b hb a ha
    exact q a b ⟨⟨by show (0 : Int) ≤ (a : Int); omega, by show (a : Int) < W; omega⟩, by show (0 : Int) ≤ (b : Int); omega, by show (b : Int) < H; omega⟩
theorem e_below (B : BOk W H) (hn : 1 ≤ n) : callF fs gs n 4 [bD W H f, bD W H g] s = .ok (.bl (leB W H f g)) s := by
  obtain ⟨k, rfl, hk⟩ := sc hn
  rw [call_at (f := c_is_below) rfl rfl]
  have hW := B.W
  have hH := B.H
  have e : ∀ env, env = [some (SV.val (bD W H f)), some (.val (bD W H g)), none, none, none, none] →
      evF (callF fs gs k) gs (.cp2 (.cmp .le (.var 4) (.var 5)) (.tp (.c (.nm 2) (.c (.nm 3) .nil))) (.zip (.var 0) (.var 1)) .n (.tp (.c (.nm 4) (.c (.nm 5) .nil))) (.zip (.var 2) (.var 3)) .n [2, 3, 4, 5] [4, 5]) env s = .ok ((List.range H).flatMap fun (b : Nat) => (List.range W).map fun (a : Nat) => D.bl (decide (f a b ≤ g a b))) s := by
    rintro env rfl
    refine cp2_pure (xs := List.range H) (mk := fun (b : Nat) => D.tup [rowD W f b, rowD W g b]) (mk1 := fun (q : Nat × Nat) => D.tup [.int (f q.1 q.2), .int (g q.1 q.2)]) (ys := fun b => (List.range W).map fun a => (a, b)) (g := fun (b : Nat) (q : Nat × Nat) => D.bl (decide (f q.1 q.2 ≤ g q.1 q.2))) (by simp [zip_bD]) (fun b hb => ⟨_, rfl, ?_, fun y hy => ⟨_, rfl, ?_⟩⟩) ?_ |>.trans ?_
    · rw [List.map_map]
      simp [zip_row, noOwn, wipeE]
    · simp [noOwn, wipeE]
    · have := flatMap_le (l := List.range H) (g := fun (b : Nat) => ((List.range W).map fun (a : Nat) => (a, b)).map (fun (q : Nat × Nat) => D.bl (decide (f q.1 q.2 ≤ g q.1 q.2)))) (c := W) (fun b _ => by simp)
      rw [List.length_range] at this
      have h2 : H * W ≤ 10 * 10 := Nat.mul_le_mul hH.2 hW.2
      show _ ≤ 16777216
      omega
    · congr 1
      congr 1
      funext b
      rw [List.map_map]; rfl
  have e1 := e _ rfl
  have e2 : ((List.range H).flatMap fun (b : Nat) => (List.range W).map fun (a : Nat) => D.bl (decide (f a b ≤ g a b))) = ((List.range H).flatMap fun (b : Nat) => (List.range W).map fun (a : Nat) => decide (f a b ≤ g a b)).map D.bl := by
    rw [List.map_flatMap]
    congr 1
    funext b
    rw [List.map_map]; rfl
  have e3 : bltD .all [.lst (((List.range H).flatMap fun (b : Nat) => (List.range W).map fun (a : Nat) => decide (f a b ≤ g a b)).map D.bl)] = some (.bl (leB W H f g)) := by
    rw [all_bl]
    congr 2
    unfold leB
    rw [List.all_flatMap]
    congr 1
    funext b
    rw [List.all_map]; rfl
  rw [e2] at e1
  generalize (((List.range H).flatMap fun (b : Nat) => (List.range W).map fun (a : Nat) => decide (f a b ≤ g a b)).map D.bl) = Q at *
  simp [c_is_below, startE, List.replicate, frzR, e1, e3]
/-! ### rows that are changed -/
def rowL (W : Nat) (m : F2) (b : Nat) : List D := (List.range W).map fun (a : Nat) => D.int (m a b)
def rowsS (W H : Nat) (m : F2) : Sto := (List.range H).map fun b => SO.lst (rowL W m b)
def locs (k H : Nat) : List D := (List.range H).map fun b => D.loc (k + b)
theorem rows_get {b : Nat} (hb : b < H) : (s ++ rowsS W H m)[s.length + b]? = some (.lst (rowL W m b)) := by
  rw [List.getElem?_append_right (by omega), Nat.add_sub_cancel_left]
  unfold rowsS
  rw [List.getElem?_map, List.getElem?_range hb]; rfl
def put (m : F2) (x y v : Int) : F2 := fun a b => if a = x ∧ b = y then v else m a b
theorem row_put {x y : Nat} {v : Int} (hx : x < W) : (rowL W m y).set x (.int v) = rowL W (put m x y v) y := by
  apply List.ext_getElem?
  intro i
  unfold rowL
  rw [List.getElem?_set]
  by_cases c : x = i
  · subst c
    rw [if_pos rfl, if_pos (by simpa using hx), List.getElem?_map, List.getElem?_range hx]
    simp [put]
  · rw [if_neg c, List.getElem?_map, List.getElem?_map]
    by_cases hi : i < W
    · rw [List.getElem?_range hi]
      have : ¬ ((i : Int) = (x : Int)) := by omega
      simp [put, this]
    · rw [List.getElem?_eq_none (by simp; omega)]; rfl
theorem rows_put {x y : Nat} {v : Int} (hx : x < W) (hy : y < H) : (s ++ rowsS W H m).set (s.length + y) (.lst ((rowL W m y).set x (.int v))) = s ++ rowsS W H (put m x y v) := by
  rw [List.set_append, if_neg (by omega), Nat.add_sub_cancel_left, row_put hx]
  congr 1
  apply List.ext_getElem?
  intro i
  unfold rowsS
  rw [List.getElem?_set]
  by_cases c : y = i
  · subst c
    rw [if_pos rfl, if_pos (by simpa using hy), List.getElem?_map, List.getElem?_range hy]
    rfl
  · rw [if_neg c, List.getElem?_map, List.getElem?_map]
    by_cases hi : i < H
    · rw [List.getElem?_range hi]
      have : ∀ a : Nat, ¬ ((a : Int) = (x : Int) ∧ (i : Int) = (y : Int)) := fun a => by omega
      simp [rowL, put, this]
    · rw [List.getElem?_eq_none (by simp; omega)]; rfl
theorem idx_locs {k : Nat} {y : Int} (h : 0 ≤ y ∧ y < H) : idxD (.lst (locs k H)) (.int y) = some (.loc (k + y.toNat)) := by
  refine idx_lstI h.1 ?_
  unfold locs
  rw [List.getElem?_map, List.getElem?_range (by omega)]; rfl
theorem idx_rowL {b : Nat} {x : Int} (h : 0 ≤ x ∧ x < W) : idxD (.lst (rowL W m b)) (.int x) = some (.int (m x b)) := by
  refine idx_lstI h.1 ?_
  unfold rowL
  rw [List.getElem?_map, List.getElem?_range (by omega)]
  show some (D.int (m ((x.toNat : Nat) : Int) b)) = _
  rw [show ((x.toNat : Nat) : Int) = x from by omega]
def low1 (lim : Int) (d m : F2) (p : Int × Int) : F2 := if lim < d p.1 p.2 then put m p.1 p.2 (mn (m p.1 p.2) lim) else m
theorem low_fold {lim : Int} : ∀ {L : List (Int × Int)} {m : F2}, L.foldl (low1 lim d) m = low L lim m d
  | [], m => by
    funext a b
    show m a b = low [] lim m d a b
    unfold low
    simp
  | p :: L, m => by
    rw [List.foldl_cons, low_fold]
    funext a b
    unfold low low1
    have h1 := mn_s (m a b) lim
    by_cases c1 : (a, b) = p
    · obtain rfl : a = p.1 := by rw [← c1]
      obtain rfl : b = p.2 := by rw [← c1]
      by_cases c2 : lim < d p.1 p.2
      · have h2 := mn_s (mn (m p.1 p.2) lim) lim
        by_cases c3 : (p.1, p.2) ∈ L
        · simp [c2, c3, put]; omega
        · simp [c2, c3, put]
      · simp [c2]
    · have c4 : ¬ (a = p.1 ∧ b = p.2) := fun z => c1 (by rw [z.1, z.2])
      by_cases c2 : lim < d p.1 p.2
      · simp [c1, c2, put, c4]
      · simp [c1, c2]
def EW (W H : Nat) (m d : F2) (L : List (Int × Int)) (lim : Int) (k : Nat) (o5 o6 : Option SV) : Env := [some (.val (bD W H m)), some (.val (bD W H d)), some (.val (.lst (L.map pD))), some (.val (.int lim)), some (.val (.lst (locs k H))), o5, o6, none]
def bLo : Sms := (.c (.ite (.cmp .gt (.idx (.idx (.var 1) (.var 6)) (.var 5)) (.var 3)) (.c (.setE (.idx (.var 4) (.var 6)) (.var 5) (.blt .min (.c (.idx (.idx (.var 4) (.var 6)) (.var 5)) (.c (.var 3) .nil)))) .nil) .nil) .nil)
theorem lo_turn {m0 : F2} {L : List (Int × Int)} {lim : Int} {p : Int × Int} {o5 o6 : Option SV} (hp : InB W H p) :
    stepF (callF fs gs n) gs (.tp (.c (.nm 5) (.c (.nm 6) .nil))) bLo (pD p) (EW W H m0 d L lim s.length o5 o6) (s ++ rowsS W H m) = .ok (.nx (EW W H m0 d L lim s.length (some (.val (.int p.1))) (some (.val (.int p.2))))) (s ++ rowsS W H (low1 lim d m p)) := by
  have hp : (0 ≤ p.1 ∧ p.1 < W) ∧ 0 ≤ p.2 ∧ p.2 < H := hp
  have eb : bindT (.tp (.c (.nm 5) (.c (.nm 6) .nil))) (pD p) (EW W H m0 d L lim s.length o5 o6) = some (EW W H m0 d L lim s.length (some (.val (.int p.1))) (some (.val (.int p.2)))) := rfl
  have i1 := idx_bD (W := W) (H := H) (f := d) (y := p.2) hp.2
  have i2 := idx_row (W := W) (f := d) (x := p.1) (b := p.2.toNat) hp.1
  have ey : ((p.2.toNat : Nat) : Int) = p.2 := by omega
  rw [ey] at i2
  have i3 := idx_locs (H := H) (k := s.length) (y := p.2) hp.2
  have i4 := idx_rowL (W := W) (m := m) (x := p.1) (b := p.2.toNat) hp.1
  rw [ey] at i4
  have g1 := rows_get (s := s) (W := W) (H := H) (m := m) (b := p.2.toNat) (by omega)
  have ix : L2.ixN (rowL W m p.2.toNat).length p.1 = some p.1.toNat := by
    unfold L2.ixN rowL
    rw [List.length_map, List.length_range]
    have h1 : 0 ≤ p.1 := hp.1.1
    simp [h1]
    omega
  have e5 := rows_put (s := s) (W := W) (H := H) (m := m) (x := p.1.toNat) (y := p.2.toNat) (v := mn (m p.1 p.2) lim) (by omega) (by omega)
  have ex : ((p.1.toNat : Nat) : Int) = p.1 := by omega
  rw [ex, ey] at e5
  unfold stepF
  rw [eb]
  unfold low1
  by_cases c : lim < d p.1 p.2
  · rw [if_pos c]
    simp [bLo, EW, i1, i2, c, i3, i4, g1, setEo_lst ix, e5]
  · rw [if_neg c]
    simp [bLo, EW, i1, i2, c]
theorem lo_loop {m0 : F2} {L0 : List (Int × Int)} {lim : Int} : ∀ {L : List (Int × Int)} {m : F2} {o5 o6 : Option SV}, (∀ p ∈ L, InB W H p) →
    ∃ p5 p6, forF (stepF (callF fs gs n) gs (.tp (.c (.nm 5) (.c (.nm 6) .nil))) bLo) (L.map pD) (EW W H m0 d L0 lim s.length o5 o6) (s ++ rowsS W H m) = .ok (.nx (EW W H m0 d L0 lim s.length p5 p6)) (s ++ rowsS W H (L.foldl (low1 lim d) m))
  | [], m, o5, o6, _ => ⟨o5, o6, rfl⟩
  | p :: L, m, o5, o6, h => by
    obtain ⟨p5, p6, e⟩ := lo_loop (m0 := m0) (L0 := L0) (lim := lim) (L := L) (m := low1 lim d m p) (o5 := some (.val (.int p.1))) (o6 := some (.val (.int p.2))) fun q hq => h q (List.mem_cons_of_mem _ hq)
    exact ⟨p5, p6, by rw [List.map_cons, forF_cons, lo_turn (h p List.mem_cons_self), nextL_nx, e]; rfl⟩
theorem alloc_rows {cf : Nat → List D → Sto → Out D} {env : Env} : ∀ {xs : List Nat} {s : Sto}, flatF (turn1 cf gs (.alloc (.lof (.var 7))) (.nm 7) .n [7] env) (xs.map (rowD W m)) s = .ok ((List.range xs.length).map fun b => D.loc (s.length + b)) (s ++ xs.map fun b => SO.lst (rowL W m b)) ∨ env.length ≤ 7
  | [], s => .inl (by simp)
  | b :: xs, s => by
    by_cases hl : env.length ≤ 7
    · exact .inr hl
    · rcases alloc_rows (cf := cf) (env := env) (xs := xs) (s := s ++ [SO.lst (rowL W m b)]) with h | h
      · refine .inl ?_
        have e1 : turn1 cf gs (.alloc (.lof (.var 7))) (.nm 7) .n [7] env (rowD W m b) s = .ok [.loc s.length] (s ++ [SO.lst (rowL W m b)]) := by
          unfold turn1
          have g : ((env.set 7 none).set 7 (some (SV.val (rowD W m b))))[7]? = some (some (.val (rowD W m b))) := List.getElem?_set_self (by rw [List.length_set]; omega)
          simp only [bindT_nm, wipeE]
          generalize (env.set 7 none).set 7 (some (SV.val (rowD W m b))) = env2 at g
          have dr : ∀ s : Sto, deref s (rowD W m b) = .tup (rowL W m b) := fun _ => rfl
          simp [g, dr]
        rw [List.map_cons, flatF_cons, e1, ok_bind, h, ok_bind, List.length_cons, List.range_succ_eq_map, List.map_cons, List.map_map]
        simp [Function.comp_def, Nat.add_assoc, Nat.add_comm 1]
      · exact .inr h
theorem e_lowered {L : List (Int × Int)} {lim : Int} (B : BOk W H) (hL : ∀ p ∈ L, InB W H p) (hn : 1 ≤ n) :
    ∃ s', callF fs gs n 18 [bD W H m, bD W H d, .lst (L.map pD), .int lim] s = .ok (bD W H (low L lim m d)) s' ∧ Gr s s' := by
  obtain ⟨k, rfl, hk⟩ := sc hn
  rw [call_at (f := c_lowered_where) rfl rfl]
  have hW := B.W
  have hH := B.H
  have es : startE c_lowered_where.N.length [bD W H m, bD W H d, .lst (L.map pD), .int lim] = [some (SV.val (bD W H m)), some (.val (bD W H d)), some (.val (.lst (L.map pD))), some (.val (.int lim)), none, none, none, none] := rfl
  have eb : c_lowered_where.body = .c (.asg (.nm 4) (.fz (.cp1 (.alloc (.lof (.var 7))) (.nm 7) (.seq (.var 0)) .n [7]))) (.c (.for (.tp (.c (.nm 5) (.c (.nm 6) .nil))) (.seq (.var 2)) bLo) (.c (.ret (.blt .tup (.c (.fz (.cp1 (.blt .tup (.c (.var 7) .nil)) (.nm 7) (.seq (.var 4)) .n [7])) .nil))) .nil)) := rfl
  have a1 : ∀ env, env = [some (SV.val (bD W H m)), some (.val (bD W H d)), some (.val (.lst (L.map pD))), some (.val (.int lim)), none, none, none, none] → evF (callF fs gs k) gs (.cp1 (.alloc (.lof (.var 7))) (.nm 7) (.seq (.var 0)) .n [7]) env s = .ok (locs s.length H) (s ++ rowsS W H m) := by
    rintro env rfl
    rw [evF_cp1']
    have e1 : evI (callF fs gs k) gs true (.seq (.var 0)) [some (SV.val (bD W H m)), some (.val (bD W H d)), some (.val (.lst (L.map pD))), some (.val (.int lim)), none, none, none, none] s = .ok ((List.range H).map (rowD W m)) s := by simp [items_bD]
    rw [e1, ok_bind]
    rcases alloc_rows (cf := callF fs gs k) (W := W) (m := m) (env := noOwn [some (SV.val (bD W H m)), some (.val (bD W H d)), some (.val (.lst (L.map pD))), some (.val (.int lim)), none, none, none, none]) (xs := List.range H) (s := s) with h | h
    · rw [h, ok_bind, List.length_range, if_pos (by rw [List.length_map, List.length_range]; show _ ≤ 16777216; omega)]
      rfl
    · simp [noOwn] at h
  have e1 := a1 _ rfl
  have x1 : ∀ rest, execs (callF fs gs k) gs (.c (.asg (.nm 4) (.fz (.cp1 (.alloc (.lof (.var 7))) (.nm 7) (.seq (.var 0)) .n [7]))) rest) [some (SV.val (bD W H m)), some (.val (bD W H d)), some (.val (.lst (L.map pD))), some (.val (.int lim)), none, none, none, none] s = execs (callF fs gs k) gs rest (EW W H m d L lim s.length none none) (s ++ rowsS W H m) := fun rest => by
    simp [e1, EW]
  obtain ⟨p5, p6, e2⟩ := lo_loop (n := k) (s := s) (d := d) (m0 := m) (L0 := L) (lim := lim) (L := L) (m := m) (o5 := none) (o6 := none) hL
  rw [low_fold] at e2
  have e3 : evI (callF fs gs k) gs false (.seq (.var 2)) (EW W H m d L lim s.length none none) (s ++ rowsS W H m) = .ok (L.map pD) (s ++ rowsS W H m) := by simp [EW, items?]
  have e4 : frzI (EW W H m d L lim s.length none none) (.seq (.var 2)) = EW W H m d L lim s.length none none := rfl
  have a2 : evF (callF fs gs k) gs (.cp1 (.blt .tup (.c (.var 7) .nil)) (.nm 7) (.seq (.var 4)) .n [7]) (EW W H m d L lim s.length p5 p6) (s ++ rowsS W H (low L lim m d)) = .ok ((List.range H).map (rowD W (low L lim m d))) (s ++ rowsS W H (low L lim m d)) := by
    refine cp1_map (xs := List.range H) (mk := fun b => D.loc (s.length + b)) (g := rowD W (low L lim m d)) (by simp [EW, items?, locs]) (fun b hb => ⟨_, rfl, ?_⟩) (by rw [List.length_range]; show _ ≤ 16777216; omega)
    have g := rows_get (s := s) (W := W) (H := H) (m := low L lim m d) (b := b) (List.mem_range.mp hb)
    simp [EW, noOwn, wipeE, g]
    rfl
  refine ⟨s ++ rowsS W H (low L lim m d), ?_, ⟨_, rfl⟩⟩
  rw [eb, es, x1, execs_c, exec_for, e4, e3, ok_bind, e2, nextF_nx]
  have e5 : D.tup ((List.range H).map (rowD W (low L lim m d))) = bD W H (low L lim m d) := rfl
  generalize s ++ rowsS W H (low L lim m d) = s2 at *
  generalize (List.range H).map (rowD W (low L lim m d)) = Q at *
  simp [frzR, a2, e5]
end
end PV.K81
set_option maxRecDepth 100000
set_option maxHeartbeats 4000000
namespace PV.K81
open PySem PV
section
variable {n : Nat} {s : Sto} {W H : Nat} {f g h m d : F2} {t : Tool} {ts : List Tool}
structure PT (W H : Nat) (ts : List Tool) : Prop where
  T : TL W H ts
  lt : ∀ t ∈ ts, LT W H t
def Nw (W H : Nat) (ts : List Tool) (tl : Option Tool) (p : P3) : Prop := ∀ t, tl = some t → t ∈ ts ∧ fit W H t.2.1 p
theorem Nw.none {p : P3} : Nw W H ts none p := fun t e => by cases e
theorem PT.home (P : PT W H ts) (ht : t ∈ ts) : fit W H t.2.1 (0, 0, 12) := fit_home.mpr (P.lt t ht).fit
theorem PT.take (P : PT W H ts) {x : Str} (h : ∃ t, t ∈ ts ∧ t.1 = x) : ∃ t, t ∈ ts ∧ t.1 = x ∧ (ts.find? fun t => t.1 = x) = some t := by
  obtain ⟨t, h1, h2⟩ := h
  subst h2
  exact ⟨t, h1, rfl, P.T.find t h1⟩
theorem Nw.home (P : PT W H ts) (ht : t ∈ ts) : Nw W H ts (some t) (0, 0, 12) := fun u e => by cases e; exact ⟨ht, P.home ht⟩
theorem close (B : BOk W H) (T : TOk W H t) {p q : P3} (hp : fit W H t.2.1 p) (hq : fit W H t.2.1 q) : absI (q.1 - p.1) ≤ 12 ∧ absI (q.2.1 - p.2.1) ≤ 12 ∧ absI (q.2.2 - p.2.2) ≤ 12 := by
  have h1 := fit12 B T.sd.1 hp
  have h2 := fit12 B T.sd.1 hq
  exact ⟨abs12 h2.1 h1.1, abs12 h2.2.1 h1.2.1, abs12 h2.2.2 h1.2.2⟩
theorem us36 (B : BOk W H) (T : TOk W H t) {p q : P3} (hp : fit W H t.2.1 p) (hq : fit W H t.2.1 q) : (usL p q).length ≤ 36 :=
  let ⟨a, b, c⟩ := close B T hp hq
  us_len a b c
theorem units_ok (P : PT W H ts) : ∀ {ms : List Mv} {j : Int} {tl : Option Tool} {p : P3}, POk W H ts ms tl → Nw W H ts tl p → (∀ u ∈ unitsL ts ms j tl p, UOk W H u) ∧ (unitsL ts ms j tl p).length ≤ ms.length * 36
  | [], j, tl, p, _, _ => ⟨fun u hu => by (cases hu), Nat.le_refl _⟩
  | .tool x :: r, j, tl, p, h, _ => by
    obtain ⟨h1, h2⟩ := h
    obtain ⟨t, a1, a2, a3⟩ := P.take h1
    have e : unitsL ts (.tool x :: r) j tl p = unitsL ts r (j + 1) (ts.find? fun t => t.1 = x) (0, 0, 12) := rfl
    rw [e]
    rw [a3] at h2 ⊢
    obtain ⟨i1, i2⟩ := units_ok P (j := j + 1) h2 (Nw.home P a1)
    exact ⟨i1, by rw [List.length_cons]; omega⟩
  | .way k q :: r, j, some t, p, h, hN => by
    obtain ⟨h1, h2⟩ := h
    obtain ⟨n1, n2⟩ := hN t rfl
    have T := P.T.ok t n1
    have e : unitsL ts (.way k q :: r) j (some t) p = (usL p q).map (fun b => (j, t, k, b)) ++ unitsL ts r (j + 1) (some t) q := rfl
    rw [e]
    obtain ⟨i1, i2⟩ := units_ok P (j := j + 1) (p := q) h2 (fun u e => by cases e; exact ⟨n1, h1⟩)
    refine ⟨fun u hu => ?_, ?_⟩
    · rcases List.mem_append.mp hu with hu | hu
      · obtain ⟨b, hb, rfl⟩ := List.mem_map.mp hu
        exact ⟨T, us_fit n2 h1 b hb⟩
      · exact i1 u hu
    · have := us36 P.T.B T n2 h1
      rw [List.length_append, List.length_map, List.length_cons]
      omega
  | .way _ _ :: _, j, none, p, h, _ => h.elim
/-! ### ways, steps told -/
def waysL (ts : List Tool) : List Mv → Option Tool → P3 → List (Option Tool × P3 × P3)
  | [], _, _ => []
  | .tool x :: r, _, _ => (ts.find? fun t => t.1 = x, (0, 0, 12), (0, 0, 12)) :: waysL ts r (ts.find? fun t => t.1 = x) (0, 0, 12)
  | .way _ q :: r, tl, p => (tl, p, q) :: waysL ts r tl q
def ewD (w : Option Tool × P3 × P3) : D := .tup [oT w.1, p3D w.2.1, p3D w.2.2]
def EY (ts : List Tool) (M : D) (L : List D) (tl : Option Tool) (p : P3) (o5 o6 : Option SV) : Env := [some (.val (.tup (ts.map toolD))), some (.val M), some (.own L), some (.val (oT tl)), some (.val (p3D p)), o5, o6]
def bWy : Sms := (.c (.ite (.cmp .eq (.var 5) (.gl 2)) (.c (.par [3, 4] (.v (.call 6 (.c (.var 0) (.c (.var 6) .nil))) (.v (.gl 3) .nil))) (.c (.app 2 (.tup (.c (.var 3) (.c (.gl 3) (.c (.gl 3) .nil))))) .nil)) (.c (.app 2 (.tup (.c (.var 3) (.c (.var 4) (.c (.var 6) .nil))))) (.c (.asg (.nm 4) (.var 6)) .nil))) .nil)
theorem gs_2 : gs[2]? = some (.str "tool") := rfl
theorem gs_3 : gs[3]? = some (p3D (0, 0, 12)) := rfl
theorem gs_00 : gs[0]? = some (.int 12) := rfl
theorem wy_loop {M : D} (hnm : ∀ t ∈ ts, NmP t.1) (hl : ts.length ≤ 100) (hn : 1 ≤ n) : ∀ {ms : List Mv} {L : List D} {tl : Option Tool} {p : P3} {o5 o6 : Option SV}, (∀ x, Mv.tool x ∈ ms → NmP x) → L.length + ms.length ≤ 1000000 →
    ∃ tl' p' q5 q6, forF (stepF (callF fs gs n) gs (.tp (.c (.nm 5) (.c (.nm 6) .nil))) bWy) (ms.map mvD) (EY ts M L tl p o5 o6) s = .ok (.nx (EY ts M (L ++ (waysL ts ms tl p).map ewD) tl' p' q5 q6)) s
  | [], L, tl, p, o5, o6, _, _ => ⟨tl, p, o5, o6, by show _ = Out.ok (Flow.nx (EY ts M (L ++ []) tl p o5 o6)) s; rw [List.append_nil]; rfl⟩
  | .tool x :: r, L, tl, p, o5, o6, hx, hz => by
    rw [List.length_cons] at hz
    have hz' : L.length < LINE := by show _ < 16777216; omega
    have e0 := e_named (n := n) (s := s) (ts := ts) (x := x) (hx x List.mem_cons_self) hnm hl hn
    obtain ⟨tl', p', q5, q6, e⟩ := wy_loop (M := M) hnm hl hn (ms := r) (L := L ++ [ewD (ts.find? fun t => t.1 = x, (0, 0, 12), (0, 0, 12))]) (tl := ts.find? fun t => t.1 = x) (p := (0, 0, 12)) (o5 := some (.val (.str "tool"))) (o6 := some (.val (.str x))) (fun y hy => hx y (List.mem_cons_of_mem _ hy)) (by rw [List.length_append]; simp; omega)
    have e1 : stepF (callF fs gs n) gs (.tp (.c (.nm 5) (.c (.nm 6) .nil))) bWy (mvD (.tool x)) (EY ts M L tl p o5 o6) s = .ok (.nx (EY ts M (L ++ [ewD (ts.find? fun t => t.1 = x, (0, 0, 12), (0, 0, 12))]) (ts.find? fun t => t.1 = x) (0, 0, 12) (some (.val (.str "tool"))) (some (.val (.str x))))) s := by
      unfold stepF
      generalize (ts.find? fun t => t.1 = x) = TT at *
      simp [bWy, EY, mvD, tool_tool, e0, gs_3, chg, hz', ewD, borrows, isOwn]
    refine ⟨tl', p', q5, q6, ?_⟩
    rw [List.map_cons, forF_cons, e1, nextL_nx, e, List.append_assoc]
    rfl
  | .way k q :: r, L, tl, p, o5, o6, hx, hz => by
    rw [List.length_cons] at hz
    have hz' : L.length < LINE := by show _ < 16777216; omega
    obtain ⟨tl', p', q5, q6, e⟩ := wy_loop (M := M) hnm hl hn (ms := r) (L := L ++ [ewD (tl, p, q)]) (tl := tl) (p := q) (o5 := some (.val (kindD k))) (o6 := some (.val (p3D q))) (fun y hy => hx y (List.mem_cons_of_mem _ hy)) (by rw [List.length_append]; simp; omega)
    have e1 : stepF (callF fs gs n) gs (.tp (.c (.nm 5) (.c (.nm 6) .nil))) bWy (mvD (.way k q)) (EY ts M L tl p o5 o6) s = .ok (.nx (EY ts M (L ++ [ewD (tl, p, q)]) tl q (some (.val (kindD k))) (some (.val (p3D q))))) s := by
      unfold stepF
      simp [bWy, EY, mvD, kind_tool, chg, hz', ewD]
    refine ⟨tl', p', q5, q6, ?_⟩
    rw [List.map_cons, forF_cons, e1, nextL_nx, e, List.append_assoc]
    rfl
theorem e_ways {ms : List Mv} (hnm : ∀ t ∈ ts, NmP t.1) (hl : ts.length ≤ 100) (hx : ∀ x, Mv.tool x ∈ ms → NmP x) (hz : ms.length ≤ 1000000) (hn : 2 ≤ n) : callF fs gs n 16 [.tup (ts.map toolD), .tup (ms.map mvD)] s = .ok (.lst ((waysL ts ms none (0, 0, 12)).map ewD)) s := by
  obtain ⟨k, rfl, hk⟩ := sc hn
  rw [call_at (f := c_ways_of) rfl rfl]
  obtain ⟨tl', p', q5, q6, e⟩ := wy_loop (n := k) (s := s) (M := .tup (ms.map mvD)) hnm hl hk (ms := ms) (L := []) (tl := none) (p := (0, 0, 12)) (o5 := none) (o6 := none) hx (by simp; omega)
  have es : startE c_ways_of.N.length [.tup (ts.map toolD), .tup (ms.map mvD)] = [some (SV.val (.tup (ts.map toolD))), some (.val (.tup (ms.map mvD))), none, none, none, none, none] := rfl
  have eb : c_ways_of.body = .c (.par [2, 3, 4] (.o (.dsp .nil) (.v .non (.v (.gl 3) .nil)))) (.c (.for (.tp (.c (.nm 5) (.c (.nm 6) .nil))) (.seq (.var 1)) bWy) (.c (.ret (.var 2)) .nil)) := rfl
  have x1 : ∀ rest, execs (callF fs gs k) gs (.c (.par [2, 3, 4] (.o (.dsp .nil) (.v .non (.v (.gl 3) .nil)))) rest) [some (SV.val (.tup (ts.map toolD))), some (.val (.tup (ms.map mvD))), none, none, none, none, none] s = execs (callF fs gs k) gs rest (EY ts (.tup (ms.map mvD)) [] none (0, 0, 12) none none) s := fun rest => by
    simp [EY, gs_3, oT]
  have e3 : evI (callF fs gs k) gs false (.seq (.var 1)) (EY ts (.tup (ms.map mvD)) [] none (0, 0, 12) none none) s = .ok (ms.map mvD) s := by simp [EY, items?]
  have e4 : frzI (EY ts (.tup (ms.map mvD)) [] none (0, 0, 12) none none) (.seq (.var 1)) = EY ts (.tup (ms.map mvD)) [] none (0, 0, 12) none none := rfl
  rw [eb, es, x1, execs_c, exec_for, e4, e3, ok_bind, e, nextF_nx, List.nil_append]
  simp [EY, frzR]
theorem enum_lst {ds : List D} : enum? (.lst ds) = some (enL 0 ds) := by
  show some _ = _
  rw [List.range_eq_range', enL_eq]; rfl
def ET2 (ts : List Tool) (M : D) (L : List D) (o3 o4 o5 o6 : Option SV) : Env := [some (.val (.tup (ts.map toolD))), some (.val M), some (.own L), o3, o4, o5, o6, none]
def bTo : Sms := (.c (.ext 2 (.fz (.cp1 (.tup (.c (.var 3) (.c (.var 4) (.c (.idx (.idx (.var 1) (.var 3)) (.int 0)) (.c (.var 7) .nil))))) (.nm 7) (.seq (.call 14 (.c (.var 5) (.c (.var 6) .nil)))) .n [7]))) .nil)
theorem to_turn {all : List Mv} {j : Nat} {mv : Mv} {k : D} {L : List D} {tl : Option Tool} {p q : P3} {o3 o4 o5 o6 : Option SV} (hj : all[j]? = some mv) (hk : idxD (mvD mv) (.int 0) = some k) (hd : ∀ s : Sto, deref s (mvD mv) = mvD mv) (h1 : absI (q.1 - p.1) ≤ 12) (h2 : absI (q.2.1 - p.2.1) ≤ 12) (h3 : absI (q.2.2 - p.2.2) ≤ 12) (hz : L.length ≤ 1000000) (hn : 1 ≤ n) :
    stepF (callF fs gs n) gs (.tp (.c (.nm 3) (.c (.tp (.c (.nm 4) (.c (.nm 5) (.c (.nm 6) .nil)))) .nil))) bTo (.tup [.int j, ewD (tl, p, q)]) (ET2 ts (.tup (all.map mvD)) L o3 o4 o5 o6) s
      = .ok (.nx (ET2 ts (.tup (all.map mvD)) (L ++ (usL p q).map fun b => .tup [.int j, oT tl, k, p3D b]) (some (.val (.int j))) (some (.val (oT tl))) (some (.val (p3D p))) (some (.val (p3D q))))) s := by
  have eb : bindT (.tp (.c (.nm 3) (.c (.tp (.c (.nm 4) (.c (.nm 5) (.c (.nm 6) .nil)))) .nil))) (.tup [.int j, ewD (tl, p, q)]) (ET2 ts (.tup (all.map mvD)) L o3 o4 o5 o6) = some (ET2 ts (.tup (all.map mvD)) L (some (.val (.int j))) (some (.val (oT tl))) (some (.val (p3D p))) (some (.val (p3D q)))) := rfl
  have e0 := e_unit (n := n) (s := s) (p := p) (q := q) (by omega) (by omega) (by omega) hn
  have hu := us_len (p := p) (q := q) h1 h2 h3
  have ix : idxD (.tup (all.map mvD)) (.int j) = some (mvD mv) := idx_tup (by rw [List.getElem?_map, hj]; rfl)
  have e1 : evF (callF fs gs n) gs (.cp1 (.tup (.c (.var 3) (.c (.var 4) (.c (.idx (.idx (.var 1) (.var 3)) (.int 0)) (.c (.var 7) .nil))))) (.nm 7) (.seq (.call 14 (.c (.var 5) (.c (.var 6) .nil)))) .n [7]) (ET2 ts (.tup (all.map mvD)) L (some (.val (.int j))) (some (.val (oT tl))) (some (.val (p3D p))) (some (.val (p3D q)))) s = .ok ((usL p q).map fun b => .tup [.int j, oT tl, k, p3D b]) s :=
    cp1_map (xs := usL p q) (mk := p3D) (by simp [ET2, e0, borrows, isOwn, items?]) (fun b hb => ⟨_, rfl, by simp [ET2, noOwn, wipeE, ix, hk, hd]⟩) (by show _ ≤ 16777216; omega)
  have hz2 : L.length + ((usL p q).map fun b => D.tup [.int j, oT tl, k, p3D b]).length ≤ LINE := by rw [List.length_map]; show _ ≤ 16777216; omega
  unfold stepF
  rw [eb]
  generalize ((usL p q).map fun b => D.tup [.int j, oT tl, k, p3D b]) = Q at *
  simp only [ET2] at e1
  simp [bTo, ET2, e1, chg, hz2]
theorem us_self {p : P3} : usL p p = [] := by
  have e : ∀ ax : Int, ax = 0 ∨ ax = 1 ∨ ax = 2 → segU p (set3 ax p p) = [] := fun ax h => by
    unfold segU
    rw [len_ax h, show pk3 ax p - pk3 ax p = 0 from by omega, absI_p (by omega), ir_nil (by omega)]; rfl
  have s0 : set3 0 p p = p := rfl
  have s1 : set3 1 p p = p := rfl
  unfold usL
  have h0 := e 0 (.inl rfl)
  have h1 := e 1 (.inr (.inl rfl))
  have h2 := e 2 (.inr (.inr rfl))
  rw [s0] at h0 ⊢
  rw [s1] at h1 ⊢
  have s2 : set3 2 p p = p := rfl
  rw [s2] at h2
  rw [h0]; rfl
theorem to_loop (P : PT W H ts) (hn : 1 ≤ n) {all : List Mv} : ∀ {ms pre : List Mv} {L : List D} {tl : Option Tool} {p : P3} {o3 o4 o5 o6 : Option SV}, all = pre ++ ms → POk W H ts ms tl → Nw W H ts tl p → L.length + ms.length * 36 ≤ 1000000 →
    ∃ q3 q4 q5 q6, forF (stepF (callF fs gs n) gs (.tp (.c (.nm 3) (.c (.tp (.c (.nm 4) (.c (.nm 5) (.c (.nm 6) .nil)))) .nil))) bTo) (enL pre.length ((waysL ts ms tl p).map ewD)) (ET2 ts (.tup (all.map mvD)) L o3 o4 o5 o6) s
      = .ok (.nx (ET2 ts (.tup (all.map mvD)) (L ++ (unitsL ts ms pre.length tl p).map unD) q3 q4 q5 q6)) s
  | [], pre, L, tl, p, o3, o4, o5, o6, _, _, _, _ => ⟨o3, o4, o5, o6, by show _ = Out.ok (Flow.nx (ET2 ts (.tup (all.map mvD)) (L ++ []) o3 o4 o5 o6)) s; rw [List.append_nil]; rfl⟩
  | .tool x :: r, pre, L, tl, p, o3, o4, o5, o6, e, h, _, hz => by
    obtain ⟨h1, h2⟩ := h
    obtain ⟨t, a1, a2, a3⟩ := P.take h1
    rw [List.length_cons] at hz
    have hj : all[pre.length]? = some (.tool x) := by rw [e]; simp
    have e0 : ∀ c : Int, absI (c - c) ≤ 12 := fun c => by rw [absI_p (by omega)]; omega
    have t1 := to_turn (n := n) (s := s) (ts := ts) (k := .str "tool") (L := L) (tl := ts.find? fun t => t.1 = x) (p := (0, 0, 12)) (q := (0, 0, 12)) (o3 := o3) (o4 := o4) (o5 := o5) (o6 := o6) hj rfl (fun _ => rfl) (e0 _) (e0 _) (e0 _) (by omega) hn
    rw [us_self, List.map_nil, List.append_nil] at t1
    rw [a3] at h2 t1
    obtain ⟨q3, q4, q5, q6, i1⟩ := to_loop P hn (all := all) (ms := r) (pre := pre ++ [.tool x]) (L := L) (tl := some t) (p := (0, 0, 12)) (o3 := some (.val (.int pre.length))) (o4 := some (.val (oT (some t)))) (o5 := some (.val (p3D (0, 0, 12)))) (o6 := some (.val (p3D (0, 0, 12)))) (by rw [e]; simp) h2 (Nw.home P a1) (by omega)
    refine ⟨q3, q4, q5, q6, ?_⟩
    have el : (((pre ++ [Mv.tool x]).length : Nat) : Int) = (pre.length : Int) + 1 := by rw [List.length_append]; simp
    rw [el] at i1
    have e1 : waysL ts (.tool x :: r) tl p = (ts.find? fun t => t.1 = x, (0, 0, 12), (0, 0, 12)) :: waysL ts r (ts.find? fun t => t.1 = x) (0, 0, 12) := rfl
    have e2 : unitsL ts (.tool x :: r) pre.length tl p = unitsL ts r (pre.length + 1) (ts.find? fun t => t.1 = x) (0, 0, 12) := rfl
    rw [e1, e2, a3, List.map_cons]
    show forF _ (.tup [.int pre.length, ewD (some t, (0, 0, 12), (0, 0, 12))] :: enL (pre.length + 1) ((waysL ts r (some t) (0, 0, 12)).map ewD)) _ _ = _
    rw [forF_cons, t1, nextL_nx, i1]
  | .way k q :: r, pre, L, some t, p, o3, o4, o5, o6, e, h, hN, hz => by
    obtain ⟨h1, h2⟩ := h
    obtain ⟨n1, n2⟩ := hN t rfl
    have T := P.T.ok t n1
    rw [List.length_cons] at hz
    have hj : all[pre.length]? = some (.way k q) := by rw [e]; simp
    obtain ⟨c1, c2, c3⟩ := close P.T.B T n2 h1
    have hu := us_len c1 c2 c3
    have t1 := to_turn (n := n) (s := s) (ts := ts) (k := kindD k) (L := L) (tl := some t) (p := p) (q := q) (o3 := o3) (o4 := o4) (o5 := o5) (o6 := o6) hj rfl (fun _ => rfl) c1 c2 c3 (by omega) hn
    have eu : ((usL p q).map fun b => D.tup [.int (pre.length : Nat), oT (some t), kindD k, p3D b]) = ((usL p q).map fun b => ((pre.length : Int), t, k, b)).map unD := by rw [List.map_map]; rfl
    rw [eu] at t1
    obtain ⟨q3, q4, q5, q6, i1⟩ := to_loop P hn (all := all) (ms := r) (pre := pre ++ [.way k q]) (L := L ++ ((usL p q).map fun b => ((pre.length : Int), t, k, b)).map unD) (tl := some t) (p := q) (o3 := some (.val (.int pre.length))) (o4 := some (.val (oT (some t)))) (o5 := some (.val (p3D p))) (o6 := some (.val (p3D q))) (by rw [e]; simp) h2 (fun u e => by cases e; exact ⟨n1, h1⟩) (by rw [List.length_append, List.length_map, List.length_map]; omega)
    refine ⟨q3, q4, q5, q6, ?_⟩
    have el : (((pre ++ [Mv.way k q]).length : Nat) : Int) = (pre.length : Int) + 1 := by rw [List.length_append]; simp
    rw [el] at i1
    have e1 : waysL ts (.way k q :: r) (some t) p = (some t, p, q) :: waysL ts r (some t) q := rfl
    have e2 : unitsL ts (.way k q :: r) pre.length (some t) p = (usL p q).map (fun b => ((pre.length : Int), t, k, b)) ++ unitsL ts r (pre.length + 1) (some t) q := rfl
    rw [e1, e2, List.map_cons]
    show forF _ (.tup [.int pre.length, ewD (some t, p, q)] :: enL (pre.length + 1) ((waysL ts r (some t) q).map ewD)) _ _ = _
    rw [forF_cons, t1, nextL_nx, i1, List.map_append, List.append_assoc]
  | .way _ _ :: _, pre, L, none, p, o3, o4, o5, o6, _, h, _, _ => h.elim
theorem e_told {ms : List Mv} (P : PT W H ts) (h : POk W H ts ms none) (hx : ∀ x, Mv.tool x ∈ ms → NmP x) (hz : ms.length ≤ 1000) (hn : 3 ≤ n) : callF fs gs n 17 [.tup (ts.map toolD), .tup (ms.map mvD)] s = .ok (.lst ((unitsL ts ms 0 none (0, 0, 12)).map unD)) s := by
  obtain ⟨k, rfl, hk⟩ := sc hn
  rw [call_at (f := c_steps_told) rfl rfl]
  have e0 := e_ways (n := k) (s := s) (ts := ts) (ms := ms) P.T.nm (by have := P.T.len; omega) hx (by omega) hk
  obtain ⟨q3, q4, q5, q6, e⟩ := to_loop (n := k) (s := s) P (by omega) (all := ms) (ms := ms) (pre := []) (L := []) (tl := none) (p := (0, 0, 12)) (o3 := none) (o4 := none) (o5 := none) (o6 := none) rfl h Nw.none (by simp; omega)
  have e' : forF (stepF (callF fs gs k) gs (.tp (.c (.nm 3) (.c (.tp (.c (.nm 4) (.c (.nm 5) (.c (.nm 6) .nil)))) .nil))) bTo) (enL 0 ((waysL ts ms none (0, 0, 12)).map ewD)) (ET2 ts (.tup (ms.map mvD)) [] none none none none) s = .ok (.nx (ET2 ts (.tup (ms.map mvD)) ((unitsL ts ms 0 none (0, 0, 12)).map unD) q3 q4 q5 q6)) s := e
  have es : startE c_steps_told.N.length [.tup (ts.map toolD), .tup (ms.map mvD)] = [some (SV.val (.tup (ts.map toolD))), some (.val (.tup (ms.map mvD))), none, none, none, none, none, none] := rfl
  have eb : c_steps_told.body = .c (.own 2 (.dsp .nil)) (.c (.for (.tp (.c (.nm 3) (.c (.tp (.c (.nm 4) (.c (.nm 5) (.c (.nm 6) .nil)))) .nil))) (.enm (.call 16 (.c (.var 0) (.c (.var 1) .nil)))) bTo) (.c (.ret (.var 2)) .nil)) := rfl
  have x1 : ∀ rest, execs (callF fs gs k) gs (.c (.own 2 (.dsp .nil)) rest) [some (SV.val (.tup (ts.map toolD))), some (.val (.tup (ms.map mvD))), none, none, none, none, none, none] s = execs (callF fs gs k) gs rest (ET2 ts (.tup (ms.map mvD)) [] none none none none) s := fun rest => by
    simp [ET2]
  have e3 : evI (callF fs gs k) gs false (.enm (.call 16 (.c (.var 0) (.c (.var 1) .nil)))) (ET2 ts (.tup (ms.map mvD)) [] none none none none) s = .ok (enL 0 ((waysL ts ms none (0, 0, 12)).map ewD)) s := by
    simp [ET2, e0, borrows, isOwn, enum_lst]
  have e4 : frzI (ET2 ts (.tup (ms.map mvD)) [] none none none none) (.enm (.call 16 (.c (.var 0) (.c (.var 1) .nil)))) = ET2 ts (.tup (ms.map mvD)) [] none none none none := rfl
  rw [eb, es, x1, execs_c, exec_for, e4, e3, ok_bind, e', nextF_nx]
  simp [ET2, frzR]
end
end PV.K81
set_option maxRecDepth 100000
set_option maxHeartbeats 4000000
namespace PV.K81
open PySem PV
section
variable {n : Nat} {s : Sto} {W H : Nat} {f g h m d : F2} {t : Tool} {ts : List Tool}
@[simp] theorem slc_p3 {p : P3} : slcD (p3D p) none (some 2) = some (.tup [.int p.1, .int p.2.1]) := id rfl
def ETr (W H : Nat) (T M : D) (m d : F2) (o5 o6 o7 o8 o9 o10 : Option SV) : Env := [some (.val (.tup [.int W, .int H])), some (.val T), some (.val M), some (.val (bD W H m)), some (.val (bD W H d)), o5, o6, o7, o8, o9, o10]
def bTr : Sms := (.c (.par [9, 10] (.v (.call 8 (.c (.var 6) (.c (.slc (.var 8) .n (.s (.int 2))) .nil))) (.v (.call 9 (.c (.var 0) (.c (.var 6) (.c (.slc (.var 8) .n (.s (.int 2))) .nil)))) .nil))) (.c (.asg (.nm 3) (.call 18 (.c (.var 3) (.c (.var 4) (.c (.bin .add (.var 9) (.var 10)) (.c (.bin .add (.idx (.var 8) (.int 2)) (.idx (.var 6) (.int 2))) .nil)))))) (.c (.ite (.cmp .eq (.var 7) (.gl 1)) (.c (.asg (.nm 3) (.call 18 (.c (.var 3) (.c (.var 4) (.c (.var 9) (.c (.idx (.var 8) (.int 2)) .nil)))))) .nil) .nil) (.c (.asg (.nm 4) (.call 13 (.c (.var 4) (.c (.var 6) (.c (.var 8) .nil))))) .nil))))
theorem tr_turn (B : BOk W H) (hn : 1 ≤ n) {T M : D} {u : Un} (U : UOk W H u) {o5 o6 o7 o8 o9 o10 : Option SV} :
    ∃ p5 p6 p7 p8 p9 p10 s', Gr s s' ∧ stepF (callF fs gs n) gs (.tp (.c (.nm 5) (.c (.nm 6) (.c (.nm 7) (.c (.nm 8) .nil))))) bTr (unD u) (ETr W H T M m d o5 o6 o7 o8 o9 o10) s = .ok (.nx (ETr W H T M (tr1 W H u (m, d)).1 (tr1 W H u (m, d)).2 p5 p6 p7 p8 p9 p10)) s' := by
  obtain ⟨j, ⟨nm, sd, sh, rm⟩, k, ⟨x, y, z⟩⟩ := u
  have hT := U.T
  have hF := U.fit
  unfold PV.K81.fit at hF
  have hsd : 1 ≤ sd ∧ sd ≤ 3 := hT.sd
  have hrm : 0 ≤ rm ∧ rm ≤ 1 := hT.rm
  have hin := wd_in U B.W B.H
  have hinb : ∀ p ∈ bn (j, (nm, sd, sh, rm), k, (x, y, z)), InB W H p := fun p hp => hin p (List.mem_append_left _ hp)
  have hW := B.W
  have hH := B.H
  simp only at hF
  have eb : bindT (.tp (.c (.nm 5) (.c (.nm 6) (.c (.nm 7) (.c (.nm 8) .nil))))) (unD (j, (nm, sd, sh, rm), k, (x, y, z))) (ETr W H T M m d o5 o6 o7 o8 o9 o10) = some (ETr W H T M m d (some (.val (.int j))) (some (.val (toolD (nm, sd, sh, rm)))) (some (.val (kindD k))) (some (.val (p3D (x, y, z)))) o9 o10) := rfl
  have e1 : ∀ s, callF fs gs n 8 [toolD (nm, sd, sh, rm), .tup [.int x, .int y]] s = .ok (.lst ((benF sd x y).map pD)) s := fun s => e_ben (n := n) (s := s) (sd := sd) (x := x) (y := y) (nm := .str nm) (sh := .int sh) (rm := .int rm) hn ⟨by omega, hsd.2⟩ (by omega) (by omega)
  have e2 : ∀ s, callF fs gs n 9 [.tup [.int W, .int H], toolD (nm, sd, sh, rm), .tup [.int x, .int y]] s = .ok (.lst ((abF sd rm x y W H).map pD)) s := fun s => e_about (nm := .str nm) (sh := .int sh) ⟨by omega, hsd.2⟩ hrm (by omega) (by omega) hW.2 hH.2 hn
  have l1 := ben_len (sd := sd) (x := x) (y := y) ⟨by omega, hsd.2⟩
  have l2 := ab_len (sd := sd) (rm := rm) (x := x) (y := y) B.W B.H
  have hz : ((benF sd x y).map pD).length + ((abF sd rm x y W H).map pD).length ≤ LINE := by rw [List.length_map, List.length_map]; show _ ≤ 16777216; omega
  obtain ⟨s1, e3, g1⟩ := e_lowered (n := n) (s := s) (m := m) (d := d) (L := benF sd x y ++ abF sd rm x y W H) (lim := z + sh) B hin hn
  rw [List.map_append] at e3
  obtain ⟨s2, e4, g2⟩ := e_lowered (n := n) (s := s1) (m := low (benF sd x y ++ abF sd rm x y W H) (z + sh) m d) (d := d) (L := benF sd x y) (lim := z) B hinb hn
  have e5 : ∀ s, callF fs gs n 13 [bD W H d, toolD (nm, sd, sh, rm), p3D (x, y, z)] s = .ok (bD W H (cutf sd x y z d)) s := fun s => e_cut (nm := .str nm) (sh := sh) (rm := rm) hW.2 hH.2 hn
  have r1 : (tr1 W H (j, (nm, sd, sh, rm), k, (x, y, z)) (m, d)).1 = if k = true then low (benF sd x y) z (low (benF sd x y ++ abF sd rm x y W H) (z + sh) m d) d else low (benF sd x y ++ abF sd rm x y W H) (z + sh) m d := rfl
  have r2 : (tr1 W H (j, (nm, sd, sh, rm), k, (x, y, z)) (m, d)).2 = cutf sd x y z d := rfl
  rw [r1, r2]
  have t2 : idxD (toolD (nm, sd, sh, rm)) (.int 2) = some (.int sh) := tool_2
  have q2 : idxD (p3D (x, y, z)) (.int 2) = some (.int z) := p3_2
  have q3 : slcD (p3D (x, y, z)) none (some 2) = some (.tup [.int x, .int y]) := slc_p3
  generalize low (benF sd x y) z (low (benF sd x y ++ abF sd rm x y W H) (z + sh) m d) d = m2 at *
  generalize low (benF sd x y ++ abF sd rm x y W H) (z + sh) m d = m1 at *
  generalize cutf sd x y z d = d1 at *
  generalize (benF sd x y).map pD = B1 at *
  generalize (abF sd rm x y W H).map pD = B2 at *
  have dT : ∀ s : Sto, deref s (toolD (nm, sd, sh, rm)) = toolD (nm, sd, sh, rm) := fun _ => rfl
  have dP : ∀ s : Sto, deref s (p3D (x, y, z)) = p3D (x, y, z) := fun _ => rfl
  generalize toolD (nm, sd, sh, rm) = TD at *
  generalize p3D (x, y, z) = PD at *
  unfold stepF
  rw [eb]
  cases k with
  | true =>
    refine ⟨some (.val (.int j)), some (.val TD), some (.val (kindD true)), some (.val PD), some (.val (.lst B1)), some (.val (.lst B2)), s2, g1.trans g2, ?_⟩
    simp [bTr, ETr, e1, e2, e3, e4, e5, t2, q2, q3, dT, dP, hz, kind_eq, borrows, isOwn]
  | false =>
    refine ⟨some (.val (.int j)), some (.val TD), some (.val (kindD false)), some (.val PD), some (.val (.lst B1)), some (.val (.lst B2)), s1, g1, ?_⟩
    simp [bTr, ETr, e1, e2, e3, e4, e5, t2, q2, q3, dT, dP, hz, kind_eq, borrows, isOwn]
theorem tr_loop (B : BOk W H) (hn : 1 ≤ n) {T M : D} : ∀ {us : List Un} {m d : F2} {o5 o6 o7 o8 o9 o10 : Option SV} {s : Sto}, (∀ u ∈ us, UOk W H u) →
    ∃ p5 p6 p7 p8 p9 p10 s', Gr s s' ∧ forF (stepF (callF fs gs n) gs (.tp (.c (.nm 5) (.c (.nm 6) (.c (.nm 7) (.c (.nm 8) .nil))))) bTr) (us.map unD) (ETr W H T M m d o5 o6 o7 o8 o9 o10) s = .ok (.nx (ETr W H T M (trU W H us (m, d)).1 (trU W H us (m, d)).2 p5 p6 p7 p8 p9 p10)) s'
  | [], m, d, o5, o6, o7, o8, o9, o10, s, _ => ⟨o5, o6, o7, o8, o9, o10, s, Gr.refl, rfl⟩
  | u :: us, m, d, o5, o6, o7, o8, o9, o10, s, h => by
    obtain ⟨p5, p6, p7, p8, p9, p10, s1, g1, e1⟩ := tr_turn (n := n) (s := s) (m := m) (d := d) B hn (T := T) (M := M) (h u List.mem_cons_self) (o5 := o5) (o6 := o6) (o7 := o7) (o8 := o8) (o9 := o9) (o10 := o10)
    obtain ⟨r5, r6, r7, r8, r9, r10, s2, g2, e2⟩ := tr_loop B hn (T := T) (M := M) (us := us) (m := (tr1 W H u (m, d)).1) (d := (tr1 W H u (m, d)).2) (o5 := p5) (o6 := p6) (o7 := p7) (o8 := p8) (o9 := p9) (o10 := p10) (s := s1) fun v hv => h v (List.mem_cons_of_mem _ hv)
    refine ⟨r5, r6, r7, r8, r9, r10, s2, g1.trans g2, ?_⟩
    rw [List.map_cons, forF_cons, e1, nextL_nx, e2]
    rfl
/-- the trace of a plan -/
def trP (W H : Nat) (ts : List Tool) (ms : List Mv) : F2 × F2 := trU W H (unitsL ts ms 0 none (0, 0, 12)) (c12, c12)
theorem e_trace {ms : List Mv} (P : PT W H ts) (h : POk W H ts ms none) (hx : ∀ x, Mv.tool x ∈ ms → NmP x) (hz : ms.length ≤ 1000) (hn : 4 ≤ n) :
    ∃ s', callF fs gs n 19 [.tup [.int W, .int H], .tup (ts.map toolD), .tup (ms.map mvD)] s = .ok (.tup [bD W H (trP W H ts ms).1, bD W H (trP W H ts ms).2]) s' ∧ Gr s s' := by
  obtain ⟨k, rfl, hk⟩ := sc hn
  rw [call_at (f := c_trace_of) rfl rfl]
  have hU := (units_ok P (j := 0) (p := (0, 0, 12)) h Nw.none).1
  have e0 : ∀ s, callF fs gs k 3 [.tup [.int W, .int H], .int 12] s = .ok (bD W H c12) s := fun s => e_level (c := 12) P.T.B (by omega)
  have e1 := fun s => e_told (n := k) (s := s) P h hx hz hk
  obtain ⟨p5, p6, p7, p8, p9, p10, s', g1, e2⟩ := tr_loop (n := k) P.T.B (by omega) (T := .tup (ts.map toolD)) (M := .tup (ms.map mvD)) (us := unitsL ts ms 0 none (0, 0, 12)) (m := c12) (d := c12) (o5 := none) (o6 := none) (o7 := none) (o8 := none) (o9 := none) (o10 := none) (s := s) hU
  refine ⟨s', ?_, g1⟩
  have es : startE c_trace_of.N.length [.tup [.int W, .int H], .tup (ts.map toolD), .tup (ms.map mvD)] = [some (SV.val (.tup [.int W, .int H])), some (.val (.tup (ts.map toolD))), some (.val (.tup (ms.map mvD))), none, none, none, none, none, none, none, none] := rfl
  have eb : c_trace_of.body = .c (.par [3, 4] (.v (.call 3 (.c (.var 0) (.c (.gl 0) .nil))) (.v (.call 3 (.c (.var 0) (.c (.gl 0) .nil))) .nil))) (.c (.for (.tp (.c (.nm 5) (.c (.nm 6) (.c (.nm 7) (.c (.nm 8) .nil))))) (.seq (.call 17 (.c (.var 1) (.c (.var 2) .nil)))) bTr) (.c (.ret (.tup (.c (.var 3) (.c (.var 4) .nil)))) .nil)) := rfl
  have x1 : ∀ rest, execs (callF fs gs k) gs (.c (.par [3, 4] (.v (.call 3 (.c (.var 0) (.c (.gl 0) .nil))) (.v (.call 3 (.c (.var 0) (.c (.gl 0) .nil))) .nil))) rest) [some (SV.val (.tup [.int W, .int H])), some (.val (.tup (ts.map toolD))), some (.val (.tup (ms.map mvD))), none, none, none, none, none, none, none, none] s = execs (callF fs gs k) gs rest (ETr W H (.tup (ts.map toolD)) (.tup (ms.map mvD)) c12 c12 none none none none none none) s := fun rest => by
    simp [ETr, gs_00, e0, borrows, isOwn]
  have e3 : evI (callF fs gs k) gs false (.seq (.call 17 (.c (.var 1) (.c (.var 2) .nil)))) (ETr W H (.tup (ts.map toolD)) (.tup (ms.map mvD)) c12 c12 none none none none none none) s = .ok ((unitsL ts ms 0 none (0, 0, 12)).map unD) s := by
    simp [ETr, e1, borrows, isOwn, items?]
  have e4 : frzI (ETr W H (.tup (ts.map toolD)) (.tup (ms.map mvD)) c12 c12 none none none none none none) (.seq (.call 17 (.c (.var 1) (.c (.var 2) .nil)))) = ETr W H (.tup (ts.map toolD)) (.tup (ms.map mvD)) c12 c12 none none none none none none := rfl
  rw [eb, es, x1, execs_c, exec_for, e4, e3, ok_bind, e2, nextF_nx]
  unfold trP
  simp [ETr, frzR]
theorem e_left_by (B : BOk W H) (hn : 2 ≤ n) : callF fs gs n 20 [.tup [bD W H m, bD W H d], bD W H f] s = .ok (if leB W H f m = true then bD W H (lsF f d) else .non) s := by
  obtain ⟨k, rfl, hk⟩ := sc hn
  rw [call_at (f := c_left_by) rfl rfl]
  have e1 := fun s => e_below (n := k) (s := s) (f := f) (g := m) B hk
  have e2 := fun s => e_least (n := k) (s := s) (f := f) (g := d) B hk
  by_cases c : leB W H f m = true
  · rw [if_pos c]
    rw [c] at e1
    simp [c_left_by, startE, List.replicate, frzR, e1, e2, borrows, isOwn]
  · rw [if_neg c]
    have c : leB W H f m = false := by simpa using c
    rw [c] at e1
    simp [c_left_by, startE, List.replicate, frzR, e1, borrows, isOwn]
def eqB (W H : Nat) (f g : F2) : Bool := (List.range H).all fun b => (List.range W).all fun a => decide (f a b = g a b)
theorem eqB_iff : eqB W H f g = true ↔ ∀ a b, InB W H (a, b) → f a b = g a b := by
  unfold eqB
  simp only [List.all_eq_true, List.mem_range, decide_eq_true_eq]
  constructor
  · intro q a b hi
    have hi : (0 ≤ a ∧ a < W) ∧ 0 ≤ b ∧ b < H := hi
    have := q b.toNat (by omega) a.toNat (by omega)
    rwa [show ((a.toNat : Nat) : Int) = a from by omega, show ((b.toNat : Nat) : Int) = b from by omega] at this
  · intro q b hb a ha
    exact q a b ⟨⟨by show (0 : Int) ≤ (a : Int); omega, by show (a : Int) < W; omega⟩, by show (0 : Int) ≤ (b : Int); omega, by show (b : Int) < H; omega⟩
end
end PV.K81
set_option maxRecDepth 100000
set_option maxHeartbeats 4000000
namespace PV.K81
open PySem PV
section
variable {n : Nat} {s : Sto} {W H : Nat} {f g h m d : F2} {t : Tool} {ts : List Tool}
theorem bD_iff : bD W H f = bD W H g ↔ eqB W H f g = true := by
  rw [eqB_iff]
  refine ⟨fun e a b hi => bD_inj e hi, fun q => bD_cg fun a b ha hb => q a b ⟨⟨by show (0 : Int) ≤ (a : Int); omega, by show (a : Int) < W; omega⟩, by show (0 : Int) ≤ (b : Int); omega, by show (b : Int) < H; omega⟩⟩
open Classical in
theorem eq_bD : cmpD .eq (bD W H f) (bD W H g) = some (eqB W H f g) := by
  rw [eqD_dat dat2 dat2]
  congr 1
  rw [Bool.eq_iff_iff, decide_eq_true_eq]
  exact bD_iff
/-- what is left, or none -/
def oB (W H : Nat) : Option F2 → D
  | none => .non
  | some f => bD W H f
def eqO (W H : Nat) : Option F2 → Option F2 → Bool
  | none, none => true
  | some f, some g => eqB W H f g
  | _, _ => false
theorem dat_oB {a : Option F2} : Dat (oB W H a) := by
  cases a with
  | none => exact Dat.non
  | some f => exact dat2
theorem oB_iff {a b : Option F2} : oB W H a = oB W H b ↔ eqO W H a b = true := by
  cases a with
  | none => cases b with
    | none => exact ⟨fun _ => rfl, fun _ => rfl⟩
    | some g => exact ⟨fun e => by (unfold oB bD at e; cases e), fun e => by cases e⟩
  | some f => cases b with
    | none => exact ⟨fun e => by (unfold oB bD at e; cases e), fun e => by cases e⟩
    | some g => exact bD_iff
open Classical in
theorem eq_oB {a b : Option F2} : cmpD .eq (oB W H a) (oB W H b) = some (eqO W H a b) := by
  rw [eqD_dat dat_oB dat_oB]
  congr 1
  rw [Bool.eq_iff_iff, decide_eq_true_eq]
  exact oB_iff
theorem ne_oB {a b : Option F2} : cmpD .ne (oB W H a) (oB W H b) = some (!eqO W H a b) := neD_eq eq_oB
@[simp] theorem deref_oB {a : Option F2} : deref s (oB W H a) = oB W H a := by cases a <;> rfl
/-- alike -/
def alk (W H : Nat) (x y : F2 × F2) : Bool := eqB W H x.1 y.1 && eqB W H (lsF x.1 x.2) (lsF y.1 y.2)
theorem e_alike {ms ns : List Mv} (P : PT W H ts) (h1 : POk W H ts ms none) (h2 : POk W H ts ns none) (x1 : ∀ x, Mv.tool x ∈ ms → NmP x) (x2 : ∀ x, Mv.tool x ∈ ns → NmP x) (z1 : ms.length ≤ 1000) (z2 : ns.length ≤ 1000) (hn : 5 ≤ n) :
    ∃ s', callF fs gs n 21 [.tup [.int W, .int H], .tup (ts.map toolD), .tup (ms.map mvD), .tup (ns.map mvD)] s = .ok (.bl (alk W H (trP W H ts ms) (trP W H ts ns))) s' ∧ Gr s s' := by
  obtain ⟨k, rfl, hk⟩ := sc hn
  rw [call_at (f := c_are_alike) rfl rfl]
  obtain ⟨s1, e1, g1⟩ := e_trace (n := k) (s := s) P h1 x1 z1 hk
  obtain ⟨s2, e2, g2⟩ := e_trace (n := k) (s := s1) P h2 x2 z2 hk
  refine ⟨s2, ?_, g1.trans g2⟩
  unfold alk
  generalize trP W H ts ms = A at *
  generalize trP W H ts ns = B at *
  have e3 := fun s => e_least (n := k) (s := s) (f := A.1) (g := A.2) P.T.B (by omega)
  have e4 := fun s => e_least (n := k) (s := s) (f := B.1) (g := B.2) P.T.B (by omega)
  have q1 := eq_bD (W := W) (H := H) (f := A.1) (g := B.1)
  have q2 := eq_bD (W := W) (H := H) (f := lsF A.1 A.2) (g := lsF B.1 B.2)
  generalize eqB W H A.1 B.1 = c1 at *
  generalize eqB W H (lsF A.1 A.2) (lsF B.1 B.2) = c2 at *
  cases c1 <;> simp [c_are_alike, startE, List.replicate, frzR, e1, e2, e3, e4, q1, q2, borrows, isOwn]
/-! ### the mill -/
theorem runU_map {j : Int} {k : Bool} : ∀ {L : List P3} {f : F2}, runU W H (L.map fun b => (j, t, k, b)) f = runP k t W H L f
  | [], f => rfl
  | b :: L, f => by
    by_cases c : Vi k t W H f b 0
    · have e1 : runP k t W H (b :: L) f = none := if_pos c
      have e2 : runU W H ((b :: L).map fun b => (j, t, k, b)) f = none := if_pos c
      rw [e1, e2]
    · have e1 : runP k t W H (b :: L) f = runP k t W H L (cutf t.2.1 b.1 b.2.1 (b.2.2 + 0) f) := if_neg c
      have e2 : runU W H ((b :: L).map fun b => (j, t, k, b)) f = runU W H (L.map fun b => (j, t, k, b)) (cutf t.2.1 b.1 b.2.1 (b.2.2 + 0) f) := if_neg c
      rw [e1, e2, runU_map]
theorem runU_app : ∀ {A B : List Un} {f : F2}, runU W H (A ++ B) f = (runU W H A f).bind (runU W H B)
  | [], B, f => rfl
  | u :: A, B, f => by
    by_cases c : Vi u.2.2.1 u.2.1 W H f u.2.2.2 0
    · have e1 : runU W H (u :: A) f = none := if_pos c
      have e2 : runU W H ((u :: A) ++ B) f = none := if_pos c
      rw [e1, e2]; rfl
    · have e1 : runU W H (u :: A) f = runU W H A (cutf u.2.1.2.1 u.2.2.2.1 u.2.2.2.2.1 (u.2.2.2.2.2 + 0) f) := if_neg c
      have e2 : runU W H ((u :: A) ++ B) f = runU W H (A ++ B) (cutf u.2.1.2.1 u.2.2.2.1 u.2.2.2.2.1 (u.2.2.2.2.2 + 0) f) := if_neg c
      rw [e1, e2, runU_app]
def plD (tl : Option Tool) (p : P3) : D := match tl with
  | none => .non
  | some _ => p3D p
theorem LT.setup (B : BOk W H) (h : LT W H t) : Setup t.2.1 t.2.2.1 t.2.2.2 W H := ⟨h.ok.sd, ⟨h.ok.sh, h.sh⟩, h.ok.rm, B.W, B.H⟩
variable {i : Nat} (hi : i < s.length)
def bMil : Sms := (.c (.exM "Mill" (.var 3) "do" 54 (.c (.var 4) .nil)) .nil)
def EM (A B M : D) (i : Nat) (o : Option SV) : Env := [some (.val A), some (.val B), some (.val M), some (.val (.loc i)), o]
include hi in
theorem mil_ok {A B M : D} {mv : Mv} {o : Option SV} {tl tl' : Option Tool} {a a' : D} {c c' : Int} (e : callF fs gs n 54 [.loc i, mvD mv] (MS i s W H ts f tl a c) = .ok .non (MS i s W H ts g tl' a' c')) :
    stepF (callF fs gs n) gs (.nm 4) bMil (mvD mv) (EM A B M i o) (MS i s W H ts f tl a c) = .ok (.nx (EM A B M i (some (.val (mvD mv))))) (MS i s W H ts g tl' a' c') := by
  have g0 := MS_get (W := W) (H := H) (ts := ts) (f := f) (tl := tl) (p := a) (c := c) hi
  unfold stepF
  simp [bMil, EM, g0, exMo_obj mf_no.2.2.2, e]
include hi in
theorem mil_rs {A B M : D} {mv : Mv} {o : Option SV} {tl : Option Tool} {a d : D} {c : Int} {s' : Sto} (e1 : callF fs gs n 54 [.loc i, mvD mv] (MS i s W H ts f tl a c) = .err) (e2 : callF fs gs n (RX + 54) [.loc i, mvD mv] (MS i s W H ts f tl a c) = .ok (.tup [.str "Strike", d]) s') :
    stepF (callF fs gs n) gs (.nm 4) bMil (mvD mv) (EM A B M i o) (MS i s W H ts f tl a c) = .ok (.rs "Strike" d) s' := by
  have g0 := MS_get (W := W) (H := H) (ts := ts) (f := f) (tl := tl) (p := a) (c := c) hi
  unfold stepF
  simp [bMil, EM, g0, exMo_obj mf_no.2.2.2, e1, e2]
include hi in
theorem mil_loop {A B M : D} (P : PT W H ts) (hn : 5 ≤ n) : ∀ {ms : List Mv} {j : Int} {f : F2} {tl : Option Tool} {p : P3} {c : Int} {o : Option SV}, POk W H ts ms tl → Nw W H ts tl p → 0 ≤ c → c + ms.length * 36 ≤ 1000000 →
    (∀ g, runU W H (unitsL ts ms j tl p) f = some g → ∃ o' tl' a' c', forF (stepF (callF fs gs n) gs (.nm 4) bMil) (ms.map mvD) (EM A B M i o) (MS i s W H ts f tl (plD tl p) c) = .ok (.nx (EM A B M i o')) (MS i s W H ts g tl' a' c')) ∧
    (runU W H (unitsL ts ms j tl p) f = none → ∃ (d : D) (o' : SO), forF (stepF (callF fs gs n) gs (.nm 4) bMil) (ms.map mvD) (EM A B M i o) (MS i s W H ts f tl (plD tl p) c) = .ok (.rs "Strike" d) (s.set i o'))
  | [], j, f, tl, p, c, o, _, _, _, _ => ⟨fun g e => by
      have e : f = g := Option.some.inj e
      subst e
      exact ⟨o, tl, plD tl p, c, rfl⟩, fun e => by cases e⟩
  | .tool x :: r, j, f, tl, p, c, o, hp, hN, h0, hc => by
    rw [List.length_cons] at hc
    obtain ⟨h1, h2⟩ := hp
    obtain ⟨t, a1, a2, a3⟩ := P.take h1
    have hu : unitsL ts (.tool x :: r) j tl p = unitsL ts r (j + 1) (some t) (0, 0, 12) := by rw [← a3]; rfl
    rw [a3] at h2
    rw [hu]
    have e1 := e_do_tool (n := n) (s := s) (f := f) (a := plD tl p) (c := c) (tl := tl) hi (x := x) (by rw [← a2]; exact P.T.nm t a1) P.T.nm (by have := P.T.len; omega) a3 (P.lt t a1).fit (by omega)
    obtain ⟨i1, i2⟩ := mil_loop (A := A) (B := B) (M := M) P hn (ms := r) (j := j + 1) (f := f) (tl := some t) (p := (0, 0, 12)) (c := c) (o := some (.val (mvD (.tool x)))) h2 (Nw.home P a1) h0 (by omega)
    have e2 := mil_ok (n := n) (A := A) (B := B) (M := M) (o := o) hi e1
    refine ⟨fun g e => ?_, fun e => ?_⟩
    · obtain ⟨o', tl', a', c', e3⟩ := i1 g e
      exact ⟨o', tl', a', c', by rw [List.map_cons, forF_cons, e2, nextL_nx]; exact e3⟩
    · obtain ⟨d, o', e3⟩ := i2 e
      exact ⟨d, o', by rw [List.map_cons, forF_cons, e2, nextL_nx]; exact e3⟩
  | .way k q :: r, j, f, some t, p, c, o, hp, hN, h0, hc => by
    rw [List.length_cons] at hc
    obtain ⟨h1, h2⟩ := hp
    obtain ⟨n1, n2⟩ := hN t rfl
    have T := P.T.ok t n1
    have hl := us36 P.T.B T n2 h1
    have hu : unitsL ts (.way k q :: r) j (some t) p = (usL p q).map (fun b => (j, t, k, b)) ++ unitsL ts r (j + 1) (some t) q := rfl
    rw [hu, runU_app, runU_map]
    obtain ⟨d1, d2⟩ := e_do_way (n := n) (s := s) (f := f) (ts := ts) (k := k) (c := c) hi ((P.lt t n1).setup P.T.B) n2 h1 (us_fit n2 h1) h0 (by omega) us_last hn
    cases hr : runP k t W H (usL p q) f with
    | none =>
      refine ⟨fun g e => by (cases e), fun _ => ?_⟩
      obtain ⟨d, o', x1, x2⟩ := d2 hr
      have e2 := mil_rs (n := n) (A := A) (B := B) (M := M) (o := o) hi x1 x2
      exact ⟨d, o', by
        rw [List.map_cons, forF_cons]
        show nextL (stepF (callF fs gs n) gs (.nm 4) bMil (mvD (.way k q)) (EM A B M i o) (MS i s W H ts f (some t) (p3D p) c)) _ = _
        rw [e2, nextL_rs]⟩
    | some f1 =>
      have e1 := d1 f1 hr
      have e2 := mil_ok (n := n) (A := A) (B := B) (M := M) (o := o) hi e1
      obtain ⟨i1, i2⟩ := mil_loop (A := A) (B := B) (M := M) P hn (ms := r) (j := j + 1) (f := f1) (tl := some t) (p := q) (c := c + (usL p q).length) (o := some (.val (mvD (.way k q)))) h2 (fun u e => by cases e; exact ⟨n1, h1⟩) (by omega) (by omega)
      refine ⟨fun g e => ?_, fun e => ?_⟩
      · obtain ⟨o', tl', a', c', e3⟩ := i1 g e
        exact ⟨o', tl', a', c', by
          rw [List.map_cons, forF_cons]
          show nextL (stepF (callF fs gs n) gs (.nm 4) bMil (mvD (.way k q)) (EM A B M i o) (MS i s W H ts f (some t) (p3D p) c)) _ = _
          rw [e2, nextL_nx]; exact e3⟩
      · obtain ⟨d, o', e3⟩ := i2 e
        exact ⟨d, o', by
          rw [List.map_cons, forF_cons]
          show nextL (stepF (callF fs gs n) gs (.nm 4) bMil (mvD (.way k q)) (EM A B M i o) (MS i s W H ts f (some t) (p3D p) c)) _ = _
          rw [e2, nextL_nx]; exact e3⟩
  | .way _ _ :: _, j, f, none, p, c, o, hp, _, _, _ => hp.elim
end
section
variable {n : Nat} {s : Sto} {W H : Nat} {f g h : F2} {ts : List Tool}
theorem e_mill (B : BOk W H) (hn : 2 ≤ n) : callF fs gs n 47 [.loc s.length, bD W H f, .tup (ts.map toolD)] (s ++ [SO.obj "Mill" []]) = .ok .non (MS s.length (s ++ [SO.obj "Mill" []]) W H ts f none .non 0) := by
  obtain ⟨m2, rfl, hm2⟩ := sc hn
  have hi : s.length < (s ++ [SO.obj "Mill" []]).length := by simp
  rw [call_at (f := c_Mill_init) rfl rfl]
  have e0 := fun s => e_size (n := m2) (s := s) (W := W) (H := H) (f := f) (by omega) B.H.1
  have g1 : (s ++ [SO.obj "Mill" []])[s.length]? = some (.obj "Mill" []) := by simp
  have eb : c_Mill_init.body = .c (.setF 0 "Mill" ["_block", "_tools", "_size"] (.c (.var 1) (.c (.var 2) (.c (.call 2 (.c (.var 1) .nil)) .nil)))) (.c (.setF 0 "Mill" ["_tool", "_place", "_step"] (.c .non (.c .non (.c (.int 0) .nil)))) .nil) := rfl
  have es : startE c_Mill_init.N.length [.loc s.length, bD W H f, .tup (ts.map toolD)] = [some (SV.val (.loc s.length)), some (.val (bD W H f)), some (.val (.tup (ts.map toolD)))] := rfl
  have l1 : evL (callF fs gs m2) gs false (.c (.var 1) (.c (.var 2) (.c (.call 2 (.c (.var 1) .nil)) .nil))) [some (SV.val (.loc s.length)), some (.val (bD W H f)), some (.val (.tup (ts.map toolD)))] (s ++ [SO.obj "Mill" []]) = .ok [bD W H f, .tup (ts.map toolD), .tup [.int W, .int H]] (s ++ [SO.obj "Mill" []]) := by simp [e0, borrows, isOwn]
  have l2 : ∀ s', evL (callF fs gs m2) gs false (.c .non (.c .non (.c (.int 0) .nil))) [some (SV.val (.loc s.length)), some (.val (bD W H f)), some (.val (.tup (ts.map toolD)))] s' = .ok [.non, .non, .int 0] s' := fun s' => by simp
  have x1 : exec (callF fs gs m2) gs (.setF 0 "Mill" ["_block", "_tools", "_size"] (.c (.var 1) (.c (.var 2) (.c (.call 2 (.c (.var 1) .nil)) .nil)))) [some (SV.val (.loc s.length)), some (.val (bD W H f)), some (.val (.tup (ts.map toolD)))] (s ++ [SO.obj "Mill" []]) = .ok (.nx [some (SV.val (.loc s.length)), some (.val (bD W H f)), some (.val (.tup (ts.map toolD)))]) ((s ++ [SO.obj "Mill" []]).set s.length (SO.obj "Mill" [("_block", bD W H f), ("_tools", .tup (ts.map toolD)), ("_size", .tup [.int W, .int H])])) := by
    rw [exec_setF (n := s.length) rfl, l1, ok_bind, g1, setFO_obj rfl (by decide)]
    rfl
  have x2 : exec (callF fs gs m2) gs (.setF 0 "Mill" ["_tool", "_place", "_step"] (.c .non (.c .non (.c (.int 0) .nil)))) [some (SV.val (.loc s.length)), some (.val (bD W H f)), some (.val (.tup (ts.map toolD)))] ((s ++ [SO.obj "Mill" []]).set s.length (SO.obj "Mill" [("_block", bD W H f), ("_tools", .tup (ts.map toolD)), ("_size", .tup [.int W, .int H])])) = .ok (.nx [some (SV.val (.loc s.length)), some (.val (bD W H f)), some (.val (.tup (ts.map toolD)))]) (MS s.length (s ++ [SO.obj "Mill" []]) W H ts f none .non 0) := by
    rw [exec_setF (n := s.length) rfl, l2, ok_bind, List.getElem?_set_self hi, setFO_obj rfl (by show 3 + 3 < 1000; decide), List.set_set]
    rfl
  rw [eb, es, execs_c, x1, nextF_nx, execs_c, x2, nextF_nx, execs_nil]
  rfl
theorem set_end {o o' : SO} : (s ++ [o]).set s.length o' = s ++ [o'] := by simp
/-- what the mill leaves, or that it strikes -/
theorem e_behind {ms : List Mv} (P : PT W H ts) (h : POk W H ts ms none) (hz : ms.length ≤ 1000) (hn : 6 ≤ n) :
    (∀ g, runU W H (unitsL ts ms 0 none (0, 0, 12)) f = some g → ∃ s', callF fs gs n 15 [bD W H f, .tup (ts.map toolD), .tup (ms.map mvD)] s = .ok (bD W H g) s' ∧ Gr s s') ∧
    (runU W H (unitsL ts ms 0 none (0, 0, 12)) f = none → ∃ d s', callF fs gs n 15 [bD W H f, .tup (ts.map toolD), .tup (ms.map mvD)] s = .err ∧ callF fs gs n (RX + 15) [bD W H f, .tup (ts.map toolD), .tup (ms.map mvD)] s = .ok (.tup [.str "Strike", d]) s' ∧ Gr s s') := by
  obtain ⟨m, rfl, hm'⟩ := sc hn
  rw [call_at (f := c_block_behind) rfl rfl, callX_at (f := c_block_behind) rfl (by decide) rfl]
  have hi : s.length < (s ++ [SO.obj "Mill" []]).length := by simp
  obtain ⟨m1, m2⟩ := mil_loop (n := m) (s := s ++ [.obj "Mill" []]) (A := bD W H f) (B := .tup (ts.map toolD)) (M := .tup (ms.map mvD)) hi P hm' (ms := ms) (j := 0) (f := f) (tl := none) (p := (0, 0, 12)) (c := 0) (o := none) h Nw.none (by omega) (by omega)
  have eb : c_block_behind.body = .c (.asg (.nm 3) (.new "Mill" 47 (.c (.var 0) (.c (.var 1) .nil)))) (.c (.for (.nm 4) (.seq (.var 2)) bMil) (.c (.ret (.mth "Mill" (.var 3) "block" 48 .nil)) .nil)) := rfl
  have es : startE c_block_behind.N.length [bD W H f, .tup (ts.map toolD), .tup (ms.map mvD)] = [some (SV.val (bD W H f)), some (.val (.tup (ts.map toolD))), some (.val (.tup (ms.map mvD))), none, none] := rfl
  have ei := e_mill (n := m) (s := s) (f := f) (ts := ts) P.T.B (by omega)
  have e2 : exec (callF fs gs m) gs (.asg (.nm 3) (.new "Mill" 47 (.c (.var 0) (.c (.var 1) .nil)))) [some (SV.val (bD W H f)), some (.val (.tup (ts.map toolD))), some (.val (.tup (ms.map mvD))), none, none] s = .ok (.nx (EM (bD W H f) (.tup (ts.map toolD)) (.tup (ms.map mvD)) s.length none)) (MS s.length (s ++ [SO.obj "Mill" []]) W H ts f none .non 0) := by
    simp [ei, EM]
  have e3 : ∀ s', evI (callF fs gs m) gs false (.seq (.var 2)) (EM (bD W H f) (.tup (ts.map toolD)) (.tup (ms.map mvD)) s.length none) s' = .ok (ms.map mvD) s' := fun s' => by simp [EM, items?]
  have e4 : frzI (EM (bD W H f) (.tup (ts.map toolD)) (.tup (ms.map mvD)) s.length none) (.seq (.var 2)) = EM (bD W H f) (.tup (ts.map toolD)) (.tup (ms.map mvD)) s.length none := rfl
  rw [eb, es, execs_c, e2, nextF_nx, execs_c, exec_for, e4, e3, ok_bind]
  refine ⟨fun g e => ?_, fun e => ?_⟩
  · obtain ⟨o', tl', a', c', e⟩ := m1 g e
    refine ⟨MS s.length (s ++ [SO.obj "Mill" []]) W H ts g tl' a' c', ?_, ⟨[.obj "Mill" (mf W H ts g tl' a' c')], by unfold MS; exact set_end⟩⟩
    have e' : forF (stepF (callF fs gs m) gs (.nm 4) bMil) (ms.map mvD) (EM (bD W H f) (.tup (ts.map toolD)) (.tup (ms.map mvD)) s.length none) (MS s.length (s ++ [SO.obj "Mill" []]) W H ts f none .non 0) = .ok (.nx (EM (bD W H f) (.tup (ts.map toolD)) (.tup (ms.map mvD)) s.length o')) (MS s.length (s ++ [SO.obj "Mill" []]) W H ts g tl' a' c') := e
    rw [e', nextF_nx]
    have g0 := MS_get (W := W) (H := H) (ts := ts) (f := g) (tl := tl') (p := a') (c := c') hi
    have e5 : callF fs gs m 48 [.loc s.length] (MS s.length (s ++ [SO.obj "Mill" []]) W H ts g tl' a' c') = .ok (bD W H g) (MS s.length (s ++ [SO.obj "Mill" []]) W H ts g tl' a' c') := by
      obtain ⟨m2, rfl, hm2⟩ := sc (k := 0) (by omega : 0 + 1 ≤ m)
      rw [call_at (f := c_Mill_block) rfl rfl]
      simp [c_Mill_block, startE, List.replicate, frzR, g0]
    simp [EM, frzR, g0, mthO_obj mf_no.1, e5]
  · obtain ⟨d, o', e⟩ := m2 e
    refine ⟨d, s ++ [o'], ?_⟩
    have e' : forF (stepF (callF fs gs m) gs (.nm 4) bMil) (ms.map mvD) (EM (bD W H f) (.tup (ts.map toolD)) (.tup (ms.map mvD)) s.length none) (MS s.length (s ++ [SO.obj "Mill" []]) W H ts f none .non 0) = .ok (.rs "Strike" d) ((s ++ [SO.obj "Mill" []]).set s.length o') := e
    rw [e', nextF_rs, set_end]
    exact ⟨rfl, rfl, ⟨[o'], rfl⟩⟩
theorem e_leftOr {ms : List Mv} (P : PT W H ts) (h : POk W H ts ms none) (hz : ms.length ≤ 1000) (hn : 7 ≤ n) :
    ∃ s', callF fs gs n 22 [bD W H f, .tup (ts.map toolD), .tup (ms.map mvD)] s = .ok (oB W H (runU W H (unitsL ts ms 0 none (0, 0, 12)) f)) s' ∧ Gr s s' := by
  obtain ⟨m, rfl, hm'⟩ := sc hn
  rw [call_at (f := c_left_or_none) rfl rfl]
  obtain ⟨m1, m2⟩ := e_behind (n := m) (s := s) (f := f) P h hz hm'
  cases hr : runU W H (unitsL ts ms 0 none (0, 0, 12)) f with
  | some g =>
    obtain ⟨s', e, g1⟩ := m1 g hr
    exact ⟨s', by simp [c_left_or_none, startE, List.replicate, e, borrows, isOwn, oB], g1⟩
  | none =>
    obtain ⟨d, s', e1, e2, g1⟩ := m2 hr
    exact ⟨s', by simp [c_left_or_none, startE, List.replicate, e1, e2, borrows, isOwn, oB], g1⟩
theorem e_lleft {ms : List Mv} (P : PT W H ts) (h : POk W H ts ms none) (hz : ms.length ≤ 1000) (hn : 7 ≤ n) :
    ∃ s', callF fs gs n 41 [bD W H f, .tup (ts.map toolD), .tup (ms.map mvD)] s = .ok (oB W H (runU W H (unitsL ts ms 0 none (0, 0, 12)) f)) s' ∧ Gr s s' := by
  obtain ⟨m, rfl, hm'⟩ := sc hn
  rw [call_at (f := c__law_left) rfl rfl]
  obtain ⟨m1, m2⟩ := e_behind (n := m) (s := s) (f := f) P h hz hm'
  cases hr : runU W H (unitsL ts ms 0 none (0, 0, 12)) f with
  | some g =>
    obtain ⟨s', e, g1⟩ := m1 g hr
    exact ⟨s', by simp [c__law_left, startE, List.replicate, e, borrows, isOwn, oB], g1⟩
  | none =>
    obtain ⟨d, s', e1, e2, g1⟩ := m2 hr
    exact ⟨s', by simp [c__law_left, startE, List.replicate, e1, e2, borrows, isOwn, oB], g1⟩
/-- what a plan leaves -/
def lfP (W H : Nat) (ts : List Tool) (ms : List Mv) (f : F2) : Option F2 := runU W H (unitsL ts ms 0 none (0, 0, 12)) f
theorem e_parts {ms ns : List Mv} (P : PT W H ts) (h1 : POk W H ts ms none) (h2 : POk W H ts ns none) (z1 : ms.length ≤ 1000) (z2 : ns.length ≤ 1000) (hn : 8 ≤ n) :
    ∃ s', callF fs gs n 23 [bD W H f, .tup (ts.map toolD), .tup (ms.map mvD), .tup (ns.map mvD)] s = .ok (.bl (!eqO W H (lfP W H ts ms f) (lfP W H ts ns f))) s' ∧ Gr s s' := by
  obtain ⟨m, rfl, hm'⟩ := sc hn
  rw [call_at (f := c_parts_on) rfl rfl]
  obtain ⟨s1, e1, g1⟩ := e_leftOr (n := m) (s := s) (f := f) P h1 z1 hm'
  obtain ⟨s2, e2, g2⟩ := e_leftOr (n := m) (s := s1) (f := f) P h2 z2 hm'
  refine ⟨s2, ?_, g1.trans g2⟩
  unfold lfP
  generalize runU W H (unitsL ts ms 0 none (0, 0, 12)) f = A at *
  generalize runU W H (unitsL ts ns 0 none (0, 0, 12)) f = B at *
  have q := ne_oB (W := W) (H := H) (a := A) (b := B)
  simp [c_parts_on, startE, List.replicate, frzR, e1, e2, q, borrows, isOwn]
end
end PV.K81
set_option maxRecDepth 100000
set_option maxHeartbeats 4000000
namespace PV
open PySem
open Classical in
theorem eq_p2 {a b c d : Int} : cmpD .eq (.tup [.int a, .int b]) (.tup [.int c, .int d]) = some (decide (a = c ∧ b = d)) := by
  rw [eqD_dat ((DatK.tup (k := 0) fun x hx => by simp only [List.mem_cons, List.not_mem_nil, or_false] at hx; rcases hx with rfl | rfl <;> exact DatK.int).dat (by omega)) ((DatK.tup (k := 0) fun x hx => by simp only [List.mem_cons, List.not_mem_nil, or_false] at hx; rcases hx with rfl | rfl <;> exact DatK.int).dat (by omega))]
  congr 1
  rw [Bool.eq_iff_iff]
  simp only [decide_eq_true_eq]
  constructor
  · intro e
    simp only [D.tup.injEq, List.cons.injEq, D.int.injEq, and_true] at e
    exact e
  · rintro ⟨rfl, rfl⟩; rfl
end PV
namespace PV.K81
open PySem PV
section
variable {n : Nat} {s : Sto} {W H : Nat} {f g h m d : F2} {t : Tool} {ts : List Tool}
/-! ### the told block -/
def dfr (A B : F2 × F2) (x y : Int) : Prop := A.1 x y ≠ B.1 x y ∨ mn (A.1 x y) (A.2 x y) ≠ mn (B.1 x y) (B.2 x y)
def hgt (A B : F2 × F2) (x y : Int) : Int := if A.1 x y = B.1 x y then A.1 x y else mn (A.1 x y) (B.1 x y) + 1
def spk (A B : F2 × F2) (x y : Int) : F2 := fun u v => if u = x ∧ v = y then hgt A B x y else 0
def trD (W H : Nat) (A : F2 × F2) : D := .tup [bD W H A.1, bD W H A.2]
def EP (W H : Nat) (T M N : D) (A B : F2 × F2) (o6 o7 o8 o9 o10 : Option SV) : Env := [some (.val (.tup [.int W, .int H])), some (.val T), some (.val M), some (.val N), some (.val (trD W H A)), some (.val (trD W H B)), o6, o7, o8, o9, o10, none, none, none, none, none]
def bPi : Sms := (.c (.par [8, 9] (.v (.idx (.idx (.idx (.var 4) (.int 0)) (.var 6)) (.var 7)) (.v (.idx (.idx (.idx (.var 5) (.int 0)) (.var 6)) (.var 7)) .nil))) (.c (.asg (.nm 10) (.tup (.c (.blt .min (.c (.var 8) (.c (.idx (.idx (.idx (.var 4) (.int 1)) (.var 6)) (.var 7)) .nil))) (.c (.blt .min (.c (.var 9) (.c (.idx (.idx (.idx (.var 5) (.int 1)) (.var 6)) (.var 7)) .nil))) .nil)))) (.c (.ite (.bop false (.c (.cmp .ne (.var 8) (.var 9)) (.c (.cmp .ne (.idx (.var 10) (.int 0)) (.idx (.var 10) (.int 1))) .nil))) (.c (.asg (.nm 11) (.ite (.cmp .eq (.var 8) (.var 9)) (.var 8) (.bin .add (.blt .min (.c (.var 8) (.c (.var 9) .nil))) (.int 1)))) (.c (.asg (.nm 12) (.fz (.cp1 (.fz (.cp1 (.ite (.cmp .eq (.tup (.c (.var 14) (.c (.var 13) .nil))) (.tup (.c (.var 7) (.c (.var 6) .nil)))) (.var 11) (.int 0)) (.nm 14) (.rg1 (.idx (.var 0) (.int 0))) .n [14])) (.nm 13) (.rg1 (.idx (.var 0) (.int 1))) .n [13]))) (.c (.ret (.blt .tup (.c (.fz (.cp1 (.blt .tup (.c (.var 15) .nil)) (.nm 15) (.seq (.var 12)) .n [15])) .nil))) .nil))) .nil) .nil)))
theorem idx_trD0 {A : F2 × F2} : idxD (trD W H A) (.int 0) = some (bD W H A.1) := idx_0
theorem idx_trD1 {A : F2 × F2} : idxD (trD W H A) (.int 1) = some (bD W H A.2) := idx_1
theorem deref_trD {A : F2 × F2} : deref s (trD W H A) = trD W H A := id rfl
/-- rows of lists that become tuples -/
theorem spk_rows {T M N : D} {A B : F2 × F2} {x y : Int} {o10 : D} (BB : BOk W H) : 
    evF (callF fs gs n) gs (.cp1 (.fz (.cp1 (.ite (.cmp .eq (.tup (.c (.var 14) (.c (.var 13) .nil))) (.tup (.c (.var 7) (.c (.var 6) .nil)))) (.var 11) (.int 0)) (.nm 14) (.rg1 (.idx (.var 0) (.int 0))) .n [14])) (.nm 13) (.rg1 (.idx (.var 0) (.int 1))) .n [13])
      [some (SV.val (.tup [.int W, .int H])), some (.val T), some (.val M), some (.val N), some (.val (trD W H A)), some (.val (trD W H B)), some (.val (.int y)), some (.val (.int x)), some (.val (.int (A.1 x y))), some (.val (.int (B.1 x y))), some (.val o10), some (.val (.int (hgt A B x y))), none, none, none, none] s
      = .ok ((List.range H).map fun (b : Nat) => D.lst ((List.range W).map fun (a : Nat) => D.int (spk A B x y a b))) s := by
  have hW := BB.W
  have hH := BB.H
  have inner : ∀ (b : Nat) env, env = [some (SV.val (.tup [.int W, .int H])), some (.val T), some (.val M), some (.val N), some (.val (trD W H A)), some (.val (trD W H B)), some (.val (.int y)), some (.val (.int x)), some (.val (.int (A.1 x y))), some (.val (.int (B.1 x y))), some (.val o10), some (.val (.int (hgt A B x y))), none, some (.val (.int b)), none, none] →
      evF (callF fs gs n) gs (.cp1 (.ite (.cmp .eq (.tup (.c (.var 14) (.c (.var 13) .nil))) (.tup (.c (.var 7) (.c (.var 6) .nil)))) (.var 11) (.int 0)) (.nm 14) (.rg1 (.idx (.var 0) (.int 0))) .n [14]) env s = .ok ((List.range W).map fun (a : Nat) => D.int (spk A B x y a b)) s := by
    rintro b env rfl
    have r := rng1_nat (W := W) (by omega)
    refine cp1_map (xs := List.range W) (mk := fun (a : Nat) => D.int a) (by simp [r]) (fun a ha => ⟨_, rfl, ?_⟩) (by rw [List.length_range]; show _ ≤ 16777216; omega)
    have q := eq_p2 (a := a) (b := b) (c := x) (d := y)
    unfold spk
    by_cases c : (a : Int) = x ∧ (b : Int) = y
    · rw [if_pos c]
      rw [decide_eq_true c] at q
      simp [noOwn, wipeE, q]
    · rw [if_neg c]
      rw [decide_eq_false c] at q
      simp [noOwn, wipeE, q]
  have r := rng1_nat (W := H) (by omega)
  refine cp1_map (xs := List.range H) (mk := fun (b : Nat) => D.int b) (by simp [r]) (fun b hb => ⟨_, rfl, ?_⟩) (by rw [List.length_range]; show _ ≤ 16777216; omega)
  have e := inner b _ rfl
  simp [noOwn, wipeE, e]
theorem pi_turn {T M N : D} {A B : F2 × F2} {x y : Int} {o7 o8 o9 o10 : Option SV} (BB : BOk W H) (hi : InB W H (x, y)) :
    (¬ dfr A B x y → ∃ p8 p9 p10, stepF (callF fs gs n) gs (.nm 7) bPi (.int x) (EP W H T M N A B (some (.val (.int y))) o7 o8 o9 o10) s = .ok (.nx (EP W H T M N A B (some (.val (.int y))) (some (.val (.int x))) p8 p9 p10)) s) ∧
    (dfr A B x y → stepF (callF fs gs n) gs (.nm 7) bPi (.int x) (EP W H T M N A B (some (.val (.int y))) o7 o8 o9 o10) s = .ok (.ret (bD W H (spk A B x y))) s) := by
  have hi : (0 ≤ x ∧ x < W) ∧ 0 ≤ y ∧ y < H := hi
  have ey : ((y.toNat : Nat) : Int) = y := by omega
  have hW := BB.W
  have hH := BB.H
  have iA1 := idx_bD (W := W) (H := H) (f := A.1) (y := y) hi.2
  have iA2 := idx_bD (W := W) (H := H) (f := A.2) (y := y) hi.2
  have iB1 := idx_bD (W := W) (H := H) (f := B.1) (y := y) hi.2
  have iB2 := idx_bD (W := W) (H := H) (f := B.2) (y := y) hi.2
  have jA1 := idx_row (W := W) (f := A.1) (x := x) (b := y.toNat) hi.1
  have jA2 := idx_row (W := W) (f := A.2) (x := x) (b := y.toNat) hi.1
  have jB1 := idx_row (W := W) (f := B.1) (x := x) (b := y.toNat) hi.1
  have jB2 := idx_row (W := W) (f := B.2) (x := x) (b := y.toNat) hi.1
  rw [ey] at jA1 jA2 jB1 jB2
  have t0 := idx_trD0 (W := W) (H := H) (A := A)
  have t1 := idx_trD1 (W := W) (H := H) (A := A)
  have u0 := idx_trD0 (W := W) (H := H) (A := B)
  have u1 := idx_trD1 (W := W) (H := H) (A := B)
  have eb : bindT (.nm 7) (.int x) (EP W H T M N A B (some (.val (.int y))) o7 o8 o9 o10) = some (EP W H T M N A B (some (.val (.int y))) (some (.val (.int x))) o8 o9 o10) := rfl
  have dA := fun s => deref_trD (s := s) (W := W) (H := H) (A := A)
  have dB := fun s => deref_trD (s := s) (W := W) (H := H) (A := B)
  have x1 : ∀ rest, execs (callF fs gs n) gs (.c (.par [8, 9] (.v (.idx (.idx (.idx (.var 4) (.int 0)) (.var 6)) (.var 7)) (.v (.idx (.idx (.idx (.var 5) (.int 0)) (.var 6)) (.var 7)) .nil))) (.c (.asg (.nm 10) (.tup (.c (.blt .min (.c (.var 8) (.c (.idx (.idx (.idx (.var 4) (.int 1)) (.var 6)) (.var 7)) .nil))) (.c (.blt .min (.c (.var 9) (.c (.idx (.idx (.idx (.var 5) (.int 1)) (.var 6)) (.var 7)) .nil))) .nil)))) rest)) (EP W H T M N A B (some (.val (.int y))) (some (.val (.int x))) o8 o9 o10) s
      = execs (callF fs gs n) gs rest (EP W H T M N A B (some (.val (.int y))) (some (.val (.int x))) (some (.val (.int (A.1 x y)))) (some (.val (.int (B.1 x y)))) (some (.val (.tup [.int (mn (A.1 x y) (A.2 x y)), .int (mn (B.1 x y) (B.2 x y))])))) s := fun rest => by
    simp [EP, t0, t1, u0, u1, iA1, iA2, iB1, iB2, jA1, jA2, jB1, jB2, dA, dB]
  unfold stepF
  rw [eb]
  constructor
  · intro hd
    unfold dfr at hd
    have h1 : A.1 x y = B.1 x y := Classical.not_not.mp fun q => hd (.inl q)
    have h2 : mn (A.1 x y) (A.2 x y) = mn (B.1 x y) (B.2 x y) := Classical.not_not.mp fun q => hd (.inr q)
    refine ⟨some (.val (.int (A.1 x y))), some (.val (.int (B.1 x y))), some (.val (.tup [.int (mn (A.1 x y) (A.2 x y)), .int (mn (B.1 x y) (B.2 x y))])), ?_⟩
    show execs _ _ bPi _ _ = _
    unfold bPi
    rw [x1]
    rw [h1] at h2 ⊢
    simp [EP, h2]
  · intro hd
    show execs _ _ bPi _ _ = _
    unfold bPi
    rw [x1]
    have c1 : ∀ rest, execs (callF fs gs n) gs (.c (.ite (.bop false (.c (.cmp .ne (.var 8) (.var 9)) (.c (.cmp .ne (.idx (.var 10) (.int 0)) (.idx (.var 10) (.int 1))) .nil))) rest .nil) .nil) (EP W H T M N A B (some (.val (.int y))) (some (.val (.int x))) (some (.val (.int (A.1 x y)))) (some (.val (.int (B.1 x y)))) (some (.val (.tup [.int (mn (A.1 x y) (A.2 x y)), .int (mn (B.1 x y) (B.2 x y))])))) s = nextF (execs (callF fs gs n) gs rest (EP W H T M N A B (some (.val (.int y))) (some (.val (.int x))) (some (.val (.int (A.1 x y)))) (some (.val (.int (B.1 x y)))) (some (.val (.tup [.int (mn (A.1 x y) (A.2 x y)), .int (mn (B.1 x y) (B.2 x y))])))) s) (execs (callF fs gs n) gs .nil) := fun rest => by
      unfold dfr at hd
      by_cases h1 : A.1 x y = B.1 x y
      · have h2 := hd.resolve_left fun q => q h1
        rw [execs_c, exec_ite]
        simp [EP, h1]
        rw [h1] at h2
        simp [h2]
      · rw [execs_c, exec_ite]
        simp [EP, h1]
    rw [c1]
    have x2 : ∀ rest, execs (callF fs gs n) gs (.c (.asg (.nm 11) (.ite (.cmp .eq (.var 8) (.var 9)) (.var 8) (.bin .add (.blt .min (.c (.var 8) (.c (.var 9) .nil))) (.int 1)))) rest) (EP W H T M N A B (some (.val (.int y))) (some (.val (.int x))) (some (.val (.int (A.1 x y)))) (some (.val (.int (B.1 x y)))) (some (.val (.tup [.int (mn (A.1 x y) (A.2 x y)), .int (mn (B.1 x y) (B.2 x y))])))) s = execs (callF fs gs n) gs rest [some (SV.val (.tup [.int W, .int H])), some (.val T), some (.val M), some (.val N), some (.val (trD W H A)), some (.val (trD W H B)), some (.val (.int y)), some (.val (.int x)), some (.val (.int (A.1 x y))), some (.val (.int (B.1 x y))), some (.val (.tup [.int (mn (A.1 x y) (A.2 x y)), .int (mn (B.1 x y) (B.2 x y))])), some (.val (.int (hgt A B x y))), none, none, none, none] s := fun rest => by
      unfold hgt
      by_cases h1 : A.1 x y = B.1 x y
      · rw [if_pos h1]; simp [EP, h1]
      · rw [if_neg h1]; simp [EP, h1]
    rw [x2]
    have e3 := spk_rows (n := n) (s := s) (T := T) (M := M) (N := N) (A := A) (B := B) (x := x) (y := y) (o10 := .tup [.int (mn (A.1 x y) (A.2 x y)), .int (mn (B.1 x y) (B.2 x y))]) BB
    have e4 : ∀ env : Env, env[12]? = some (some (.val (.lst ((List.range H).map fun (b : Nat) => D.lst ((List.range W).map fun (a : Nat) => D.int (spk A B x y a b)))))) → env.length = 16 → evF (callF fs gs n) gs (.cp1 (.blt .tup (.c (.var 15) .nil)) (.nm 15) (.seq (.var 12)) .n [15]) env s = .ok ((List.range H).map (rowD W (spk A B x y))) s := fun env h hl => by
      refine cp1_map (xs := List.range H) (mk := fun (b : Nat) => D.lst ((List.range W).map fun (a : Nat) => D.int (spk A B x y a b))) (by simp [h, items?]) (fun b hb => ⟨_, rfl, ?_⟩) (by rw [List.length_range]; show _ ≤ 16777216; omega)
      have g : (((wipeE (noOwn env) [15])).set 15 (some (SV.val (D.lst ((List.range W).map fun (a : Nat) => D.int (spk A B x y a b))))))[15]? = some (some (.val (D.lst ((List.range W).map fun (a : Nat) => D.int (spk A B x y a b))))) := List.getElem?_set_self (by simp [wipeE, noOwn, hl])
      generalize (wipeE (noOwn env) [15]).set 15 (some (SV.val (D.lst ((List.range W).map fun (a : Nat) => D.int (spk A B x y a b))))) = env2 at g
      simp [g]
      rfl
    have e5 : D.tup ((List.range H).map (rowD W (spk A B x y))) = bD W H (spk A B x y) := rfl
    rw [execs_c, exec_asg, ev_fz, e3, ok_bind, ok_bind, bindT_nm, stE_some, nextF_nx, execs_c, exec_ret]
    have e6 := e4 [some (SV.val (.tup [.int W, .int H])), some (.val T), some (.val M), some (.val N), some (.val (trD W H A)), some (.val (trD W H B)), some (.val (.int y)), some (.val (.int x)), some (.val (.int (A.1 x y))), some (.val (.int (B.1 x y))), some (.val (.tup [.int (mn (A.1 x y) (A.2 x y)), .int (mn (B.1 x y) (B.2 x y))])), some (.val (.int (hgt A B x y))), some (.val (.lst ((List.range H).map fun (b : Nat) => D.lst ((List.range W).map fun (a : Nat) => D.int (spk A B x y a b))))), none, none, none] rfl rfl
    generalize (List.range H).map (rowD W (spk A B x y)) = Q at *
    generalize (List.range H).map (fun (b : Nat) => D.lst ((List.range W).map fun (a : Nat) => D.int (spk A B x y a b))) = R at *
    simp [frzR, e6, e5]
end
end PV.K81
set_option maxRecDepth 100000
set_option maxHeartbeats 4000000
namespace PV.K81
open PySem PV
section
variable {n : Nat} {s : Sto} {W H : Nat} {f g h m d : F2} {t : Tool} {ts : List Tool}
theorem pi_loop {T M N : D} {A B : F2 × F2} {y : Int} (BB : BOk W H) (hy : 0 ≤ y ∧ y < H) : ∀ {xs : List Int} {o7 o8 o9 o10 : Option SV}, (∀ x ∈ xs, 0 ≤ x ∧ x < W) →
    (∃ p7 p8 p9 p10, forF (stepF (callF fs gs n) gs (.nm 7) bPi) (xs.map D.int) (EP W H T M N A B (some (.val (.int y))) o7 o8 o9 o10) s = .ok (.nx (EP W H T M N A B (some (.val (.int y))) p7 p8 p9 p10)) s ∧ ∀ x ∈ xs, ¬ dfr A B x y) ∨
    (∃ x ∈ xs, dfr A B x y ∧ forF (stepF (callF fs gs n) gs (.nm 7) bPi) (xs.map D.int) (EP W H T M N A B (some (.val (.int y))) o7 o8 o9 o10) s = .ok (.ret (bD W H (spk A B x y))) s)
  | [], o7, o8, o9, o10, _ => .inl ⟨o7, o8, o9, o10, rfl, fun x hx => by cases hx⟩
  | x :: xs, o7, o8, o9, o10, h => by
    obtain ⟨a1, a2⟩ := pi_turn (n := n) (s := s) (T := T) (M := M) (N := N) (A := A) (B := B) (x := x) (y := y) (o7 := o7) (o8 := o8) (o9 := o9) (o10 := o10) BB ⟨h x List.mem_cons_self, hy⟩
    by_cases c : dfr A B x y
    · exact .inr ⟨x, List.mem_cons_self, c, by rw [List.map_cons, forF_cons, a2 c, nextL_ret]⟩
    · obtain ⟨p8, p9, p10, e⟩ := a1 c
      rcases pi_loop (T := T) (M := M) (N := N) (A := A) (B := B) BB hy (xs := xs) (o7 := some (.val (.int x))) (o8 := p8) (o9 := p9) (o10 := p10) (fun z hz => h z (List.mem_cons_of_mem _ hz)) with ⟨q7, q8, q9, q10, e2, h2⟩ | ⟨z, hz, hd, e2⟩
      · refine .inl ⟨q7, q8, q9, q10, by rw [List.map_cons, forF_cons, e, nextL_nx, e2], fun z hz => ?_⟩
        rcases List.mem_cons.mp hz with rfl | hz
        · exact c
        · exact h2 z hz
      · exact .inr ⟨z, List.mem_cons_of_mem _ hz, hd, by rw [List.map_cons, forF_cons, e, nextL_nx, e2]⟩
def bPo : Sms := (.c (.for (.nm 7) (.rg1 (.idx (.var 0) (.int 0))) bPi) .nil)
theorem po_loop {T M N : D} {A B : F2 × F2} (BB : BOk W H) : ∀ {ys : List Int} {o6 o7 o8 o9 o10 : Option SV}, (∀ y ∈ ys, 0 ≤ y ∧ y < H) →
    (∃ p6 p7 p8 p9 p10, forF (stepF (callF fs gs n) gs (.nm 6) bPo) (ys.map D.int) (EP W H T M N A B o6 o7 o8 o9 o10) s = .ok (.nx (EP W H T M N A B p6 p7 p8 p9 p10)) s ∧ ∀ y ∈ ys, ∀ x : Int, 0 ≤ x ∧ x < W → ¬ dfr A B x y) ∨
    (∃ x : Int, ∃ y ∈ ys, (0 ≤ x ∧ x < W) ∧ dfr A B x y ∧ forF (stepF (callF fs gs n) gs (.nm 6) bPo) (ys.map D.int) (EP W H T M N A B o6 o7 o8 o9 o10) s = .ok (.ret (bD W H (spk A B x y))) s)
  | [], o6, o7, o8, o9, o10, _ => .inl ⟨o6, o7, o8, o9, o10, rfl, fun x hx => by cases hx⟩
  | y :: ys, o6, o7, o8, o9, o10, h => by
    have hW := BB.W
    have eb : bindT (.nm 6) (.int y) (EP W H T M N A B o6 o7 o8 o9 o10) = some (EP W H T M N A B (some (.val (.int y))) o7 o8 o9 o10) := rfl
    have e1 : evI (callF fs gs n) gs false (.rg1 (.idx (.var 0) (.int 0))) (EP W H T M N A B (some (.val (.int y))) o7 o8 o9 o10) s = .ok ((ir 0 W).map D.int) s := by
      have r := rng1_ir (j := W) (by omega)
      simp [EP, r]
    have e2 : frzI (EP W H T M N A B (some (.val (.int y))) o7 o8 o9 o10) (.rg1 (.idx (.var 0) (.int 0))) = EP W H T M N A B (some (.val (.int y))) o7 o8 o9 o10 := rfl
    have e3 : stepF (callF fs gs n) gs (.nm 6) bPo (.int y) (EP W H T M N A B o6 o7 o8 o9 o10) s = nextF (forF (stepF (callF fs gs n) gs (.nm 7) bPi) ((ir 0 W).map D.int) (EP W H T M N A B (some (.val (.int y))) o7 o8 o9 o10) s) (execs (callF fs gs n) gs .nil) := by
      have e4 : stepF (callF fs gs n) gs (.nm 6) bPo (.int y) (EP W H T M N A B o6 o7 o8 o9 o10) s = execs (callF fs gs n) gs bPo (EP W H T M N A B (some (.val (.int y))) o7 o8 o9 o10) s := by
        unfold stepF
        rw [eb]
      rw [e4]
      unfold bPo
      rw [execs_c, exec_for, e2, e1, ok_bind]
    rcases pi_loop (n := n) (s := s) (T := T) (M := M) (N := N) (A := A) (B := B) BB (h y List.mem_cons_self) (xs := ir 0 W) (o7 := o7) (o8 := o8) (o9 := o9) (o10 := o10) (fun x hx => mem_ir.mp hx) with ⟨p7, p8, p9, p10, e4, h4⟩ | ⟨x, hx, hd, e4⟩
    · rw [e4, nextF_nx, execs_nil] at e3
      rcases po_loop (T := T) (M := M) (N := N) (A := A) (B := B) BB (ys := ys) (o6 := some (.val (.int y))) (o7 := p7) (o8 := p8) (o9 := p9) (o10 := p10) (fun z hz => h z (List.mem_cons_of_mem _ hz)) with ⟨q6, q7, q8, q9, q10, e5, h5⟩ | ⟨x, z, hz, hx, hd, e5⟩
      · refine .inl ⟨q6, q7, q8, q9, q10, by rw [List.map_cons, forF_cons, e3, nextL_nx, e5], fun z hz x hx => ?_⟩
        rcases List.mem_cons.mp hz with rfl | hz
        · exact h4 x (mem_ir.mpr hx)
        · exact h5 z hz x hx
      · exact .inr ⟨x, z, List.mem_cons_of_mem _ hz, hx, hd, by rw [List.map_cons, forF_cons, e3, nextL_nx, e5]⟩
    · rw [e4, nextF_ret] at e3
      exact .inr ⟨x, y, List.mem_cons_self, mem_ir.mp hx, hd, by rw [List.map_cons, forF_cons, e3, nextL_ret]⟩
theorem e_parting {ms ns : List Mv} (P : PT W H ts) (h1 : POk W H ts ms none) (h2 : POk W H ts ns none) (x1 : ∀ x, Mv.tool x ∈ ms → NmP x) (x2 : ∀ x, Mv.tool x ∈ ns → NmP x) (z1 : ms.length ≤ 1000) (z2 : ns.length ≤ 1000) (hn : 5 ≤ n) :
    ∃ s', Gr s s' ∧ ((callF fs gs n 24 [.tup [.int W, .int H], .tup (ts.map toolD), .tup (ms.map mvD), .tup (ns.map mvD)] s = .ok .non s' ∧ ∀ x y, InB W H (x, y) → ¬ dfr (trP W H ts ms) (trP W H ts ns) x y) ∨
      ∃ x y, InB W H (x, y) ∧ dfr (trP W H ts ms) (trP W H ts ns) x y ∧ callF fs gs n 24 [.tup [.int W, .int H], .tup (ts.map toolD), .tup (ms.map mvD), .tup (ns.map mvD)] s = .ok (bD W H (spk (trP W H ts ms) (trP W H ts ns) x y)) s') := by
  obtain ⟨k, rfl, hk⟩ := sc hn
  rw [call_at (f := c_parting_block) rfl rfl]
  obtain ⟨s1, e1, g1⟩ := e_trace (n := k) (s := s) P h1 x1 z1 hk
  obtain ⟨s2, e2, g2⟩ := e_trace (n := k) (s := s1) P h2 x2 z2 hk
  refine ⟨s2, g1.trans g2, ?_⟩
  generalize trP W H ts ms = A at *
  generalize trP W H ts ns = B at *
  have hH := P.T.B.H
  have es : startE c_parting_block.N.length [.tup [.int W, .int H], .tup (ts.map toolD), .tup (ms.map mvD), .tup (ns.map mvD)] = [some (SV.val (.tup [.int W, .int H])), some (.val (.tup (ts.map toolD))), some (.val (.tup (ms.map mvD))), some (.val (.tup (ns.map mvD))), none, none, none, none, none, none, none, none, none, none, none, none] := rfl
  have eb : c_parting_block.body = .c (.par [4, 5] (.v (.call 19 (.c (.var 0) (.c (.var 1) (.c (.var 2) .nil)))) (.v (.call 19 (.c (.var 0) (.c (.var 1) (.c (.var 3) .nil)))) .nil))) (.c (.for (.nm 6) (.rg1 (.idx (.var 0) (.int 1))) bPo) (.c (.ret .non) .nil)) := rfl
  have q1 : ∀ rest, execs (callF fs gs k) gs (.c (.par [4, 5] (.v (.call 19 (.c (.var 0) (.c (.var 1) (.c (.var 2) .nil)))) (.v (.call 19 (.c (.var 0) (.c (.var 1) (.c (.var 3) .nil)))) .nil))) rest) [some (SV.val (.tup [.int W, .int H])), some (.val (.tup (ts.map toolD))), some (.val (.tup (ms.map mvD))), some (.val (.tup (ns.map mvD))), none, none, none, none, none, none, none, none, none, none, none, none] s = execs (callF fs gs k) gs rest (EP W H (.tup (ts.map toolD)) (.tup (ms.map mvD)) (.tup (ns.map mvD)) A B none none none none none) s2 := fun rest => by
    simp [EP, e1, e2, trD, borrows, isOwn]
  have e3 : evI (callF fs gs k) gs false (.rg1 (.idx (.var 0) (.int 1))) (EP W H (.tup (ts.map toolD)) (.tup (ms.map mvD)) (.tup (ns.map mvD)) A B none none none none none) s2 = .ok ((ir 0 H).map D.int) s2 := by
    have r := rng1_ir (j := H) (by omega)
    simp [EP, r]
  have e4 : frzI (EP W H (.tup (ts.map toolD)) (.tup (ms.map mvD)) (.tup (ns.map mvD)) A B none none none none none) (.rg1 (.idx (.var 0) (.int 1))) = EP W H (.tup (ts.map toolD)) (.tup (ms.map mvD)) (.tup (ns.map mvD)) A B none none none none none := rfl
  rw [eb, es, q1, execs_c, exec_for, e4, e3, ok_bind]
  rcases po_loop (n := k) (s := s2) (T := .tup (ts.map toolD)) (M := .tup (ms.map mvD)) (N := .tup (ns.map mvD)) (A := A) (B := B) P.T.B (ys := ir 0 H) (o6 := none) (o7 := none) (o8 := none) (o9 := none) (o10 := none) (fun y hy => mem_ir.mp hy) with ⟨p6, p7, p8, p9, p10, e, h⟩ | ⟨x, y, hy, hx, hd, e⟩
  · refine .inl ⟨?_, fun x y hi => h y (mem_ir.mpr hi.2) x hi.1⟩
    rw [e, nextF_nx]
    simp [EP, frzR]
  · refine .inr ⟨x, y, ⟨hx, mem_ir.mp hy⟩, hd, ?_⟩
    rw [e, nextF_ret]
    rfl
/-! ### the law's unit steps -/
def ESu (ts : List Tool) (M : D) (tl : Option Tool) (p : P3) (L : List Un) (o5 o6 o7 : Option SV) : Env := [some (.val (.tup (ts.map toolD))), some (.val M), some (.val (oT tl)), some (.val (p3D p)), some (.val (.lst (L.map unD))), o5, o6, o7, none, none]
def bStp : Sms := (.c (.asg (.tp (.c (.nm 6) (.c (.nm 7) .nil))) (.idx (.var 1) (.var 5))) (.c (.ite (.cmp .eq (.var 6) (.str "tool")) (.c (.par [2, 3] (.v (.idx (.fz xOne) (.int 0)) (.v (.tup (.c (.int 0) (.c (.int 0) (.c (.int 12) .nil)))) .nil))) .nil) (.c (.asg (.nm 4) (.bin .add (.var 4) (.fz (.cp1 (.tup (.c (.var 5) (.c (.var 2) (.c (.var 6) (.c (.var 8) .nil))))) (.nm 8) (.seq (.call 37 (.c (.var 3) (.c (.var 7) .nil)))) .n [8])))) (.c (.asg (.nm 3) (.var 7)) .nil))) .nil))
theorem stp_tool {M : D} {tl : Option Tool} {p : P3} {L : List Un} {o5 o6 o7 : Option SV} {j : Int} (T : TL W H ts) (ht : t ∈ ts) (hi : idxD M (.int j) = some (mvD (.tool t.1))) (hM : ∀ s : Sto, deref s M = M) :
    stepF (callF fs gs n) gs (.nm 5) bStp (.int j) (ESu ts M tl p L o5 o6 o7) s = .ok (.nx (ESu ts M (some t) (0, 0, 12) L (some (.val (.int j))) (some (.val (.str "tool"))) (some (.val (.str t.1))))) s := by
  have eb : bindT (.nm 5) (.int j) (ESu ts M tl p L o5 o6 o7) = some (ESu ts M tl p L (some (.val (.int j))) o6 o7) := rfl
  have e1 := e_one (n := n) (s := s) (ts := ts) (x := t.1) (M := M) (a2 := oT tl) (a3 := p3D p) (a4 := .lst (L.map unD)) (a5 := .int j) (a6 := .str "tool") (T.nm t ht) T.nm T.len
  have hh := T.find t ht
  rw [filt_head] at hh
  generalize (ts.filter fun u => u.1 = t.1) = FL at *
  cases FL with
  | nil => cases hh
  | cons u r =>
    cases hh
    unfold stepF
    rw [eb]
    simp [bStp, ESu, hM, hi, mvD, tool_tool, e1]
    exact ⟨rfl, rfl⟩
theorem stp_way {M : D} {k : Bool} {p q : P3} {L : List Un} {o5 o6 o7 : Option SV} {j : Int} (hi : idxD M (.int j) = some (mvD (.way k q))) (hM : ∀ s : Sto, deref s M = M) (h1 : absI (q.1 - p.1) ≤ 12) (h2 : absI (q.2.1 - p.2.1) ≤ 12) (h3 : absI (q.2.2 - p.2.2) ≤ 12) (hl : L.length ≤ 1000000) (hn : 1 ≤ n) :
    stepF (callF fs gs n) gs (.nm 5) bStp (.int j) (ESu ts M (some t) p L o5 o6 o7) s = .ok (.nx (ESu ts M (some t) q (L ++ (usL p q).map fun b => (j, t, k, b)) (some (.val (.int j))) (some (.val (kindD k))) (some (.val (p3D q))))) s := by
  have eb : bindT (.nm 5) (.int j) (ESu ts M (some t) p L o5 o6 o7) = some (ESu ts M (some t) p L (some (.val (.int j))) o6 o7) := rfl
  have e0 := e_lways (n := n) (s := s) (p := p) (q := q) h1 h2 h3 hn
  have hu := us_len (p := p) (q := q) h1 h2 h3
  have e1 : evF (callF fs gs n) gs (.cp1 (.tup (.c (.var 5) (.c (.var 2) (.c (.var 6) (.c (.var 8) .nil))))) (.nm 8) (.seq (.call 37 (.c (.var 3) (.c (.var 7) .nil)))) .n [8]) [some (SV.val (.tup (ts.map toolD))), some (.val M), some (.val (toolD t)), some (.val (p3D p)), some (.val (.lst (L.map unD))), some (.val (.int j)), some (.val (kindD k)), some (.val (p3D q)), none, none] s = .ok (((usL p q).map fun b => (j, t, k, b)).map unD) s := by
    rw [List.map_map]
    exact cp1_map (xs := usL p q) (mk := p3D) (g := unD ∘ fun b => (j, t, k, b)) (by simp [e0, borrows, isOwn, items?]) (fun b hb => ⟨_, rfl, by simp [noOwn, wipeE, unD]⟩) (by show _ ≤ 16777216; omega)
  have hz : (L.map unD).length + (((usL p q).map fun b => (j, t, k, b)).map unD).length ≤ LINE := by simp only [List.length_map]; show _ ≤ 16777216; omega
  generalize hN : ((usL p q).map fun b => (j, t, k, b)) = N at *
  unfold stepF
  rw [eb]
  simp only [List.length_map] at hz
  simp [bStp, ESu, hM, hi, mvD, kind_tool, e1, oT, hz]
theorem steps_loop (P : PT W H ts) (hn : 1 ≤ n) {all : List Mv} : ∀ {ms pre : List Mv} {tl : Option Tool} {p : P3} {L : List Un} {o5 o6 o7 : Option SV}, all = pre ++ ms → POk W H ts ms tl → Nw W H ts tl p → L.length + ms.length * 36 ≤ 1000000 →
    ∃ tl' p' q5 q6 q7, forF (stepF (callF fs gs n) gs (.nm 5) bStp) ((ir pre.length all.length).map D.int) (ESu ts (.tup (all.map mvD)) tl p L o5 o6 o7) s = .ok (.nx (ESu ts (.tup (all.map mvD)) tl' p' (L ++ unitsL ts ms pre.length tl p) q5 q6 q7)) s
  | [], pre, tl, p, L, o5, o6, o7, e, _, _, _ => by
    rw [e, List.append_nil, ir_nil (by omega)]
    exact ⟨tl, p, o5, o6, o7, by show _ = Out.ok (Flow.nx (ESu ts _ tl p (L ++ []) o5 o6 o7)) s; rw [List.append_nil]; rfl⟩
  | .tool x :: r, pre, tl, p, L, o5, o6, o7, e, h, _, hz => by
    obtain ⟨h1, h2⟩ := h
    obtain ⟨t, a1, a2, a3⟩ := P.take h1
    rw [List.length_cons] at hz
    have ix : idxD (.tup (all.map mvD)) (.int pre.length) = some (mvD (.tool t.1)) := idx_tup (by rw [List.getElem?_map, e, a2]; simp)
    have t1 := stp_tool (n := n) (s := s) (M := .tup (all.map mvD)) (tl := tl) (p := p) (L := L) (o5 := o5) (o6 := o6) (o7 := o7) (j := pre.length) P.T a1 ix (fun _ => rfl)
    rw [a3] at h2
    obtain ⟨tl', p', q5, q6, q7, i1⟩ := steps_loop P hn (all := all) (ms := r) (pre := pre ++ [.tool x]) (tl := some t) (p := (0, 0, 12)) (L := L) (o5 := some (.val (.int pre.length))) (o6 := some (.val (.str "tool"))) (o7 := some (.val (.str t.1))) (by rw [e]; simp) h2 (Nw.home P a1) (by omega)
    refine ⟨tl', p', q5, q6, q7, ?_⟩
    have el : (((pre ++ [Mv.tool x]).length : Nat) : Int) = (pre.length : Int) + 1 := by rw [List.length_append]; simp
    rw [el] at i1
    have e2 : unitsL ts (.tool x :: r) pre.length tl p = unitsL ts r (pre.length + 1) (some t) (0, 0, 12) := by rw [← a3]; rfl
    rw [e2, ir_cons (by rw [e]; simp; omega), List.map_cons, forF_cons, t1, nextL_nx, i1]
  | .way k q :: r, pre, some t, p, L, o5, o6, o7, e, h, hN, hz => by
    obtain ⟨h1, h2⟩ := h
    obtain ⟨n1, n2⟩ := hN t rfl
    have T := P.T.ok t n1
    rw [List.length_cons] at hz
    obtain ⟨c1, c2, c3⟩ := close P.T.B T n2 h1
    have hu := us_len c1 c2 c3
    have ix : idxD (.tup (all.map mvD)) (.int pre.length) = some (mvD (.way k q)) := idx_tup (by rw [List.getElem?_map, e]; simp)
    have t1 := stp_way (n := n) (s := s) (ts := ts) (t := t) (M := .tup (all.map mvD)) (p := p) (L := L) (o5 := o5) (o6 := o6) (o7 := o7) (j := pre.length) ix (fun _ => rfl) c1 c2 c3 (by omega) hn
    obtain ⟨tl', p', q5, q6, q7, i1⟩ := steps_loop P hn (all := all) (ms := r) (pre := pre ++ [.way k q]) (tl := some t) (p := q) (L := L ++ (usL p q).map fun b => ((pre.length : Int), t, k, b)) (o5 := some (.val (.int pre.length))) (o6 := some (.val (kindD k))) (o7 := some (.val (p3D q))) (by rw [e]; simp) h2 (fun u e => by cases e; exact ⟨n1, h1⟩) (by rw [List.length_append, List.length_map]; omega)
    refine ⟨tl', p', q5, q6, q7, ?_⟩
    have el : (((pre ++ [Mv.way k q]).length : Nat) : Int) = (pre.length : Int) + 1 := by rw [List.length_append]; simp
    rw [el] at i1
    have e2 : unitsL ts (.way k q :: r) pre.length (some t) p = (usL p q).map (fun b => ((pre.length : Int), t, k, b)) ++ unitsL ts r (pre.length + 1) (some t) q := rfl
    rw [e2, ir_cons (by rw [e]; simp; omega), List.map_cons, forF_cons, t1, nextL_nx, i1, List.append_assoc]
  | .way _ _ :: _, pre, none, p, L, o5, o6, o7, _, h, _, _ => h.elim
theorem e_lsteps {ms : List Mv} (P : PT W H ts) (h : POk W H ts ms none) (hz : ms.length ≤ 1000) (hn : 2 ≤ n) :
    callF fs gs n 38 [.tup (ts.map toolD), .tup (ms.map mvD)] s = .ok (.lst ((unitsL ts ms 0 none (0, 0, 12)).map unD)) s := by
  obtain ⟨m, rfl, hm⟩ := sc hn
  rw [call_at (f := c__law_steps) rfl rfl]
  obtain ⟨tl, p, q5, q6, q7, e1⟩ := steps_loop (n := m) (s := s) P hm (all := ms) (ms := ms) (pre := []) (tl := none) (p := (0, 0, 12)) (L := []) (o5 := none) (o6 := none) (o7 := none) rfl h Nw.none (by simp; omega)
  have eb : c__law_steps.body = .c (.par [2, 3, 4] (.v .non (.v (.tup (.c (.int 0) (.c (.int 0) (.c (.int 12) .nil)))) (.v (.fz (.dsp .nil)) .nil)))) (.c (.for (.nm 5) (.rg1 (.blt .len (.c (.var 1) .nil))) bStp) (.c (.ret (.var 4)) .nil)) := rfl
  have es : startE c__law_steps.N.length [.tup (ts.map toolD), .tup (ms.map mvD)] = [some (SV.val (.tup (ts.map toolD))), some (.val (.tup (ms.map mvD))), none, none, none, none, none, none, none, none] := rfl
  have e2 : exec (callF fs gs m) gs (.par [2, 3, 4] (.v .non (.v (.tup (.c (.int 0) (.c (.int 0) (.c (.int 12) .nil)))) (.v (.fz (.dsp .nil)) .nil)))) [some (SV.val (.tup (ts.map toolD))), some (.val (.tup (ms.map mvD))), none, none, none, none, none, none, none, none] s = .ok (.nx (ESu ts (.tup (ms.map mvD)) none (0, 0, 12) [] none none none)) s := by
    simp [ESu, oT, p3D, ptD]
  have e3 : evI (callF fs gs m) gs false (.rg1 (.blt .len (.c (.var 1) .nil))) (ESu ts (.tup (ms.map mvD)) none (0, 0, 12) [] none none none) s = .ok ((ir 0 ms.length).map D.int) s := by
    have r := rng1_ir (j := ms.length) (by omega)
    simp [ESu, r]
  have e4 : frzI (ESu ts (.tup (ms.map mvD)) none (0, 0, 12) [] none none none) (.rg1 (.blt .len (.c (.var 1) .nil))) = ESu ts (.tup (ms.map mvD)) none (0, 0, 12) [] none none none := rfl
  have e1' : forF (stepF (callF fs gs m) gs (.nm 5) bStp) ((ir 0 ms.length).map D.int) (ESu ts (.tup (ms.map mvD)) none (0, 0, 12) [] none none none) s = .ok (.nx (ESu ts (.tup (ms.map mvD)) tl p (unitsL ts ms 0 none (0, 0, 12)) q5 q6 q7)) s := e1
  rw [eb, es, execs_c, e2, nextF_nx, execs_c, exec_for, e4, e3, ok_bind, e1', nextF_nx]
  simp [ESu, frzR]
/-! ### the law's run -/
def ERn (W H : Nat) (A B : D) (f : F2) (o4 o5 o6 o7 o8 o9 o10 o11 : Option SV) : Env := [some (.val (bD W H f)), some (.val A), some (.val B), some (.val (.tup [.int W, .int H])), o4, o5, o6, o7, o8, o9, o10, o11]
def bRn : Sms := (.c (.asg (.tp (.c (.nm 8) (.c (.nm 9) (.c (.nm 10) .nil)))) (.var 7)) (.c (.asg (.nm 11) (.call 35 (.c (.var 0) (.c (.call 33 (.c (.var 5) (.c (.var 8) (.c (.var 9) .nil)))) .nil)))) (.c (.ite (.bop false (.c (.bop true (.c (.cmp .eq (.var 6) (.str "fast")) (.c (.cmp .gt (.var 11) (.var 10)) .nil))) (.c (.cmp .gt (.blt .max (.c (.var 11) (.c (.call 35 (.c (.var 0) (.c (.call 34 (.c (.var 3) (.c (.var 5) (.c (.var 8) (.c (.var 9) .nil))))) .nil))) .nil))) (.bin .add (.var 10) (.idx (.var 5) (.int 2)))) .nil))) (.c (.ret .non) .nil) .nil) (.c (.asg (.nm 0) (.call 36 (.c (.var 0) (.c (.var 5) (.c (.var 8) (.c (.var 9) (.c (.var 10) .nil))))))) .nil))))
theorem rn_turn {A B : D} {u : Un} {o4 o5 o6 o7 o8 o9 o10 o11 : Option SV} (BB : BOk W H) (U : UOk W H u) (hn : 4 ≤ n) :
    (¬ Vi u.2.2.1 u.2.1 W H f u.2.2.2 0 → ∃ p4 p5 p6 p7 p8 p9 p10 p11, stepF (callF fs gs n) gs (.tp (.c (.nm 4) (.c (.nm 5) (.c (.nm 6) (.c (.nm 7) .nil))))) bRn (unD u) (ERn W H A B f o4 o5 o6 o7 o8 o9 o10 o11) s = .ok (.nx (ERn W H A B (cutf u.2.1.2.1 u.2.2.2.1 u.2.2.2.2.1 (u.2.2.2.2.2 + 0) f) p4 p5 p6 p7 p8 p9 p10 p11)) s) ∧
    (Vi u.2.2.1 u.2.1 W H f u.2.2.2 0 → stepF (callF fs gs n) gs (.tp (.c (.nm 4) (.c (.nm 5) (.c (.nm 6) (.c (.nm 7) .nil))))) bRn (unD u) (ERn W H A B f o4 o5 o6 o7 o8 o9 o10 o11) s = .ok (.ret .non) s) := by
  obtain ⟨j, t, k, b⟩ := u
  have T : TOk W H t := U.T
  have hf : fit W H t.2.1 b := U.fit
  simp only at *
  have hW := BB.W
  have hH := BB.H
  have hsd := T.sd
  have hF := fit_Fit hf
  unfold Fit at hF
  have e1 := e_lben (n := n) (s := s) (t := t) (x := b.1) (y := b.2.1) hsd (by omega) (by omega) (by omega)
  have e2 := e_labout (n := n) (s := s) (W := W) (H := H) (t := t) (x := b.1) (y := b.2.1) T (by omega) (by omega) (by omega)
  have l1 := ben_len (sd := t.2.1) (x := b.1) (y := b.2.1) ⟨by omega, hsd.2⟩
  have l2 := laF_len (x := b.1) (y := b.2.1) (W := W) (H := H) (sd := t.2.1) (rm := t.2.2.2) (by omega) T.rm
  have e3 := e_most (n := n) (s := s) (W := W) (H := H) (f := f) (L := benF t.2.1 b.1 b.2.1) (by omega) (ben_in ⟨by omega, hsd.2⟩ hF.1 hF.2 hW hH) (by omega)
  have e4 := e_most (n := n) (s := s) (W := W) (H := H) (f := f) (L := laF t.2.1 t.2.2.2 b.1 b.2.1 W H) (by omega) (fun q hq => ab_in q ((mem_la q).mp hq)) (by omega)
  rw [gr_la] at e4
  have e5 := e_lcut (n := n) (s := s) (W := W) (H := H) (f := f) (t := t) (x := b.1) (y := b.2.1) (z := b.2.2) BB hsd (by omega) (by omega) (by omega)
  have hz : b.2.2 + 0 = b.2.2 := by omega
  have hv : Vi k t W H f b 0 ↔ (k = true ∧ b.2.2 < gr f (benF t.2.1 b.1 b.2.1)) ∨ b.2.2 + t.2.2.1 < mx (gr f (benF t.2.1 b.1 b.2.1)) (gr f (abF t.2.1 t.2.2.2 b.1 b.2.1 W H)) := by
    unfold Vi
    rw [hz]
    have hm := mx_s (gr f (benF t.2.1 b.1 b.2.1)) (gr f (abF t.2.1 t.2.2.2 b.1 b.2.1 W H))
    have hg : gr f (benF t.2.1 b.1 b.2.1 ++ abF t.2.1 t.2.2.2 b.1 b.2.1 W H) ≤ b.2.2 + t.2.2.1 ↔ gr f (benF t.2.1 b.1 b.2.1) ≤ b.2.2 + t.2.2.1 ∧ gr f (abF t.2.1 t.2.2.2 b.1 b.2.1 W H) ≤ b.2.2 + t.2.2.1 := by
      rw [gr_le, gr_le, gr_le]
      exact ⟨fun q => ⟨⟨q.1, fun p hp => q.2 p (List.mem_append.mpr (.inl hp))⟩, ⟨q.1, fun p hp => q.2 p (List.mem_append.mpr (.inr hp))⟩⟩, fun q => ⟨q.1.1, fun p hp => (List.mem_append.mp hp).elim (q.1.2 p) (q.2.2 p)⟩⟩
    have q1 : ¬ (gr f (benF t.2.1 b.1 b.2.1) ≤ b.2.2 + t.2.2.1 ∧ gr f (abF t.2.1 t.2.2.2 b.1 b.2.1 W H) ≤ b.2.2 + t.2.2.1) ↔ b.2.2 + t.2.2.1 < mx (gr f (benF t.2.1 b.1 b.2.1)) (gr f (abF t.2.1 t.2.2.2 b.1 b.2.1 W H)) := by omega
    have q2 : ¬ gr f (benF t.2.1 b.1 b.2.1) ≤ b.2.2 ↔ b.2.2 < gr f (benF t.2.1 b.1 b.2.1) := by omega
    rw [hg, q1, q2]
  rw [hv]
  have pb : p3D b = .tup [.int b.1, .int b.2.1, .int b.2.2] := rfl
  have kf := kind_eq (k := k)
  rw [hz]
  generalize gr f (benF t.2.1 b.1 b.2.1) = r1 at *
  generalize gr f (abF t.2.1 t.2.2.2 b.1 b.2.1 W H) = r2 at *
  generalize cutf t.2.1 b.1 b.2.1 b.2.2 f = f1 at *
  refine ⟨fun hk => ?_, fun hk => ?_⟩
  · refine ⟨some (.val (.int j)), some (.val (toolD t)), some (.val (kindD k)), some (.val (p3D b)), some (.val (.int b.1)), some (.val (.int b.2.1)), some (.val (.int b.2.2)), some (.val (.int r1)), ?_⟩
    have h2 : ¬ b.2.2 + t.2.2.1 < mx r1 r2 := fun q => hk (.inr q)
    unfold stepF unD
    cases k with
    | true =>
      have h1 : ¬ b.2.2 < r1 := fun q => hk (.inl ⟨rfl, q⟩)
      simp [bRn, ERn, pb, e1, e2, e3, e4, e5, kf, h1, h2, borrows, isOwn]
    | false => simp [bRn, ERn, pb, e1, e2, e3, e4, e5, kf, h2, borrows, isOwn]
  · unfold stepF unD
    by_cases c : k = true ∧ b.2.2 < r1
    · obtain ⟨rfl, h1⟩ := c
      simp [bRn, ERn, pb, e1, e2, e3, e4, kf, h1, borrows, isOwn, frzR]
    · have h2 := hk.resolve_left c
      cases k with
      | true =>
        have h1 : ¬ b.2.2 < r1 := fun q => c ⟨rfl, q⟩
        simp [bRn, ERn, pb, e1, e2, e3, e4, kf, h1, h2, borrows, isOwn, frzR]
      | false => simp [bRn, ERn, pb, e1, e2, e3, e4, kf, h2, borrows, isOwn, frzR]
theorem rn_loop {A B : D} (BB : BOk W H) (hn : 4 ≤ n) : ∀ {L : List Un} {f : F2} {o4 o5 o6 o7 o8 o9 o10 o11 : Option SV}, (∀ u ∈ L, UOk W H u) →
    (∀ h, runU W H L f = some h → ∃ p4 p5 p6 p7 p8 p9 p10 p11, forF (stepF (callF fs gs n) gs (.tp (.c (.nm 4) (.c (.nm 5) (.c (.nm 6) (.c (.nm 7) .nil))))) bRn) (L.map unD) (ERn W H A B f o4 o5 o6 o7 o8 o9 o10 o11) s = .ok (.nx (ERn W H A B h p4 p5 p6 p7 p8 p9 p10 p11)) s) ∧
    (runU W H L f = none → forF (stepF (callF fs gs n) gs (.tp (.c (.nm 4) (.c (.nm 5) (.c (.nm 6) (.c (.nm 7) .nil))))) bRn) (L.map unD) (ERn W H A B f o4 o5 o6 o7 o8 o9 o10 o11) s = .ok (.ret .non) s)
  | [], f, o4, o5, o6, o7, o8, o9, o10, o11, _ => ⟨fun h e => by
      have e : f = h := Option.some.inj e
      subst e
      exact ⟨_, _, _, _, _, _, _, _, rfl⟩, fun e => by cases e⟩
  | u :: L, f, o4, o5, o6, o7, o8, o9, o10, o11, hU => by
    obtain ⟨a1, a2⟩ := rn_turn (n := n) (s := s) (f := f) (A := A) (B := B) (o4 := o4) (o5 := o5) (o6 := o6) (o7 := o7) (o8 := o8) (o9 := o9) (o10 := o10) (o11 := o11) BB (hU u List.mem_cons_self) hn
    by_cases c : Vi u.2.2.1 u.2.1 W H f u.2.2.2 0
    · have er : runU W H (u :: L) f = none := if_pos c
      rw [er]
      exact ⟨fun h e => by (cases e), fun _ => by rw [List.map_cons, forF_cons, a2 c, nextL_ret]⟩
    · have er : runU W H (u :: L) f = runU W H L (cutf u.2.1.2.1 u.2.2.2.1 u.2.2.2.2.1 (u.2.2.2.2.2 + 0) f) := if_neg c
      rw [er]
      obtain ⟨p4, p5, p6, p7, p8, p9, p10, p11, e1⟩ := a1 c
      obtain ⟨i1, i2⟩ := rn_loop (A := A) (B := B) BB hn (L := L) (f := cutf u.2.1.2.1 u.2.2.2.1 u.2.2.2.2.1 (u.2.2.2.2.2 + 0) f) (o4 := p4) (o5 := p5) (o6 := p6) (o7 := p7) (o8 := p8) (o9 := p9) (o10 := p10) (o11 := p11) fun v hv => hU v (List.mem_cons_of_mem _ hv)
      refine ⟨fun h e => ?_, fun e => ?_⟩
      · obtain ⟨q4, q5, q6, q7, q8, q9, q10, q11, e2⟩ := i1 h e
        exact ⟨q4, q5, q6, q7, q8, q9, q10, q11, by rw [List.map_cons, forF_cons, e1, nextL_nx, e2]⟩
      · rw [List.map_cons, forF_cons, e1, nextL_nx, i2 e]
theorem e_lrun {ms : List Mv} (P : PT W H ts) (h : POk W H ts ms none) (hz : ms.length ≤ 1000) (hn : 5 ≤ n) : callF fs gs n 39 [bD W H f, .tup (ts.map toolD), .tup (ms.map mvD)] s = .ok (oB W H (lfP W H ts ms f)) s := by
  obtain ⟨m, rfl, hm⟩ := sc hn
  rw [call_at (f := c__law_run) rfl rfl]
  have e1 := e_lsteps (n := m) (s := s) P h hz (by omega)
  have hU := (units_ok P (j := 0) (p := (0, 0, 12)) h Nw.none).1
  unfold lfP
  generalize unitsL ts ms 0 none (0, 0, 12) = L at *
  obtain ⟨a1, a2⟩ := rn_loop (n := m) (s := s) (A := .tup (ts.map toolD)) (B := .tup (ms.map mvD)) (f := f) (o4 := none) (o5 := none) (o6 := none) (o7 := none) (o8 := none) (o9 := none) (o10 := none) (o11 := none) P.T.B hm hU
  have i0 := idx_bD (W := W) (H := H) (f := f) (y := 0) (by have := P.T.B.H; omega)
  have eb : c__law_run.body = .c (.asg (.nm 3) (.tup (.c (.blt .len (.c (.idx (.var 0) (.int 0)) .nil)) (.c (.blt .len (.c (.var 0) .nil)) .nil)))) (.c (.for (.tp (.c (.nm 4) (.c (.nm 5) (.c (.nm 6) (.c (.nm 7) .nil))))) (.seq (.call 38 (.c (.var 1) (.c (.var 2) .nil)))) bRn) (.c (.ret (.var 0)) .nil)) := rfl
  have es : startE c__law_run.N.length [bD W H f, .tup (ts.map toolD), .tup (ms.map mvD)] = [some (SV.val (bD W H f)), some (.val (.tup (ts.map toolD))), some (.val (.tup (ms.map mvD))), none, none, none, none, none, none, none, none, none] := rfl
  have x1 : exec (callF fs gs m) gs (.asg (.nm 3) (.tup (.c (.blt .len (.c (.idx (.var 0) (.int 0)) .nil)) (.c (.blt .len (.c (.var 0) .nil)) .nil)))) [some (SV.val (bD W H f)), some (.val (.tup (ts.map toolD))), some (.val (.tup (ms.map mvD))), none, none, none, none, none, none, none, none, none] s = .ok (.nx (ERn W H (.tup (ts.map toolD)) (.tup (ms.map mvD)) f none none none none none none none none)) s := by simp [ERn, i0]
  have e3 : evI (callF fs gs m) gs false (.seq (.call 38 (.c (.var 1) (.c (.var 2) .nil)))) (ERn W H (.tup (ts.map toolD)) (.tup (ms.map mvD)) f none none none none none none none none) s = .ok (L.map unD) s := by
    simp [ERn, e1, borrows, isOwn, items?]
  have e4 : frzI (ERn W H (.tup (ts.map toolD)) (.tup (ms.map mvD)) f none none none none none none none none) (.seq (.call 38 (.c (.var 1) (.c (.var 2) .nil)))) = ERn W H (.tup (ts.map toolD)) (.tup (ms.map mvD)) f none none none none none none none none := rfl
  rw [eb, es, execs_c, x1, nextF_nx, execs_c, exec_for, e4, e3, ok_bind]
  cases hr : runU W H L f with
  | some h =>
    obtain ⟨p4, p5, p6, p7, p8, p9, p10, p11, e2⟩ := a1 h hr
    rw [e2, nextF_nx]
    simp [ERn, frzR, oB]
  | none =>
    rw [a2 hr, nextF_ret]
    rfl
end
end PV.K81
set_option maxRecDepth 100000
set_option maxHeartbeats 4000000
namespace PV.K81
open PySem PV
section
variable {n : Nat} {s : Sto} {W H : Nat} {f g h m d : F2} {t : Tool} {ts : List Tool}
/-! ### field by field, in plain -/
def up (u : Un) : Int := u.2.1.2.2.1
def cst (p : Int × Int) (u : Un) (a : Int × Bool) : Int × Bool :=
  (if p ∈ bn u then mn a.1 (zu u) else a.1, a.2 || (decide (zu u + up u < a.1) || (u.2.2.1 && (decide (p ∈ bn u) && decide (zu u < a.1)))))
def cmine (W H : Nat) (p : Int × Int) (us : List Un) : List Un := us.filter fun u => decide (p ∈ wd W H u)
def cscan (W H : Nat) (p : Int × Int) (us : List Un) (a : Int × Bool) : Int × Bool := (cmine W H p us).foldl (fun a u => cst p u a) a
theorem cut_bn {u : Un} {p : Int × Int} : cutf u.2.1.2.1 u.2.2.2.1 u.2.2.2.2.1 (zu u) d p.1 p.2 = if p ∈ bn u then mn (d p.1 p.2) (zu u) else d p.1 p.2 := by
  have e : p ∈ bn u ↔ InS u.2.1.2.1 u.2.2.2.1 u.2.2.2.2.1 p.1 p.2 := by
    unfold bn; rw [mem_ben]; exact Iff.rfl
  by_cases c : p ∈ bn u
  · rw [if_pos c, cut_in (e.mp c)]
  · rw [if_neg c, cut_out fun q => c (e.mpr q)]
theorem cell_tr {p : Int × Int} {h : Int} : ∀ {us : List Un} {m d : F2} {a : Int × Bool}, a.1 = mn h (d p.1 p.2) → (a.2 = true ↔ ¬ h ≤ m p.1 p.2) →
    (cscan W H p us a).1 = mn h ((trU W H us (m, d)).2 p.1 p.2) ∧ ((cscan W H p us a).2 = true ↔ ¬ h ≤ (trU W H us (m, d)).1 p.1 p.2)
  | [], m, d, a, h1, h2 => ⟨h1, h2⟩
  | u :: us, m, d, a, h1, h2 => by
    have e1 : trU W H (u :: us) (m, d) = trU W H us ((tr1 W H u (m, d)).1, (tr1 W H u (m, d)).2) := rfl
    rw [e1]
    have k2 : (tr1 W H u (m, d)).2 p.1 p.2 = if p ∈ bn u then mn (d p.1 p.2) (zu u) else d p.1 p.2 := cut_bn
    have k1 : h ≤ (tr1 W H u (m, d)).1 p.1 p.2 ↔ (h ≤ m p.1 p.2 ∧ (p ∈ wd W H u → zu u + up u < d p.1 p.2 → h ≤ zu u + up u)) ∧ (u.2.2.1 = true → p ∈ bn u → zu u < d p.1 p.2 → h ≤ zu u) := by
      unfold tr1
      by_cases c : u.2.2.1 = true
      · simp only [if_pos c]
        rw [low_le', low_le']
        exact ⟨fun q => ⟨q.1, fun _ => q.2⟩, fun q => ⟨q.1, q.2 c⟩⟩
      · simp only [if_neg c]
        rw [low_le']
        exact ⟨fun q => ⟨q, fun z => absurd z c⟩, fun q => q.1⟩
    by_cases c : p ∈ wd W H u
    · have e2 : cscan W H p (u :: us) a = cscan W H p us (cst p u a) := by
        unfold cscan cmine
        rw [List.filter_cons_of_pos (by simpa using c)]; rfl
      rw [e2]
      refine cell_tr ?_ ?_
      · unfold cst
        rw [k2]
        by_cases cb : p ∈ bn u
        · simp only [if_pos cb]
          rw [h1]
          have := mn_s h (d p.1 p.2)
          have := mn_s (mn h (d p.1 p.2)) (zu u)
          have := mn_s (d p.1 p.2) (zu u)
          have := mn_s h (mn (d p.1 p.2) (zu u))
          omega
        · simp only [if_neg cb]; exact h1
      · rw [k1]
        unfold cst
        simp only [Bool.or_eq_true, Bool.and_eq_true, decide_eq_true_eq]
        rw [h2, h1]
        have hm := mn_s h (d p.1 p.2)
        constructor
        · rintro (q | q | q)
          · exact fun z => q z.1.1
          · exact fun z => by have := z.1.2 c (by omega); omega
          · exact fun z => by have := z.2 q.1 q.2.1 (by omega); omega
        · intro q
          by_cases q1 : h ≤ m p.1 p.2
          · refine .inr ?_
            by_cases q2 : zu u + up u < mn h (d p.1 p.2)
            · exact .inl q2
            · refine .inr ?_
              refine Classical.byContradiction fun q3 => q ⟨⟨q1, fun _ _ => by omega⟩, fun z1 z2 z3 => Classical.byContradiction fun z4 => q3 ⟨z1, z2, by omega⟩⟩
          · exact .inl q1
    · have cb : p ∉ bn u := fun q => c (List.mem_append_left _ q)
      have e2 : cscan W H p (u :: us) a = cscan W H p us a := by
        unfold cscan cmine
        rw [List.filter_cons_of_neg (by simpa using c)]
      rw [e2]
      refine cell_tr ?_ ?_
      · rw [k2, if_neg cb]; exact h1
      · rw [k1, h2]
        have : ∀ P : Prop, (p ∈ wd W H u → P) := fun P q => absurd q c
        exact ⟨fun q z => q z.1.1, fun q z => q ⟨⟨z, fun q => absurd q c⟩, fun _ q => absurd q cb⟩⟩
theorem tr_nn : ∀ {us : List Un} {m d : F2} {a b : Int}, (∀ u ∈ us, UOk W H u) → 0 ≤ m a b → 0 ≤ (trU W H us (m, d)).1 a b
  | [], m, d, a, b, _, h => h
  | u :: us, m, d, a, b, hU, h => by
    have U := hU u List.mem_cons_self
    have hf := U.fit
    unfold fit at hf
    have h1 := U.T.sh
    have h3 : 0 ≤ zu u := hf.2.2.1
    refine tr_nn (us := us) (m := (tr1 W H u (m, d)).1) (d := (tr1 W H u (m, d)).2) (fun v hv => hU v (List.mem_cons_of_mem _ hv)) ?_
    have w : 0 ≤ low (wd W H u) (zu u + u.2.1.2.2.1) m d a b := low_le'.mpr ⟨h, fun _ _ => by omega⟩
    show 0 ≤ (if u.2.2.1 = true then low (bn u) (zu u) (low (wd W H u) (zu u + u.2.1.2.2.1) m d) d else low (wd W H u) (zu u + u.2.1.2.2.1) m d) a b
    by_cases c : u.2.2.1 = true
    · rw [if_pos c]; exact low_le'.mpr ⟨w, fun _ _ => h3⟩
    · rw [if_neg c]; exact w
theorem tr_le : ∀ {us : List Un} {m d : F2} {a b : Int}, (trU W H us (m, d)).1 a b ≤ m a b
  | [], m, d, a, b => Int.le_refl _
  | u :: us, m, d, a, b => by
    have i := tr_le (us := us) (m := (tr1 W H u (m, d)).1) (d := (tr1 W H u (m, d)).2) (a := a) (b := b)
    have w : low (wd W H u) (zu u + u.2.1.2.2.1) m d a b ≤ m a b := (low_le'.mp (Int.le_refl _)).1
    have e : (tr1 W H u (m, d)).1 a b ≤ m a b := by
      show (if u.2.2.1 = true then low (bn u) (zu u) (low (wd W H u) (zu u + u.2.1.2.2.1) m d) d else low (wd W H u) (zu u + u.2.1.2.2.1) m d) a b ≤ m a b
      by_cases c : u.2.2.1 = true
      · rw [if_pos c]
        have := (low_le' (L := bn u) (lim := zu u) (m := low (wd W H u) (zu u + u.2.1.2.2.1) m d) (d := d) (a := a) (b := b)).mp (Int.le_refl _)
        have := this.1
        omega
      · rw [if_neg c]; exact w
    exact Int.le_trans i e
theorem tr_dep {v : Int} {p : Int × Int} : ∀ {us : List Un} {m d : F2}, v ≤ (trU W H us (m, d)).2 p.1 p.2 ↔ v ≤ d p.1 p.2 ∧ ∀ u ∈ us, p ∈ bn u → v ≤ zu u
  | [], m, d => ⟨fun q => ⟨q, fun u hu => by cases hu⟩, fun q => q.1⟩
  | u :: us, m, d => by
    have e1 : trU W H (u :: us) (m, d) = trU W H us ((tr1 W H u (m, d)).1, (tr1 W H u (m, d)).2) := rfl
    have k2 : (tr1 W H u (m, d)).2 p.1 p.2 = if p ∈ bn u then mn (d p.1 p.2) (zu u) else d p.1 p.2 := cut_bn
    rw [e1, tr_dep (us := us), k2]
    have := mn_s (d p.1 p.2) (zu u)
    constructor
    · rintro ⟨q1, q2⟩
      by_cases c : p ∈ bn u
      · rw [if_pos c] at q1
        refine ⟨by omega, fun w hw hp => ?_⟩
        rcases List.mem_cons.mp hw with rfl | hw
        · omega
        · exact q2 w hw hp
      · rw [if_neg c] at q1
        refine ⟨q1, fun w hw hp => ?_⟩
        rcases List.mem_cons.mp hw with rfl | hw
        · exact absurd hp c
        · exact q2 w hw hp
    · rintro ⟨q1, q2⟩
      refine ⟨?_, fun w hw hp => q2 w (List.mem_cons_of_mem _ hw) hp⟩
      by_cases c : p ∈ bn u
      · rw [if_pos c]
        have := q2 u List.mem_cons_self c
        omega
      · rw [if_neg c]; exact q1
theorem minI_le : ∀ {l : List Int} {x z : Int}, z ≤ minI (x :: l) ↔ z ≤ x ∧ ∀ y ∈ l, z ≤ y
  | [], x, z => ⟨fun q => ⟨q, fun y hy => by cases hy⟩, fun q => q.1⟩
  | y :: l, x, z => by
    have e : minI (x :: y :: l) = min x (minI (y :: l)) := rfl
    rw [e]
    have := minI_le (l := l) (x := y) (z := z)
    rw [Int.le_min, this]
    simp only [List.mem_cons, forall_eq_or_imp]
theorem cdepth {p : Int × Int} {us : List Un} : minI (12 :: ((cmine W H p us).filter fun u => decide (p ∈ bn u)).map zu) = (trU W H us (c12, c12)).2 p.1 p.2 := by
  have key : ∀ v : Int, v ≤ minI (12 :: ((cmine W H p us).filter fun u => decide (p ∈ bn u)).map zu) ↔ v ≤ (trU W H us (c12, c12)).2 p.1 p.2 := fun v => by
    rw [minI_le, tr_dep]
    refine and_congr Iff.rfl ?_
    simp only [List.mem_map, List.mem_filter, cmine, decide_eq_true_eq]
    constructor
    · exact fun q u hu hp => q _ ⟨u, ⟨⟨hu, List.mem_append_left _ hp⟩, hp⟩, rfl⟩
    · rintro q y ⟨u, ⟨⟨hu, _⟩, hp⟩, rfl⟩
      exact q u hu hp
  have a := (key _).mp (Int.le_refl _)
  have b := (key _).mpr (Int.le_refl _)
  omega
/-! ### what a trace tells of a block -/
def flds (W H : Nat) : List (Int × Int) := (ir 0 H).flatMap fun y => (ir 0 W).map fun x => (x, y)
def fldT (W H : Nat) : List (Int × Int) := (ir 0 H).flatMap fun y => (ir 0 W).map fun x => (y, x)
theorem mem_fldT {q : Int × Int} : q ∈ fldT W H ↔ (0 ≤ q.1 ∧ q.1 < H) ∧ 0 ≤ q.2 ∧ q.2 < W := by
  unfold fldT
  simp only [List.mem_flatMap, List.mem_map, mem_ir]
  constructor
  · rintro ⟨y, hy, x, hx, rfl⟩; exact ⟨hy, hx⟩
  · rintro ⟨h1, h2⟩; exact ⟨q.1, h1, q.2, h2, rfl⟩
theorem mem_flds {q : Int × Int} : q ∈ flds W H ↔ InB W H q := by
  unfold flds InB
  simp only [List.mem_flatMap, List.mem_map, mem_ir]
  constructor
  · rintro ⟨y, hy, x, hx, rfl⟩; exact ⟨hx, hy⟩
  · rintro ⟨h1, h2⟩; exact ⟨q.2, h2, q.1, h1, rfl⟩
theorem flds_len (B : BOk W H) : (fldT W H).length ≤ 100 ∧ (flds W H).length ≤ 100 := by
  have hW := B.W
  have hH := B.H
  have : ∀ {F : Int → List (Int × Int)}, (∀ y, (F y).length ≤ 10) → ((ir 0 H).flatMap F).length ≤ 100 := fun {F} h => by
    refine Nat.le_trans (flatMap_le (c := 10) fun y _ => h y) ?_
    rw [ir_len]; omega
  exact ⟨this fun y => by rw [List.length_map, ir_len]; omega, this fun y => by rw [List.length_map, ir_len]; omega⟩
theorem e_ltold (B : BOk W H) (hn : 2 ≤ n) : callF fs gs n 43 [.tup [bD W H m, bD W H d], bD W H f] s = .ok (if leB W H f m = true then bD W H (lsF f d) else .non) s := by
  obtain ⟨k, rfl, hk⟩ := sc hn
  rw [call_at (f := c__law_told) rfl rfl]
  have hW := B.W
  have hH := B.H
  have i0 := idx_bD (W := W) (H := H) (f := f) (y := 0) (by omega)
  have r1 := rng1_ir (j := W) (by omega)
  have r2 := rng1_ir (j := H) (by omega)
  have inner : ∀ (y : Int) env, env = [some (SV.val (.tup [bD W H m, bD W H d])), some (.val (bD W H f)), some (.val (bD W H m)), some (.val (bD W H d)), none, some (.val (.int y)), none] → evF (callF fs gs k) gs (.cp1 (.tup (.c (.var 5) (.c (.var 6) .nil))) (.nm 6) (.rg1 (.blt .len (.c (.idx (.var 1) (.int 0)) .nil))) .n [6]) env s = .ok ((ir 0 W).map fun x => pD (y, x)) s := by
    rintro y env rfl
    exact cp1_map (xs := ir 0 W) (mk := D.int) (g := fun x => pD (y, x)) (by simp [i0, r1]) (fun a ha => ⟨_, rfl, by simp [noOwn, wipeE, pD]⟩) (by rw [ir_len]; show _ ≤ 16777216; omega)
  have outer : ∀ env, env = [some (SV.val (.tup [bD W H m, bD W H d])), some (.val (bD W H f)), some (.val (bD W H m)), some (.val (bD W H d)), none, none, none] → evF (callF fs gs k) gs (.cp1 (.fz (.cp1 (.tup (.c (.var 5) (.c (.var 6) .nil))) (.nm 6) (.rg1 (.blt .len (.c (.idx (.var 1) (.int 0)) .nil))) .n [6])) (.nm 5) (.rg1 (.blt .len (.c (.var 1) .nil))) .n [5]) env s = .ok (((ir 0 H).map fun y => (ir 0 W).map fun x => pD (y, x)).map D.lst) s := by
    rintro env rfl
    rw [List.map_map]
    exact cp1_map (xs := ir 0 H) (mk := D.int) (g := D.lst ∘ fun y => (ir 0 W).map fun x => pD (y, x)) (by simp [r2]) (fun b hb => ⟨_, rfl, by
      have e := inner b _ rfl
      simp [noOwn, wipeE, e]⟩) (by rw [ir_len]; show _ ≤ 16777216; omega)
  have e1 := outer _ rfl
  have e2 := e_flatM (n := k) (s := s) (Ls := (ir 0 H).map fun y => (ir 0 W).map fun x => pD (y, x)) (M := 100) (c := 10) (by omega) (by rw [List.length_map, ir_len]; omega) (by omega) (fun l hl => by
    obtain ⟨b, _, rfl⟩ := List.mem_map.mp hl
    rw [List.length_map, ir_len]; omega)
  have e3 : ((ir 0 H).map fun y => (ir 0 W).map fun x => pD (y, x)).flatten = (fldT W H).map pD := by
    unfold fldT
    rw [List.map_flatMap, List.flatMap_def]
    simp only [List.map_map]
    rfl
  rw [e3] at e2
  have e4 : ∀ env, env = [some (SV.val (.tup [bD W H m, bD W H d])), some (.val (bD W H f)), some (.val (bD W H m)), some (.val (bD W H d)), some (.val (.lst ((fldT W H).map pD))), none, none] → evF (callF fs gs k) gs (.cp1 (.cmp .gt (.idx (.idx (.var 1) (.var 5)) (.var 6)) (.idx (.idx (.var 2) (.var 5)) (.var 6))) (.tp (.c (.nm 5) (.c (.nm 6) .nil))) (.seq (.var 4)) .n [5, 6]) env s = .ok (((fldT W H).map fun q => decide (m q.2 q.1 < f q.2 q.1)).map D.bl) s := by
    rintro env rfl
    rw [List.map_map]
    refine cp1_map (xs := fldT W H) (mk := pD) (by simp [items?]) (fun q hq => ⟨_, rfl, ?_⟩) (by have := (flds_len B).1; show _ ≤ 16777216; omega)
    obtain ⟨h1, h2⟩ := mem_fldT.mp hq
    have ey : ((q.1.toNat : Nat) : Int) = q.1 := by omega
    have j1 := idx_bD (W := W) (H := H) (f := f) (y := q.1) h1
    have j2 := idx_bD (W := W) (H := H) (f := m) (y := q.1) h1
    have j3 := idx_row (W := W) (f := f) (x := q.2) (b := q.1.toNat) h2
    have j4 := idx_row (W := W) (f := m) (x := q.2) (b := q.1.toNat) h2
    rw [ey] at j3 j4
    simp [noOwn, wipeE, j1, j2, j3, j4]
  have e5 := e4 _ rfl
  have e6 : ((fldT W H).map fun q => decide (m q.2 q.1 < f q.2 q.1)).any id = !leB W H f m := by
    rw [Bool.eq_iff_iff]
    simp only [List.any_eq_true, List.mem_map, id_eq, Bool.not_eq_true', ← Bool.not_eq_true]
    rw [leB_iff]
    constructor
    · rintro ⟨x, ⟨q, hq, e⟩, hx⟩ z
      obtain ⟨h1, h2⟩ := mem_fldT.mp hq
      have := z q.2 q.1 ⟨h2, h1⟩
      rw [← e] at hx
      have := of_decide_eq_true hx
      omega
    · intro q
      refine Classical.byContradiction fun z => q fun a b hi => ?_
      refine Classical.byContradiction fun w => z ⟨true, ⟨(b, a), mem_fldT.mpr ⟨hi.2, hi.1⟩, decide_eq_true (by show m a b < f a b; omega)⟩, rfl⟩
  have e7 := any_bl (l := (fldT W H).map fun q => decide (m q.2 q.1 < f q.2 q.1))
  rw [e6] at e7
  have in2 : ∀ (b : Int) env, (0 ≤ b ∧ b < H) → env = [some (SV.val (.tup [bD W H m, bD W H d])), some (.val (bD W H f)), some (.val (bD W H m)), some (.val (bD W H d)), some (.val (.lst ((fldT W H).map pD))), some (.val (.int b)), none] → evF (callF fs gs k) gs (.cp1 (.blt .min (.c (.idx (.idx (.var 1) (.var 5)) (.var 6)) (.c (.idx (.idx (.var 3) (.var 5)) (.var 6)) .nil))) (.nm 6) (.rg1 (.blt .len (.c (.idx (.var 1) (.int 0)) .nil))) .n [6]) env s = .ok ((ir 0 W).map fun x => D.int (lsF f d x b)) s := by
    rintro b env hb rfl
    refine cp1_map (xs := ir 0 W) (mk := D.int) (g := fun x => D.int (lsF f d x b)) (by simp [i0, r1]) (fun a ha => ⟨_, rfl, ?_⟩) (by rw [ir_len]; show _ ≤ 16777216; omega)
    have ha := mem_ir.mp ha
    have ey : ((b.toNat : Nat) : Int) = b := by omega
    have j1 := idx_bD (W := W) (H := H) (f := f) (y := b) hb
    have j2 := idx_bD (W := W) (H := H) (f := d) (y := b) hb
    have j3 := idx_row (W := W) (f := f) (x := a) (b := b.toNat) ha
    have j4 := idx_row (W := W) (f := d) (x := a) (b := b.toNat) ha
    rw [ey] at j3 j4
    simp [noOwn, wipeE, j1, j2, j3, j4, lsF]
  have irn : ∀ (N : Nat) (F : Int → D), (ir 0 N).map F = (List.range N).map fun (a : Nat) => F a := fun N F => by
    unfold ir
    rw [List.map_map]
    have : ((N : Int) - 0).toNat = N := by omega
    rw [this]
    refine List.map_congr_left fun a _ => ?_
    simp
  have out2 : ∀ env, env = [some (SV.val (.tup [bD W H m, bD W H d])), some (.val (bD W H f)), some (.val (bD W H m)), some (.val (bD W H d)), some (.val (.lst ((fldT W H).map pD))), none, none] → evF (callF fs gs k) gs (.cp1 (.blt .tup (.c (.fz (.cp1 (.blt .min (.c (.idx (.idx (.var 1) (.var 5)) (.var 6)) (.c (.idx (.idx (.var 3) (.var 5)) (.var 6)) .nil))) (.nm 6) (.rg1 (.blt .len (.c (.idx (.var 1) (.int 0)) .nil))) .n [6])) .nil)) (.nm 5) (.rg1 (.blt .len (.c (.var 1) .nil))) .n [5]) env s = .ok ((ir 0 H).map fun b => D.tup ((ir 0 W).map fun x => D.int (lsF f d x b))) s := by
    rintro env rfl
    exact cp1_map (xs := ir 0 H) (mk := D.int) (by simp [r2]) (fun b hb => ⟨_, rfl, by
      have e := in2 b _ (mem_ir.mp hb) rfl
      simp [noOwn, wipeE, e]⟩) (by rw [ir_len]; show _ ≤ 16777216; omega)
  have o2 := out2 _ rfl
  have e8 : D.tup ((ir 0 H).map fun b => D.tup ((ir 0 W).map fun x => D.int (lsF f d x b))) = bD W H (lsF f d) := by
    rw [irn]
    unfold bD
    refine congrArg D.tup (List.map_congr_left fun b _ => ?_)
    unfold rowD
    refine congrArg D.tup ?_
    rw [irn]
  have es : startE c__law_told.N.length [.tup [bD W H m, bD W H d], bD W H f] = [some (SV.val (.tup [bD W H m, bD W H d])), some (.val (bD W H f)), none, none, none, none, none] := rfl
  generalize ((ir 0 H).map fun y => (ir 0 W).map fun x => pD (y, x)).map D.lst = Q1 at *
  generalize (fldT W H).map pD = Q2 at *
  generalize ((fldT W H).map fun q => decide (m q.2 q.1 < f q.2 q.1)).map D.bl = Q3 at *
  generalize (ir 0 H).map (fun b => D.tup ((ir 0 W).map fun x => D.int (lsF f d x b))) = Q4 at *
  rw [es]
  generalize leB W H f m = lb at *
  cases lb with
  | true =>
    simp [c__law_told, frzR, e1, e2, e5, e7, o2, e8, borrows, isOwn]
  | false =>
    simp [c__law_told, frzR, e1, e2, e5, e7, borrows, isOwn]
end
end PV.K81
set_option maxRecDepth 100000
set_option maxHeartbeats 4000000
namespace PV
open PySem
section
variable {cf : Nat → List D → Sto → Out D} {gs : List D} {env : Env} {s : Sto}
theorem app_loc {i k : Nat} {e : Ex} {d : D} {ds : List D} (h : env[i]? = some (some (.val (.loc k)))) (hk : s[k]? = some (.lst ds)) (he : ev cf gs false e env s = .ok d s) (hl : ds.length < LINE) : exec cf gs (.app i e) env s = .ok (.nx env) (s.set k (.lst (ds ++ [d]))) := by
  rw [exec_app]
  simp [h, hk, he, chg, hl]
end
end PV
namespace PV.K81
open PySem PV
section
variable {n : Nat} {s : Sto} {W H : Nat} {f g h m d : F2} {t : Tool} {ts : List Tool}
/-! ### the law's trace -/
def wdL (W H : Nat) (u : Un) : List (Int × Int) := bn u ++ laF u.2.1.2.1 u.2.1.2.2.2 u.2.2.2.1 u.2.2.2.2.1 W H
theorem mem_wdL {u : Un} {p : Int × Int} : p ∈ wdL W H u ↔ p ∈ wd W H u := by
  unfold wdL wd
  rw [List.mem_append, List.mem_append, mem_la]
def rwD (W H : Nat) (u : Un) : D := .tup [.lst ((bn u).map pD), .lst ((wdL W H u).map pD), kindD u.2.2.1, .int (zu u), .int (up u)]
def E1 (S T M : D) (L : List D) (o4 o5 o6 o7 o12 : Option SV) : Env := [some (.val S), some (.val T), some (.val M), some (.own L), o4, o5, o6, o7, none, none, none, none, o12, none, none, none, none, none, none, none, none, none, none, none, none]
def E2 (S T M : D) (L : List D) (o4 o5 o6 o7 : Option SV) (k : Nat) (o10 o12 o13 o14 o15 o16 o17 o18 o19 o20 : Option SV) : Env := [some (.val S), some (.val T), some (.val M), some (.own L), o4, o5, o6, o7, some (.val (.loc k)), some (.val (.loc (k + 1))), o10, none, o12, o13, o14, o15, o16, o17, o18, o19, o20, none, none, none, none]
def bRo : Sms := (.c (.asg (.nm 12) (.call 33 (.c (.var 5) (.c (.idx (.var 7) (.int 0)) (.c (.idx (.var 7) (.int 1)) .nil))))) (.c (.app 3 (.tup (.c (.var 12) (.c (.bin .add (.var 12) (.call 34 (.c (.var 0) (.c (.var 5) (.c (.idx (.var 7) (.int 0)) (.c (.idx (.var 7) (.int 1)) .nil)))))) (.c (.var 6) (.c (.idx (.var 7) (.int 2)) (.c (.idx (.var 5) (.int 2)) .nil))))))) .nil))
def bRw : Sms := (.c (.asg (.nm 17) (.bop false (.c (.var 17) (.c (.cmp .gt (.var 16) (.bin .add (.var 19) (.var 20))) (.c (.bop true (.c (.cmp .eq (.var 6) (.str "fast")) (.c (.cmp .inn (.var 10) (.var 12)) (.c (.cmp .gt (.var 16) (.var 19)) .nil)))) .nil))))) (.c (.asg (.nm 16) (.ite (.cmp .inn (.var 10) (.var 12)) (.blt .min (.c (.var 16) (.c (.var 19) .nil))) (.var 16))) .nil))
def bHt : Sms := (.c (.par [16, 17] (.v (.var 15) (.v (.bl false) .nil))) (.c (.for (.tp (.c (.nm 12) (.c (.nm 18) (.c (.nm 6) (.c (.nm 19) (.c (.nm 20) .nil)))))) (.seq (.var 13)) bRw) (.c (.asg (.nm 14) (.ite (.bop true (.c (.cmp .eq (.var 14) (.bin .sub (.var 15) (.int 1))) (.c (.not (.var 17)) .nil))) (.var 15) (.var 14))) .nil)))
def bFi : Sms := (.c (.par [13, 14] (.v (.fz (.cp1 (.var 23) (.nm 23) (.seq (.var 3)) (.s (.cmp .inn (.var 10) (.idx (.var 23) (.int 1)))) [23])) (.v (.neg (.int 1)) .nil))) (.c (.for (.nm 15) (.rg1 (.int 13)) bHt) (.c (.app 8 (.var 14)) (.c (.app 9 (.blt .min (.c (.bin .add (.fz (.dsp (.c (.int 12) .nil))) (.fz (.cp1 (.idx (.var 23) (.int 3)) (.nm 23) (.seq (.var 13)) (.s (.cmp .inn (.var 10) (.idx (.var 23) (.int 0)))) [23]))) .nil))) .nil))))
theorem in_pD {p : Int × Int} {L : List (Int × Int)} : cmpD .inn (pD p) (.lst (L.map pD)) = some (decide (p ∈ L)) := in_win (a := p.1) (b := p.2)
@[simp] theorem deref_pD {p : Int × Int} : deref s (pD p) = pD p := id rfl
theorem ro_turn (B : BOk W H) (hn : 3 ≤ n) {T M : D} {u : Un} (U : UOk W H u) {L : List D} {o4 o5 o6 o7 o12 : Option SV} (hz : L.length ≤ 1000000) :
    ∃ p4 p5 p6 p7 p12, stepF (callF fs gs n) gs (.tp (.c (.nm 4) (.c (.nm 5) (.c (.nm 6) (.c (.nm 7) .nil))))) bRo (unD u) (E1 (.tup [.int W, .int H]) T M L o4 o5 o6 o7 o12) s = .ok (.nx (E1 (.tup [.int W, .int H]) T M (L ++ [rwD W H u]) p4 p5 p6 p7 p12)) s := by
  obtain ⟨j, t, k, b⟩ := u
  have hT : TOk W H t := U.T
  have hF : fit W H t.2.1 b := U.fit
  unfold fit at hF
  have hsd := hT.sd
  have hW := B.W
  have hH := B.H
  have eb : bindT (.tp (.c (.nm 4) (.c (.nm 5) (.c (.nm 6) (.c (.nm 7) .nil))))) (unD (j, t, k, b)) (E1 (.tup [.int W, .int H]) T M L o4 o5 o6 o7 o12) = some (E1 (.tup [.int W, .int H]) T M L (some (.val (.int j))) (some (.val (toolD t))) (some (.val (kindD k))) (some (.val (p3D b))) o12) := rfl
  have e1 := e_lben (n := n) (s := s) (t := t) (x := b.1) (y := b.2.1) hsd (by omega) (by omega) (by omega)
  have e2 := e_labout (n := n) (s := s) (W := W) (H := H) (t := t) (x := b.1) (y := b.2.1) hT (by omega) (by omega) (by omega)
  have l1 := ben_len (sd := t.2.1) (x := b.1) (y := b.2.1) ⟨by omega, hsd.2⟩
  have l2 := laF_len (x := b.1) (y := b.2.1) (W := W) (H := H) (sd := t.2.1) (rm := t.2.2.2) (by omega) hT.rm
  have e3 : rwD W H (j, t, k, b) = .tup [.lst ((benF t.2.1 b.1 b.2.1).map pD), .lst ((benF t.2.1 b.1 b.2.1).map pD ++ (laF t.2.1 t.2.2.2 b.1 b.2.1 W H).map pD), kindD k, .int b.2.2, .int t.2.2.1] := by
    unfold rwD wdL bn zu up
    rw [List.map_append]
  rw [e3]
  have hz1 : ((benF t.2.1 b.1 b.2.1).map pD).length + ((laF t.2.1 t.2.2.2 b.1 b.2.1 W H).map pD).length ≤ LINE := by rw [List.length_map, List.length_map]; show _ ≤ 16777216; omega
  have hz2 : L.length < LINE := by show _ < 16777216; omega
  generalize (benF t.2.1 b.1 b.2.1).map pD = B1 at *
  generalize (laF t.2.1 t.2.2.2 b.1 b.2.1 W H).map pD = B2 at *
  refine ⟨some (.val (.int j)), some (.val (toolD t)), some (.val (kindD k)), some (.val (p3D b)), some (.val (.lst B1)), ?_⟩
  unfold stepF
  rw [eb]
  simp [bRo, E1, e1, e2, hz1, hz2, chg, borrows, isOwn]
theorem ro_loop (B : BOk W H) (hn : 3 ≤ n) {T M : D} : ∀ {us : List Un} {L : List D} {o4 o5 o6 o7 o12 : Option SV}, (∀ u ∈ us, UOk W H u) → L.length + us.length ≤ 1000000 →
    ∃ p4 p5 p6 p7 p12, forF (stepF (callF fs gs n) gs (.tp (.c (.nm 4) (.c (.nm 5) (.c (.nm 6) (.c (.nm 7) .nil))))) bRo) (us.map unD) (E1 (.tup [.int W, .int H]) T M L o4 o5 o6 o7 o12) s = .ok (.nx (E1 (.tup [.int W, .int H]) T M (L ++ us.map (rwD W H)) p4 p5 p6 p7 p12)) s
  | [], L, o4, o5, o6, o7, o12, _, _ => ⟨o4, o5, o6, o7, o12, by show _ = Out.ok (Flow.nx (E1 _ T M (L ++ []) o4 o5 o6 o7 o12)) s; rw [List.append_nil]; rfl⟩
  | u :: us, L, o4, o5, o6, o7, o12, h, hz => by
    rw [List.length_cons] at hz
    obtain ⟨p4, p5, p6, p7, p12, e1⟩ := ro_turn (n := n) (s := s) B hn (T := T) (M := M) (h u List.mem_cons_self) (L := L) (o4 := o4) (o5 := o5) (o6 := o6) (o7 := o7) (o12 := o12) (by omega)
    obtain ⟨q4, q5, q6, q7, q12, e2⟩ := ro_loop B hn (T := T) (M := M) (us := us) (L := L ++ [rwD W H u]) (o4 := p4) (o5 := p5) (o6 := p6) (o7 := p7) (o12 := p12) (fun v hv => h v (List.mem_cons_of_mem _ hv)) (by rw [List.length_append]; simp; omega)
    refine ⟨q4, q5, q6, q7, q12, ?_⟩
    rw [List.map_cons, forF_cons, e1, nextL_nx, e2, List.append_assoc]
    rfl
section
variable {S T M : D} {L : List D} {o4 o5 o6 o7 o10 o12 o13 o14 o15 o16 o17 o18 o19 o20 : Option SV} {k : Nat} {p : Int × Int}
theorem rw_turn {u : Un} {a : Int × Bool} :
    stepF (callF fs gs n) gs (.tp (.c (.nm 12) (.c (.nm 18) (.c (.nm 6) (.c (.nm 19) (.c (.nm 20) .nil)))))) bRw (rwD W H u) (E2 S T M L o4 o5 o6 o7 k (some (.val (pD p))) o12 o13 o14 o15 (some (.val (.int a.1))) (some (.val (.bl a.2))) o18 o19 o20) s
      = .ok (.nx (E2 S T M L o4 o5 (some (.val (kindD u.2.2.1))) o7 k (some (.val (pD p))) (some (.val (.lst ((bn u).map pD)))) o13 o14 o15 (some (.val (.int (cst p u a).1))) (some (.val (.bl (cst p u a).2))) (some (.val (.lst ((wdL W H u).map pD)))) (some (.val (.int (zu u)))) (some (.val (.int (up u)))))) s := by
  have eb : bindT (.tp (.c (.nm 12) (.c (.nm 18) (.c (.nm 6) (.c (.nm 19) (.c (.nm 20) .nil)))))) (rwD W H u) (E2 S T M L o4 o5 o6 o7 k (some (.val (pD p))) o12 o13 o14 o15 (some (.val (.int a.1))) (some (.val (.bl a.2))) o18 o19 o20) = some (E2 S T M L o4 o5 (some (.val (kindD u.2.2.1))) o7 k (some (.val (pD p))) (some (.val (.lst ((bn u).map pD)))) o13 o14 o15 (some (.val (.int a.1))) (some (.val (.bl a.2))) (some (.val (.lst ((wdL W H u).map pD)))) (some (.val (.int (zu u)))) (some (.val (.int (up u))))) := rfl
  have hin := in_pD (p := p) (L := bn u)
  have hk := kind_eq (k := u.2.2.1)
  unfold stepF
  rw [eb]
  unfold cst
  obtain ⟨a1, a2⟩ := a
  generalize u.2.2.1 = kk at *
  generalize zu u = z at *
  generalize up u = up at *
  by_cases cb : p ∈ bn u
  · simp only [if_pos cb]
    simp only [decide_eq_true cb] at hin ⊢
    generalize (bn u).map pD = BL at *
    cases a2 <;> cases kk <;> by_cases c1 : z + up < a1 <;> by_cases c2 : z < a1 <;> simp [bRw, E2, hin, hk, c1, c2]
  · simp only [if_neg cb]
    simp only [decide_eq_false cb] at hin ⊢
    generalize (bn u).map pD = BL at *
    cases a2 <;> cases kk <;> by_cases c1 : z + up < a1 <;> simp [bRw, E2, hin, hk, c1]
theorem rw_loop : ∀ {us : List Un} {a : Int × Bool} {o6 o12 o18 o19 o20 : Option SV},
    ∃ p6 p12 p18 p19 p20, forF (stepF (callF fs gs n) gs (.tp (.c (.nm 12) (.c (.nm 18) (.c (.nm 6) (.c (.nm 19) (.c (.nm 20) .nil)))))) bRw) (us.map (rwD W H)) (E2 S T M L o4 o5 o6 o7 k (some (.val (pD p))) o12 o13 o14 o15 (some (.val (.int a.1))) (some (.val (.bl a.2))) o18 o19 o20) s
      = .ok (.nx (E2 S T M L o4 o5 p6 o7 k (some (.val (pD p))) p12 o13 o14 o15 (some (.val (.int (us.foldl (fun a u => cst p u a) a).1))) (some (.val (.bl (us.foldl (fun a u => cst p u a) a).2))) p18 p19 p20)) s
  | [], a, o6, o12, o18, o19, o20 => ⟨o6, o12, o18, o19, o20, rfl⟩
  | u :: us, a, o6, o12, o18, o19, o20 => by
    have e1 := rw_turn (n := n) (s := s) (W := W) (H := H) (S := S) (T := T) (M := M) (L := L) (o4 := o4) (o5 := o5) (o6 := o6) (o7 := o7) (k := k) (p := p) (o12 := o12) (o13 := o13) (o14 := o14) (o15 := o15) (o18 := o18) (o19 := o19) (o20 := o20) (u := u) (a := a)
    obtain ⟨p6, p12, p18, p19, p20, e2⟩ := rw_loop (us := us) (a := cst p u a) (o6 := some (.val (kindD u.2.2.1))) (o12 := some (.val (.lst ((bn u).map pD)))) (o18 := some (.val (.lst ((wdL W H u).map pD)))) (o19 := some (.val (.int (zu u)))) (o20 := some (.val (.int (up u))))
    exact ⟨p6, p12, p18, p19, p20, by rw [List.map_cons, forF_cons, e1, nextL_nx, e2]; rfl⟩
theorem ht_turn {us : List Un} {j gg : Int} :
    ∃ p6 p12 p16 p17 p18 p19 p20, stepF (callF fs gs n) gs (.nm 15) bHt (.int j) (E2 S T M L o4 o5 o6 o7 k (some (.val (pD p))) o12 (some (.val (.lst (us.map (rwD W H))))) (some (.val (.int gg))) o15 o16 o17 o18 o19 o20) s
      = .ok (.nx (E2 S T M L o4 o5 p6 o7 k (some (.val (pD p))) p12 (some (.val (.lst (us.map (rwD W H))))) (some (.val (.int (if gg = j - 1 ∧ (us.foldl (fun a u => cst p u a) (j, false)).2 = false then j else gg)))) (some (.val (.int j))) p16 p17 p18 p19 p20)) s := by
  have eb : bindT (.nm 15) (.int j) (E2 S T M L o4 o5 o6 o7 k (some (.val (pD p))) o12 (some (.val (.lst (us.map (rwD W H))))) (some (.val (.int gg))) o15 o16 o17 o18 o19 o20) = some (E2 S T M L o4 o5 o6 o7 k (some (.val (pD p))) o12 (some (.val (.lst (us.map (rwD W H))))) (some (.val (.int gg))) (some (.val (.int j))) o16 o17 o18 o19 o20) := rfl
  obtain ⟨p6, p12, p18, p19, p20, e⟩ := rw_loop (n := n) (s := s) (W := W) (H := H) (S := S) (T := T) (M := M) (L := L) (o4 := o4) (o5 := o5) (o7 := o7) (k := k) (p := p) (o13 := some (.val (.lst (us.map (rwD W H))))) (o14 := some (.val (.int gg))) (o15 := some (.val (.int j))) (us := us) (a := (j, false)) (o6 := o6) (o12 := o12) (o18 := o18) (o19 := o19) (o20 := o20)
  refine ⟨p6, p12, some (.val (.int (us.foldl (fun a u => cst p u a) (j, false)).1)), some (.val (.bl (us.foldl (fun a u => cst p u a) (j, false)).2)), p18, p19, p20, ?_⟩
  have x1 : ∀ rest, execs (callF fs gs n) gs (.c (.par [16, 17] (.v (.var 15) (.v (.bl false) .nil))) rest) (E2 S T M L o4 o5 o6 o7 k (some (.val (pD p))) o12 (some (.val (.lst (us.map (rwD W H))))) (some (.val (.int gg))) (some (.val (.int j))) o16 o17 o18 o19 o20) s = execs (callF fs gs n) gs rest (E2 S T M L o4 o5 o6 o7 k (some (.val (pD p))) o12 (some (.val (.lst (us.map (rwD W H))))) (some (.val (.int gg))) (some (.val (.int j))) (some (.val (.int j))) (some (.val (.bl false))) o18 o19 o20) s := fun rest => by
    simp [E2]
  have e3 : evI (callF fs gs n) gs false (.seq (.var 13)) (E2 S T M L o4 o5 o6 o7 k (some (.val (pD p))) o12 (some (.val (.lst (us.map (rwD W H))))) (some (.val (.int gg))) (some (.val (.int j))) (some (.val (.int j))) (some (.val (.bl false))) o18 o19 o20) s = .ok (us.map (rwD W H)) s := by
    simp [E2, items?]
  have e4 : frzI (E2 S T M L o4 o5 o6 o7 k (some (.val (pD p))) o12 (some (.val (.lst (us.map (rwD W H))))) (some (.val (.int gg))) (some (.val (.int j))) (some (.val (.int j))) (some (.val (.bl false))) o18 o19 o20) (.seq (.var 13)) = E2 S T M L o4 o5 o6 o7 k (some (.val (pD p))) o12 (some (.val (.lst (us.map (rwD W H))))) (some (.val (.int gg))) (some (.val (.int j))) (some (.val (.int j))) (some (.val (.bl false))) o18 o19 o20 := rfl
  have e5 : stepF (callF fs gs n) gs (.nm 15) bHt (.int j) (E2 S T M L o4 o5 o6 o7 k (some (.val (pD p))) o12 (some (.val (.lst (us.map (rwD W H))))) (some (.val (.int gg))) o15 o16 o17 o18 o19 o20) s = execs (callF fs gs n) gs bHt (E2 S T M L o4 o5 o6 o7 k (some (.val (pD p))) o12 (some (.val (.lst (us.map (rwD W H))))) (some (.val (.int gg))) (some (.val (.int j))) o16 o17 o18 o19 o20) s := by
    unfold stepF
    rw [eb]
  rw [e5]
  unfold bHt
  rw [x1, execs_c, exec_for, e4, e3, ok_bind]
  rw [e, nextF_nx]
  generalize us.foldl (fun a u => cst p u a) (j, false) = R
  obtain ⟨r1, r2⟩ := R
  by_cases c : gg = j - 1
  · cases r2 <;> simp [E2, c]
  · cases r2 <;> simp [E2, c]
theorem ht_loop {us : List Un} {MM : Int} (hM : -1 ≤ MM ∧ MM ≤ 12) (hs : ∀ j : Int, 0 ≤ j ∧ j ≤ 12 → ((us.foldl (fun a u => cst p u a) (j, false)).2 = true ↔ ¬ j ≤ MM)) : ∀ (c : Nat) {j : Int} {o6 o12 o15 o16 o17 o18 o19 o20 : Option SV}, j + c = 13 → 0 ≤ j →
    ∃ p6 p12 p15 p16 p17 p18 p19 p20, forF (stepF (callF fs gs n) gs (.nm 15) bHt) ((ir j 13).map D.int) (E2 S T M L o4 o5 o6 o7 k (some (.val (pD p))) o12 (some (.val (.lst (us.map (rwD W H))))) (some (.val (.int (mn MM (j - 1))))) o15 o16 o17 o18 o19 o20) s
      = .ok (.nx (E2 S T M L o4 o5 p6 o7 k (some (.val (pD p))) p12 (some (.val (.lst (us.map (rwD W H))))) (some (.val (.int MM))) p15 p16 p17 p18 p19 p20)) s
  | 0, j, o6, o12, o15, o16, o17, o18, o19, o20, hj, h0 => by
    rw [ir_nil (by omega)]
    have : mn MM (j - 1) = MM := by have := mn_s MM (j - 1); omega
    rw [this]
    exact ⟨o6, o12, o15, o16, o17, o18, o19, o20, rfl⟩
  | c + 1, j, o6, o12, o15, o16, o17, o18, o19, o20, hj, h0 => by
    obtain ⟨p6, p12, p16, p17, p18, p19, p20, e1⟩ := ht_turn (n := n) (s := s) (W := W) (H := H) (S := S) (T := T) (M := M) (L := L) (o4 := o4) (o5 := o5) (o6 := o6) (o7 := o7) (k := k) (p := p) (o12 := o12) (o15 := o15) (o16 := o16) (o17 := o17) (o18 := o18) (o19 := o19) (o20 := o20) (us := us) (j := j) (gg := mn MM (j - 1))
    have hs1 := hs j ⟨h0, by omega⟩
    have eg : (if mn MM (j - 1) = j - 1 ∧ (us.foldl (fun a u => cst p u a) (j, false)).2 = false then j else mn MM (j - 1)) = mn MM (j + 1 - 1) := by
      have a := mn_s MM (j - 1)
      have b := mn_s MM (j + 1 - 1)
      by_cases q : j ≤ MM
      · have : (us.foldl (fun a u => cst p u a) (j, false)).2 = false := by
          cases hh : (us.foldl (fun a u => cst p u a) (j, false)).2 with
          | false => rfl
          | true => exact absurd q (hs1.mp hh)
        rw [if_pos ⟨by omega, this⟩]; omega
      · have : ¬ (us.foldl (fun a u => cst p u a) (j, false)).2 = false := by rw [hs1.mpr q]; decide
        rw [if_neg fun z => this z.2]; omega
    rw [eg] at e1
    obtain ⟨q6, q12, q15, q16, q17, q18, q19, q20, e2⟩ := ht_loop hM hs c (j := j + 1) (o6 := p6) (o12 := p12) (o15 := some (.val (.int j))) (o16 := p16) (o17 := p17) (o18 := p18) (o19 := p19) (o20 := p20) (by omega) (by omega)
    exact ⟨q6, q12, q15, q16, q17, q18, q19, q20, by rw [ir_cons (by omega), List.map_cons, forF_cons, e1, nextL_nx, e2]⟩
end
end
end PV.K81
set_option maxRecDepth 100000
set_option maxHeartbeats 4000000
namespace PV.K81
open PySem PV
section
variable {n : Nat} {s : Sto} {W H : Nat} {f g h m d : F2} {t : Tool} {ts : List Tool}
section
variable {S T M : D} {o4 o5 o6 o7 o10 o12 o13 o14 o15 o16 o17 o18 o19 o20 : Option SV} {k : Nat} {p : Int × Int} {us : List Un}
theorem cm_len : (cmine W H p us).length ≤ us.length := List.length_filter_le _ _
theorem fi_mine (hz : us.length ≤ 1000000) :
    evF (callF fs gs n) gs (.cp1 (.var 23) (.nm 23) (.seq (.var 3)) (.s (.cmp .inn (.var 10) (.idx (.var 23) (.int 1)))) [23]) (E2 S T M (us.map (rwD W H)) o4 o5 o6 o7 k (some (.val (pD p))) o12 o13 o14 o15 o16 o17 o18 o19 o20) s = .ok ((cmine W H p us).map (rwD W H)) s := by
  have hf : us.flatMap (fun u => if p ∈ wd W H u then [rwD W H u] else []) = (cmine W H p us).map (rwD W H) := by
    unfold cmine
    clear hz
    induction us with
    | nil => rfl
    | cons u us ih => by_cases h : p ∈ wd W H u <;> simp [h, ih]
  rw [← hf]
  refine cp1_pure (xs := us) (mk := rwD W H) (by simp [E2, items?]) (fun u hu => ?_) (by
    rw [hf, List.length_map]
    exact Nat.le_trans cm_len (by show _ ≤ 16777216; omega))
  have hi := in_pD (p := p) (L := wdL W H u)
  have e : decide (p ∈ wdL W H u) = decide (p ∈ wd W H u) := by
    rw [Bool.eq_iff_iff, decide_eq_true_eq, decide_eq_true_eq]; exact mem_wdL
  rw [e] at hi
  have dr : ∀ s : Sto, deref s (rwD W H u) = rwD W H u := fun _ => rfl
  have i1 : idxD (rwD W H u) (.int 1) = some (.lst ((wdL W H u).map pD)) := by unfold rwD; simp
  generalize (wdL W H u).map pD = WL at *
  by_cases c : p ∈ wd W H u
  · simp only [decide_eq_true c] at hi
    rw [if_pos c]
    generalize rwD W H u = RD at *
    simp [turn1, wipeE, E2, noOwn, hi, dr, i1]
  · simp only [decide_eq_false c] at hi
    rw [if_neg c]
    generalize rwD W H u = RD at *
    simp [turn1, wipeE, E2, noOwn, hi, dr, i1]
theorem fi_deep (hz : us.length ≤ 1000000) {L : List D} :
    evF (callF fs gs n) gs (.cp1 (.idx (.var 23) (.int 3)) (.nm 23) (.seq (.var 13)) (.s (.cmp .inn (.var 10) (.idx (.var 23) (.int 0)))) [23]) (E2 S T M L o4 o5 o6 o7 k (some (.val (pD p))) o12 (some (.val (.lst (us.map (rwD W H))))) o14 o15 o16 o17 o18 o19 o20) s = .ok (((us.filter fun u => decide (p ∈ bn u)).map zu).map D.int) s := by
  have hf : us.flatMap (fun u => if p ∈ bn u then [D.int (zu u)] else []) = ((us.filter fun u => decide (p ∈ bn u)).map zu).map D.int := by
    clear hz
    induction us with
    | nil => rfl
    | cons u us ih => by_cases h : p ∈ bn u <;> simp [h, ih]
  rw [← hf]
  refine cp1_pure (xs := us) (mk := rwD W H) (by simp [E2, items?]) (fun u hu => ?_) (by
    rw [hf, List.length_map, List.length_map]
    exact Nat.le_trans (List.length_filter_le _ _) (by show _ ≤ 16777216; omega))
  have hi := in_pD (p := p) (L := bn u)
  have dr : ∀ s : Sto, deref s (rwD W H u) = rwD W H u := fun _ => rfl
  have i1 : idxD (rwD W H u) (.int 0) = some (.lst ((bn u).map pD)) := by unfold rwD; simp
  have i3 : idxD (rwD W H u) (.int 3) = some (.int (zu u)) := by unfold rwD; simp
  generalize (bn u).map pD = WL at *
  by_cases c : p ∈ bn u
  · simp only [decide_eq_true c] at hi
    rw [if_pos c]
    generalize rwD W H u = RD at *
    simp [turn1, wipeE, E2, noOwn, hi, dr, i1, i3]
  · simp only [decide_eq_false c] at hi
    rw [if_neg c]
    generalize rwD W H u = RD at *
    simp [turn1, wipeE, E2, noOwn, hi, dr, i1, i3]
theorem two_0 {a b : SO} : (s ++ [a, b])[s.length]? = some a := by simp
theorem two_1 {a b : SO} : (s ++ [a, b])[s.length + 1]? = some b := by
  rw [List.getElem?_append_right (by omega)]
  have : s.length + 1 - s.length = 1 := by omega
  rw [this]; rfl
theorem two_s0 {a b c : SO} : (s ++ [a, b]).set s.length c = s ++ [c, b] := by simp
theorem two_s1 {a b c : SO} : (s ++ [a, b]).set (s.length + 1) c = s ++ [a, c] := by
  rw [List.set_append, if_neg (by omega)]
  have : s.length + 1 - s.length = 1 := by omega
  rw [this]; rfl
theorem fi_turn {ms ds : List Int} (hU : ∀ u ∈ us, UOk W H u) (hz : us.length ≤ 1000000) (hl1 : ms.length ≤ 1000) (hl2 : ds.length ≤ 1000) :
    ∃ p6 p12 p13 p14 p15 p16 p17 p18 p19 p20, stepF (callF fs gs n) gs (.nm 10) bFi (pD p) (E2 S T M (us.map (rwD W H)) o4 o5 o6 o7 s.length o10 o12 o13 o14 o15 o16 o17 o18 o19 o20) (s ++ [.lst (ms.map D.int), .lst (ds.map D.int)])
      = .ok (.nx (E2 S T M (us.map (rwD W H)) o4 o5 p6 o7 s.length (some (.val (pD p))) p12 p13 p14 p15 p16 p17 p18 p19 p20)) (s ++ [.lst ((ms ++ [(trU W H us (c12, c12)).1 p.1 p.2]).map D.int), .lst ((ds ++ [(trU W H us (c12, c12)).2 p.1 p.2]).map D.int)]) := by
  have hM1 : 0 ≤ (trU W H us (c12, c12)).1 p.1 p.2 := tr_nn hU (by unfold c12; omega)
  have hM2 : (trU W H us (c12, c12)).1 p.1 p.2 ≤ 12 := tr_le
  have hs : ∀ j : Int, 0 ≤ j ∧ j ≤ 12 → (((cmine W H p us).foldl (fun a u => cst p u a) (j, false)).2 = true ↔ ¬ j ≤ (trU W H us (c12, c12)).1 p.1 p.2) := fun j hj =>
    (cell_tr (W := W) (H := H) (p := p) (h := j) (us := us) (m := c12) (d := c12) (a := (j, false)) (by have := mn_s j (c12 p.1 p.2); unfold c12 at *; simp only; omega) (by unfold c12; simp; omega)).2
  have hD := cdepth (W := W) (H := H) (p := p) (us := us)
  have hmz : mn ((trU W H us (c12, c12)).1 p.1 p.2) (0 - 1) = -1 := by have := mn_s ((trU W H us (c12, c12)).1 p.1 p.2) (0 - 1); omega
  obtain ⟨p6, p12, p15, p16, p17, p18, p19, p20, e⟩ := ht_loop (n := n) (s := s ++ [.lst (ms.map D.int), .lst (ds.map D.int)]) (W := W) (H := H) (S := S) (T := T) (M := M) (L := us.map (rwD W H)) (o4 := o4) (o5 := o5) (o7 := o7) (k := s.length) (p := p) (us := cmine W H p us) (MM := (trU W H us (c12, c12)).1 p.1 p.2) ⟨by omega, hM2⟩ hs 13 (j := 0) (o6 := o6) (o12 := o12) (o15 := o15) (o16 := o16) (o17 := o17) (o18 := o18) (o19 := o19) (o20 := o20) rfl (by omega)
  rw [hmz] at e
  refine ⟨p6, p12, some (.val (.lst ((cmine W H p us).map (rwD W H)))), some (.val (.int ((trU W H us (c12, c12)).1 p.1 p.2))), p15, p16, p17, p18, p19, p20, ?_⟩
  have eb : stepF (callF fs gs n) gs (.nm 10) bFi (pD p) (E2 S T M (us.map (rwD W H)) o4 o5 o6 o7 s.length o10 o12 o13 o14 o15 o16 o17 o18 o19 o20) (s ++ [.lst (ms.map D.int), .lst (ds.map D.int)]) = execs (callF fs gs n) gs bFi (E2 S T M (us.map (rwD W H)) o4 o5 o6 o7 s.length (some (.val (pD p))) o12 o13 o14 o15 o16 o17 o18 o19 o20) (s ++ [.lst (ms.map D.int), .lst (ds.map D.int)]) := rfl
  have m1 := fi_mine (n := n) (s := s ++ [.lst (ms.map D.int), .lst (ds.map D.int)]) (W := W) (H := H) (S := S) (T := T) (M := M) (us := us) (o4 := o4) (o5 := o5) (o6 := o6) (o7 := o7) (k := s.length) (p := p) (o12 := o12) (o13 := o13) (o14 := o14) (o15 := o15) (o16 := o16) (o17 := o17) (o18 := o18) (o19 := o19) (o20 := o20) hz
  have x1 : ∀ rest, execs (callF fs gs n) gs (.c (.par [13, 14] (.v (.fz (.cp1 (.var 23) (.nm 23) (.seq (.var 3)) (.s (.cmp .inn (.var 10) (.idx (.var 23) (.int 1)))) [23])) (.v (.neg (.int 1)) .nil))) rest) (E2 S T M (us.map (rwD W H)) o4 o5 o6 o7 s.length (some (.val (pD p))) o12 o13 o14 o15 o16 o17 o18 o19 o20) (s ++ [.lst (ms.map D.int), .lst (ds.map D.int)]) = execs (callF fs gs n) gs rest (E2 S T M (us.map (rwD W H)) o4 o5 o6 o7 s.length (some (.val (pD p))) o12 (some (.val (.lst ((cmine W H p us).map (rwD W H))))) (some (.val (.int (-1)))) o15 o16 o17 o18 o19 o20) (s ++ [.lst (ms.map D.int), .lst (ds.map D.int)]) := fun rest => by
    rw [execs_c, exec_par, evP_v, ev_fz, m1]
    simp [E2]
  have r13 := rng1_ir (j := 13) (by omega)
  have e3 : ∀ env s, evI (callF fs gs n) gs false (.rg1 (.int 13)) env s = .ok ((ir 0 13).map D.int) s := fun env s => by simp [r13]
  have e4 : ∀ env, frzI env (.rg1 (.int 13)) = env := fun _ => rfl
  have d1 := fi_deep (n := n) (s := s ++ [.lst ((ms ++ [(trU W H us (c12, c12)).1 p.1 p.2]).map D.int), .lst (ds.map D.int)]) (W := W) (H := H) (S := S) (T := T) (M := M) (L := us.map (rwD W H)) (us := cmine W H p us) (o4 := o4) (o5 := o5) (o6 := p6) (o7 := o7) (k := s.length) (p := p) (o12 := p12) (o14 := some (.val (.int ((trU W H us (c12, c12)).1 p.1 p.2)))) (o15 := p15) (o16 := p16) (o17 := p17) (o18 := p18) (o19 := p19) (o20 := p20) (Nat.le_trans cm_len hz)
  have hl3 : [D.int 12].length + ((((cmine W H p us).filter fun u => decide (p ∈ bn u)).map zu).map D.int).length ≤ LINE := by
    rw [List.length_map, List.length_map]
    have := List.length_filter_le (fun u => decide (p ∈ bn u)) (cmine W H p us)
    have := cm_len (W := W) (H := H) (p := p) (us := us)
    show 1 + _ ≤ 16777216
    omega
  have mm : bltD .min [.lst ([D.int 12] ++ (((cmine W H p us).filter fun u => decide (p ∈ bn u)).map zu).map D.int)] = some (.int ((trU W H us (c12, c12)).2 p.1 p.2)) := by
    rw [← hD]; exact min_list
  rw [eb]
  unfold bFi
  rw [x1, execs_c, exec_for, e4, e3, ok_bind, e, nextF_nx]
  have a1 := app_loc (cf := callF fs gs n) (gs := gs) (env := E2 S T M (us.map (rwD W H)) o4 o5 p6 o7 s.length (some (.val (pD p))) p12 (some (.val (.lst ((cmine W H p us).map (rwD W H))))) (some (.val (.int ((trU W H us (c12, c12)).1 p.1 p.2)))) p15 p16 p17 p18 p19 p20) (i := 8) (k := s.length) (e := .var 14) (ds := ms.map D.int) (d := .int ((trU W H us (c12, c12)).1 p.1 p.2)) rfl two_0 (s := s ++ [.lst (ms.map D.int), .lst (ds.map D.int)]) (by simp [E2]) (by rw [List.length_map]; show _ < 16777216; omega)
  rw [two_s0] at a1
  have q1 : ms.map D.int ++ [D.int ((trU W H us (c12, c12)).1 p.1 p.2)] = (ms ++ [(trU W H us (c12, c12)).1 p.1 p.2]).map D.int := by rw [List.map_append]; rfl
  rw [q1] at a1
  rw [execs_c, a1, nextF_nx]
  have ee : ev (callF fs gs n) gs false (.blt .min (.c (.bin .add (.fz (.dsp (.c (.int 12) .nil))) (.fz (.cp1 (.idx (.var 23) (.int 3)) (.nm 23) (.seq (.var 13)) (.s (.cmp .inn (.var 10) (.idx (.var 23) (.int 0)))) [23]))) .nil)) (E2 S T M (us.map (rwD W H)) o4 o5 p6 o7 s.length (some (.val (pD p))) p12 (some (.val (.lst ((cmine W H p us).map (rwD W H))))) (some (.val (.int ((trU W H us (c12, c12)).1 p.1 p.2)))) p15 p16 p17 p18 p19 p20) (s ++ [.lst ((ms ++ [(trU W H us (c12, c12)).1 p.1 p.2]).map D.int), .lst (ds.map D.int)]) = .ok (.int ((trU W H us (c12, c12)).2 p.1 p.2)) (s ++ [.lst ((ms ++ [(trU W H us (c12, c12)).1 p.1 p.2]).map D.int), .lst (ds.map D.int)]) := by
    generalize s ++ [SO.lst ((ms ++ [(trU W H us (c12, c12)).1 p.1 p.2]).map D.int), .lst (ds.map D.int)] = s3 at *
    generalize (((cmine W H p us).filter fun u => decide (p ∈ bn u)).map zu).map D.int = ZL at *
    generalize E2 S T M (us.map (rwD W H)) o4 o5 p6 o7 s.length (some (.val (pD p))) p12 (some (.val (.lst ((cmine W H p us).map (rwD W H))))) (some (.val (.int ((trU W H us (c12, c12)).1 p.1 p.2)))) p15 p16 p17 p18 p19 p20 = env at *
    have ba : binD .add (.lst [D.int 12]) (.lst ZL) = some (.lst ([D.int 12] ++ ZL)) := by
      show (if [D.int 12].length + ZL.length ≤ LINE then some (D.lst ([D.int 12] ++ ZL)) else none) = _
      rw [if_pos hl3]
    generalize [D.int 12] ++ ZL = ZZ at *
    simp [d1, ba, mm]
  have a2 := app_loc (cf := callF fs gs n) (gs := gs) (env := E2 S T M (us.map (rwD W H)) o4 o5 p6 o7 s.length (some (.val (pD p))) p12 (some (.val (.lst ((cmine W H p us).map (rwD W H))))) (some (.val (.int ((trU W H us (c12, c12)).1 p.1 p.2)))) p15 p16 p17 p18 p19 p20) (i := 9) (k := s.length + 1) (ds := ds.map D.int) (d := .int ((trU W H us (c12, c12)).2 p.1 p.2)) rfl two_1 (s := s ++ [.lst ((ms ++ [(trU W H us (c12, c12)).1 p.1 p.2]).map D.int), .lst (ds.map D.int)]) ee (by rw [List.length_map]; show _ < 16777216; omega)
  rw [two_s1] at a2
  have q2 : ds.map D.int ++ [D.int ((trU W H us (c12, c12)).2 p.1 p.2)] = (ds ++ [(trU W H us (c12, c12)).2 p.1 p.2]).map D.int := by rw [List.map_append]; rfl
  rw [q2] at a2
  rw [execs_c, a2, nextF_nx, execs_nil]
theorem fi_loop (hU : ∀ u ∈ us, UOk W H u) (hz : us.length ≤ 1000000) : ∀ {ps : List (Int × Int)} {ms ds : List Int} {o6 o10 o12 o13 o14 o15 o16 o17 o18 o19 o20 : Option SV}, ms.length + ps.length ≤ 1000 → ds.length + ps.length ≤ 1000 →
    ∃ p6 p10 p12 p13 p14 p15 p16 p17 p18 p19 p20, forF (stepF (callF fs gs n) gs (.nm 10) bFi) (ps.map pD) (E2 S T M (us.map (rwD W H)) o4 o5 o6 o7 s.length o10 o12 o13 o14 o15 o16 o17 o18 o19 o20) (s ++ [.lst (ms.map D.int), .lst (ds.map D.int)])
      = .ok (.nx (E2 S T M (us.map (rwD W H)) o4 o5 p6 o7 s.length p10 p12 p13 p14 p15 p16 p17 p18 p19 p20)) (s ++ [.lst ((ms ++ ps.map fun p => (trU W H us (c12, c12)).1 p.1 p.2).map D.int), .lst ((ds ++ ps.map fun p => (trU W H us (c12, c12)).2 p.1 p.2).map D.int)])
  | [], ms, ds, o6, o10, o12, o13, o14, o15, o16, o17, o18, o19, o20, _, _ => ⟨o6, o10, o12, o13, o14, o15, o16, o17, o18, o19, o20, by simp only [List.map_nil, List.append_nil]; rfl⟩
  | p :: ps, ms, ds, o6, o10, o12, o13, o14, o15, o16, o17, o18, o19, o20, h1, h2 => by
    rw [List.length_cons] at h1 h2
    obtain ⟨p6, p12, p13, p14, p15, p16, p17, p18, p19, p20, e1⟩ := fi_turn (n := n) (s := s) (W := W) (H := H) (S := S) (T := T) (M := M) (us := us) (o4 := o4) (o5 := o5) (o6 := o6) (o7 := o7) (o10 := o10) (p := p) (o12 := o12) (o13 := o13) (o14 := o14) (o15 := o15) (o16 := o16) (o17 := o17) (o18 := o18) (o19 := o19) (o20 := o20) (ms := ms) (ds := ds) hU hz (by omega) (by omega)
    obtain ⟨q6, q10, q12, q13, q14, q15, q16, q17, q18, q19, q20, e2⟩ := fi_loop hU hz (ps := ps) (ms := ms ++ [(trU W H us (c12, c12)).1 p.1 p.2]) (ds := ds ++ [(trU W H us (c12, c12)).2 p.1 p.2]) (o6 := p6) (o10 := some (.val (pD p))) (o12 := p12) (o13 := p13) (o14 := p14) (o15 := p15) (o16 := p16) (o17 := p17) (o18 := p18) (o19 := p19) (o20 := p20) (by rw [List.length_append]; simp; omega) (by rw [List.length_append]; simp; omega)
    refine ⟨q6, q10, q12, q13, q14, q15, q16, q17, q18, q19, q20, ?_⟩
    rw [List.map_cons, forF_cons, e1, nextL_nx, e2, List.append_assoc, List.append_assoc]
    rfl
end
end
end PV.K81
set_option maxRecDepth 100000
set_option maxHeartbeats 4000000
namespace PV
open PySem
theorem flat_cut {α : Type} {W : Nat} : ∀ {Ls : List (List α)} {b : Nat} {l : List α}, (∀ l ∈ Ls, l.length = W) → Ls[b]? = some l → (Ls.flatten.drop (W * b)).take W = l ∧ W * b + W ≤ Ls.flatten.length
  | [], b, l, _, h => by simp at h
  | x :: Ls, 0, l, hl, h => by
    have e : x = l := by simpa using h
    subst e
    have := hl x List.mem_cons_self
    refine ⟨?_, by simp; omega⟩
    rw [Nat.mul_zero, List.drop_zero, List.flatten_cons]
    rw [List.take_append_of_le_length (by omega), List.take_of_length_le (by omega)]
  | x :: Ls, b + 1, l, hl, h => by
    have := hl x List.mem_cons_self
    have i := flat_cut (Ls := Ls) (b := b) (l := l) (fun y hy => hl y (List.mem_cons_of_mem _ hy)) (by simpa using h)
    rw [List.flatten_cons, List.length_append]
    have e : W * (b + 1) = x.length + W * b := by rw [Nat.mul_succ]; omega
    rw [e]
    refine ⟨?_, by omega⟩
    rw [List.drop_append, List.drop_of_length_le (by omega), List.nil_append]
    have e2 : x.length + W * b - x.length = W * b := by omega
    rw [e2]
    exact i.1
theorem cut_nat {α : Type} {xs : List α} {a b : Nat} (h : a + b ≤ xs.length) : cut xs (some (a : Int)) (some ((a : Int) + b)) = (xs.drop a).take b := by
  unfold cut
  have e : ((a : Int) + b) = ((a + b : Nat) : Int) := by omega
  rw [e, HT.sIx_nat, HT.sIx_nat, Nat.min_eq_left h, Nat.min_eq_left (show a ≤ xs.length by omega)]
  congr 1
  omega
end PV
namespace PV.K81
open PySem PV
section
variable {n : Nat} {s : Sto} {W H : Nat} {f g h m d : F2} {t : Tool} {ts : List Tool}
theorem irn {N : Nat} {F : Int → D} : (ir 0 N).map F = (List.range N).map fun (a : Nat) => F a := by
  unfold ir
  rw [List.map_map]
  have : ((N : Int) - 0).toNat = N := by omega
  rw [this]
  refine List.map_congr_left fun a _ => ?_
  simp
theorem row_ir {b : Int} (hb : 0 ≤ b) : D.tup ((ir 0 W).map fun x => D.int (f x b)) = rowD W f b.toNat := by
  unfold rowD
  refine congrArg D.tup ?_
  rw [irn]
  have : ((b.toNat : Nat) : Int) = b := by omega
  rw [this]
theorem bD_ir : D.tup ((ir 0 H).map fun b => rowD W f b.toNat) = bD W H f := by
  unfold bD
  refine congrArg D.tup ?_
  rw [irn]
  refine List.map_congr_left fun b _ => ?_
  simp
def noO : Option SV → Option SV
  | some (.own _) => none
  | x => x
theorem slc_row {y : Int} (hy : 0 ≤ y ∧ y < H) : slcD (.lst (((flds W H).map fun p => f p.1 p.2).map D.int)) (some ((W : Int) * y)) (some ((W : Int) * y + W)) = some (.lst ((ir 0 W).map fun x => D.int (f x y))) := by
  show some (D.lst (cut _ _ _)) = _
  have e1 : ((flds W H).map fun p => f p.1 p.2).map D.int = ((ir 0 H).map fun y => (ir 0 W).map fun x => D.int (f x y)).flatten := by
    unfold flds
    rw [List.map_flatMap, List.map_flatMap, List.flatMap_def]
    simp only [List.map_map]
    rfl
  have hl : ∀ l ∈ (ir 0 H).map (fun y => (ir 0 W).map fun x => D.int (f x y)), l.length = W := fun l hl => by
    obtain ⟨b, _, rfl⟩ := List.mem_map.mp hl
    rw [List.length_map, ir_len]; omega
  have hg : ((ir 0 H).map fun y => (ir 0 W).map fun x => D.int (f x y))[y.toNat]? = some ((ir 0 W).map fun x => D.int (f x y)) := by
    rw [List.getElem?_map, ir_get0 hy]; rfl
  obtain ⟨c1, c2⟩ := flat_cut hl hg
  rw [e1]
  generalize ((ir 0 H).map fun y => (ir 0 W).map fun x => D.int (f x y)).flatten = Q at *
  have e2 : (W : Int) * y = ((W * y.toNat : Nat) : Int) := by
    rw [Int.natCast_mul]
    have : ((y.toNat : Nat) : Int) = y := by omega
    rw [this]
  rw [e2, cut_nat c2, c1]
def E2x (S T M : D) (o4 o5 o6 o7 : Option SV) (k : Nat) (o10 o12 o13 o14 o15 o16 o17 o18 o19 o20 : Option SV) : Env := [some (.val S), some (.val T), some (.val M), none, noO o4, noO o5, noO o6, noO o7, some (.val (.loc k)), some (.val (.loc (k + 1))), noO o10, none, noO o12, noO o13, noO o14, noO o15, noO o16, noO o17, noO o18, noO o19, noO o20, none, none, none, none]
def xPr : Fx := .cp1 (.tup (.c (.blt .tup (.c (.slc (.var 8) (.s (.bin .mul (.idx (.var 0) (.int 0)) (.var 21))) (.s (.bin .add (.bin .mul (.idx (.var 0) (.int 0)) (.var 21)) (.idx (.var 0) (.int 0))))) .nil)) (.c (.blt .tup (.c (.slc (.var 9) (.s (.bin .mul (.idx (.var 0) (.int 0)) (.var 21))) (.s (.bin .add (.bin .mul (.idx (.var 0) (.int 0)) (.var 21)) (.idx (.var 0) (.int 0))))) .nil)) .nil))) (.nm 21) (.rg1 (.idx (.var 0) (.int 1))) .n [21]
theorem pr_ok (B : BOk W H) {T M : D} {L : List D} {o4 o5 o6 o7 o10 o12 o13 o14 o15 o16 o17 o18 o19 o20 : Option SV} :
    evF (callF fs gs n) gs xPr (E2 (.tup [.int W, .int H]) T M L o4 o5 o6 o7 s.length o10 o12 o13 o14 o15 o16 o17 o18 o19 o20) (s ++ [.lst (((flds W H).map fun p => f p.1 p.2).map D.int), .lst (((flds W H).map fun p => g p.1 p.2).map D.int)]) = .ok ((ir 0 H).map fun y => D.tup [rowD W f y.toNat, rowD W g y.toNat]) (s ++ [.lst (((flds W H).map fun p => f p.1 p.2).map D.int), .lst (((flds W H).map fun p => g p.1 p.2).map D.int)]) := by
  have hW := B.W
  have hH := B.H
  have r := rng1_ir (j := H) (by omega)
  unfold xPr
  refine cp1_map (xs := ir 0 H) (mk := D.int) (by simp [E2, r]) (fun y hy => ⟨_, rfl, ?_⟩) (by rw [ir_len]; show _ ≤ 16777216; omega)
  have hy := mem_ir.mp hy
  have s1 := slc_row (W := W) (H := H) (f := f) hy
  have s2 := slc_row (W := W) (H := H) (f := g) hy
  have t1 := row_ir (W := W) (f := f) hy.1
  have t2 := row_ir (W := W) (f := g) hy.1
  have g1 := two_0 (s := s) (a := SO.lst (((flds W H).map fun p => f p.1 p.2).map D.int)) (b := .lst (((flds W H).map fun p => g p.1 p.2).map D.int))
  have g2 := two_1 (s := s) (a := SO.lst (((flds W H).map fun p => f p.1 p.2).map D.int)) (b := .lst (((flds W H).map fun p => g p.1 p.2).map D.int))
  have mu : binD .mul (.int (W : Int)) (.int y) = some (.int ((W : Int) * y)) := by
    rw [bin_mul, if_pos (.inl (by omega))]
  generalize ((flds W H).map fun p => f p.1 p.2).map D.int = QF at *
  generalize ((flds W H).map fun p => g p.1 p.2).map D.int = QG at *
  generalize s ++ [SO.lst QF, SO.lst QG] = s3 at *
  generalize (W : Int) * y = Wy at *
  simp only [← t1, ← t2]
  generalize (ir 0 W).map (fun x => D.int (f x y)) = RF at *
  generalize (ir 0 W).map (fun x => D.int (g x y)) = RG at *
  have ne : noOwn (E2 (.tup [.int W, .int H]) T M L o4 o5 o6 o7 s.length o10 o12 o13 o14 o15 o16 o17 o18 o19 o20) = E2x (.tup [.int W, .int H]) T M o4 o5 o6 o7 s.length o10 o12 o13 o14 o15 o16 o17 o18 o19 o20 := rfl
  rw [ne]
  simp [wipeE, E2x, mu, s1, s2, g1, g2]
theorem e_ltrace {ms : List Mv} (P : PT W H ts) (h : POk W H ts ms none) (hz : ms.length ≤ 1000) (hn : 4 ≤ n) :
    ∃ s', callF fs gs n 42 [.tup [.int W, .int H], .tup (ts.map toolD), .tup (ms.map mvD)] s = .ok (trD W H (trP W H ts ms)) s' ∧ Gr s s' := by
  obtain ⟨k, rfl, hk⟩ := sc hn
  rw [call_at (f := c__law_trace) rfl rfl]
  have B := P.T.B
  have hW := B.W
  have hH := B.H
  have e1 := e_lsteps (n := k) (s := s) P h hz (by omega)
  obtain ⟨hU, hlen⟩ := units_ok P (j := 0) (p := (0, 0, 12)) h Nw.none
  unfold trP
  generalize unitsL ts ms 0 none (0, 0, 12) = us at *
  obtain ⟨p4, p5, p6, p7, p12, e2⟩ := ro_loop (n := k) (s := s) B hk (T := .tup (ts.map toolD)) (M := .tup (ms.map mvD)) (us := us) (L := []) (o4 := none) (o5 := none) (o6 := none) (o7 := none) (o12 := none) hU (by simp; omega)
  obtain ⟨q6, q10, q12, q13, q14, q15, q16, q17, q18, q19, q20, e3⟩ := fi_loop (n := k) (s := s) (W := W) (H := H) (S := .tup [.int W, .int H]) (T := .tup (ts.map toolD)) (M := .tup (ms.map mvD)) (us := us) (o4 := p4) (o5 := p5) (o7 := p7) hU (by omega) (ps := flds W H) (ms := []) (ds := []) (o6 := p6) (o10 := none) (o12 := p12) (o13 := none) (o14 := none) (o15 := none) (o16 := none) (o17 := none) (o18 := none) (o19 := none) (o20 := none) (by have := (flds_len B).2; simp; omega) (by have := (flds_len B).2; simp; omega)
  have e4 := pr_ok (n := k) (s := s) (f := (trU W H us (c12, c12)).1) (g := (trU W H us (c12, c12)).2) B (T := .tup (ts.map toolD)) (M := .tup (ms.map mvD)) (L := us.map (rwD W H)) (o4 := p4) (o5 := p5) (o6 := q6) (o7 := p7) (o10 := q10) (o12 := q12) (o13 := q13) (o14 := q14) (o15 := q15) (o16 := q16) (o17 := q17) (o18 := q18) (o19 := q19) (o20 := q20)
  rw [List.nil_append] at e2
  rw [List.nil_append, List.nil_append] at e3
  have et : trD W H (trU W H us (c12, c12)) = .tup [bD W H (trU W H us (c12, c12)).1, bD W H (trU W H us (c12, c12)).2] := rfl
  rw [et]
  generalize (trU W H us (c12, c12)).1 = F1 at *
  generalize (trU W H us (c12, c12)).2 = F2' at *
  have es : startE c__law_trace.N.length [.tup [.int W, .int H], .tup (ts.map toolD), .tup (ms.map mvD)] = [some (SV.val (.tup [.int W, .int H])), some (.val (.tup (ts.map toolD))), some (.val (.tup (ms.map mvD))), none, none, none, none, none, none, none, none, none, none, none, none, none, none, none, none, none, none, none, none, none, none] := rfl
  have eb : c__law_trace.body = .c (.own 3 (.dsp .nil)) (.c (.for (.tp (.c (.nm 4) (.c (.nm 5) (.c (.nm 6) (.c (.nm 7) .nil))))) (.seq (.call 38 (.c (.var 1) (.c (.var 2) .nil)))) bRo) (.c (.par [8, 9] (.v (.alloc (.dsp .nil)) (.v (.alloc (.dsp .nil)) .nil))) (.c (.for (.nm 10) (.seq (.call 29 (.c (.fz (.cp1 (.fz (.cp1 (.tup (.c (.var 22) (.c (.var 21) .nil))) (.nm 22) (.rg1 (.idx (.var 0) (.int 0))) .n [22])) (.nm 21) (.rg1 (.idx (.var 0) (.int 1))) .n [21])) .nil))) bFi) (.c (.asg (.nm 11) (.fz xPr)) (.c (.ret (.tup (.c (.blt .tup (.c (.fz (.cp1 (.idx (.var 24) (.int 0)) (.nm 24) (.seq (.var 11)) .n [24])) .nil)) (.c (.blt .tup (.c (.fz (.cp1 (.idx (.var 24) (.int 1)) (.nm 24) (.seq (.var 11)) .n [24])) .nil)) .nil)))) .nil))))) := rfl
  have x1 : ∀ rest, execs (callF fs gs k) gs (.c (.own 3 (.dsp .nil)) rest) [some (SV.val (.tup [.int W, .int H])), some (.val (.tup (ts.map toolD))), some (.val (.tup (ms.map mvD))), none, none, none, none, none, none, none, none, none, none, none, none, none, none, none, none, none, none, none, none, none, none] s = execs (callF fs gs k) gs rest (E1 (.tup [.int W, .int H]) (.tup (ts.map toolD)) (.tup (ms.map mvD)) [] none none none none none) s := fun rest => by
    simp [E1]
  have e5 : evI (callF fs gs k) gs false (.seq (.call 38 (.c (.var 1) (.c (.var 2) .nil)))) (E1 (.tup [.int W, .int H]) (.tup (ts.map toolD)) (.tup (ms.map mvD)) [] none none none none none) s = .ok (us.map unD) s := by
    simp [E1, e1, borrows, isOwn, items?]
  have e6 : ∀ env, frzI env (.seq (.call 38 (.c (.var 1) (.c (.var 2) .nil)))) = env := fun _ => rfl
  have x2 : ∀ rest, execs (callF fs gs k) gs (.c (.par [8, 9] (.v (.alloc (.dsp .nil)) (.v (.alloc (.dsp .nil)) .nil))) rest) (E1 (.tup [.int W, .int H]) (.tup (ts.map toolD)) (.tup (ms.map mvD)) (us.map (rwD W H)) p4 p5 p6 p7 p12) s = execs (callF fs gs k) gs rest (E2 (.tup [.int W, .int H]) (.tup (ts.map toolD)) (.tup (ms.map mvD)) (us.map (rwD W H)) p4 p5 p6 p7 s.length none p12 none none none none none none none none) (s ++ [.lst [], .lst []]) := fun rest => by
    simp [E1, E2]
  have r1 := rng1_ir (j := W) (by omega)
  have r2 := rng1_ir (j := H) (by omega)
  have inner : ∀ (y : Int) (s : Sto) env, env[0]? = some (some (.val (.tup [.int W, .int H]))) → env[21]? = some (some (.val (.int y))) → env.length = 25 → evF (callF fs gs k) gs (.cp1 (.tup (.c (.var 22) (.c (.var 21) .nil))) (.nm 22) (.rg1 (.idx (.var 0) (.int 0))) .n [22]) env s = .ok ((ir 0 W).map fun x => pD (x, y)) s := by
    intro y s env h0 h1 hl
    refine cp1_map (xs := ir 0 W) (mk := D.int) (g := fun x => pD (x, y)) (by simp [h0, r1]) (fun a ha => ⟨_, rfl, ?_⟩) (by rw [ir_len]; show _ ≤ 16777216; omega)
    have g1 : ((wipeE (noOwn env) [22]).set 22 (some (SV.val (.int a))))[22]? = some (some (.val (.int a))) := List.getElem?_set_self (by simp [wipeE, noOwn, hl])
    have g2 : ((wipeE (noOwn env) [22]).set 22 (some (SV.val (.int a))))[21]? = some (some (.val (.int y))) := by
      rw [List.getElem?_set_ne (by decide)]
      show ((noOwn env).set 22 none)[21]? = _
      rw [List.getElem?_set_ne (by decide)]
      exact noOwn_val h1
    generalize (wipeE (noOwn env) [22]).set 22 (some (SV.val (.int a))) = env2 at g1 g2
    simp [g1, g2, pD]
  have outer : ∀ (s : Sto) env, env[0]? = some (some (.val (.tup [.int W, .int H]))) → env.length = 25 → evF (callF fs gs k) gs (.cp1 (.fz (.cp1 (.tup (.c (.var 22) (.c (.var 21) .nil))) (.nm 22) (.rg1 (.idx (.var 0) (.int 0))) .n [22])) (.nm 21) (.rg1 (.idx (.var 0) (.int 1))) .n [21]) env s = .ok (((ir 0 H).map fun y => (ir 0 W).map fun x => pD (x, y)).map D.lst) s := by
    intro s env h0 hl
    rw [List.map_map]
    refine cp1_map (xs := ir 0 H) (mk := D.int) (g := D.lst ∘ fun y => (ir 0 W).map fun x => pD (x, y)) (by simp [h0, r2]) (fun b hb => ⟨_, rfl, ?_⟩) (by rw [ir_len]; show _ ≤ 16777216; omega)
    have g1 : ((wipeE (noOwn env) [21]).set 21 (some (SV.val (.int b))))[21]? = some (some (.val (.int b))) := List.getElem?_set_self (by simp [wipeE, noOwn, hl])
    have g2 : ((wipeE (noOwn env) [21]).set 21 (some (SV.val (.int b))))[0]? = some (some (.val (.tup [.int W, .int H]))) := by
      rw [List.getElem?_set_ne (by decide)]
      show ((noOwn env).set 21 none)[0]? = _
      rw [List.getElem?_set_ne (by decide)]
      exact noOwn_val h0
    have e := inner b s _ g2 g1 (by simp [wipeE, noOwn, hl])
    rw [ev_fz, e]; rfl
  have e7 := e_flatM (n := k) (s := s ++ [.lst [], .lst []]) (Ls := (ir 0 H).map fun y => (ir 0 W).map fun x => pD (x, y)) (M := 100) (c := 10) (by omega) (by rw [List.length_map, ir_len]; omega) (by omega) (fun l hl => by
    obtain ⟨b, _, rfl⟩ := List.mem_map.mp hl
    rw [List.length_map, ir_len]; omega)
  have e8 : ((ir 0 H).map fun y => (ir 0 W).map fun x => pD (x, y)).flatten = (flds W H).map pD := by
    unfold flds
    rw [List.map_flatMap, List.flatMap_def]
    simp only [List.map_map]
    rfl
  rw [e8] at e7
  have o1 := outer (s ++ [.lst [], .lst []]) (E2 (.tup [.int W, .int H]) (.tup (ts.map toolD)) (.tup (ms.map mvD)) (us.map (rwD W H)) p4 p5 p6 p7 s.length none p12 none none none none none none none none) rfl rfl
  have e9 : evI (callF fs gs k) gs false (.seq (.call 29 (.c (.fz (.cp1 (.fz (.cp1 (.tup (.c (.var 22) (.c (.var 21) .nil))) (.nm 22) (.rg1 (.idx (.var 0) (.int 0))) .n [22])) (.nm 21) (.rg1 (.idx (.var 0) (.int 1))) .n [21])) .nil))) (E2 (.tup [.int W, .int H]) (.tup (ts.map toolD)) (.tup (ms.map mvD)) (us.map (rwD W H)) p4 p5 p6 p7 s.length none p12 none none none none none none none none) (s ++ [.lst [], .lst []]) = .ok ((flds W H).map pD) (s ++ [.lst [], .lst []]) := by
    generalize ((ir 0 H).map fun y => (ir 0 W).map fun x => pD (x, y)).map D.lst = Q1 at *
    generalize (flds W H).map pD = Q2 at *
    generalize s ++ [SO.lst [], .lst []] = s3 at *
    generalize E2 (.tup [.int W, .int H]) (.tup (ts.map toolD)) (.tup (ms.map mvD)) (us.map (rwD W H)) p4 p5 p6 p7 s.length none p12 none none none none none none none none = env at *
    simp [o1, e7, borrows, isOwn, items?]
  have e10 : ∀ env, frzI env (.seq (.call 29 (.c (.fz (.cp1 (.fz (.cp1 (.tup (.c (.var 22) (.c (.var 21) .nil))) (.nm 22) (.rg1 (.idx (.var 0) (.int 0))) .n [22])) (.nm 21) (.rg1 (.idx (.var 0) (.int 1))) .n [21])) .nil))) = env := fun _ => rfl
  have e3' : forF (stepF (callF fs gs k) gs (.nm 10) bFi) ((flds W H).map pD) (E2 (.tup [.int W, .int H]) (.tup (ts.map toolD)) (.tup (ms.map mvD)) (us.map (rwD W H)) p4 p5 p6 p7 s.length none p12 none none none none none none none none) (s ++ [.lst [], .lst []]) = _ := e3
  refine ⟨_, ?_, ⟨[.lst (((flds W H).map fun p => F1 p.1 p.2).map D.int), .lst (((flds W H).map fun p => F2' p.1 p.2).map D.int)], rfl⟩⟩
  rw [eb, es, x1, execs_c, exec_for, e6, e5, ok_bind, e2, nextF_nx, x2, execs_c, exec_for, e10, e9, ok_bind, e3', nextF_nx, execs_c, exec_asg, ev_fz, e4, ok_bind, ok_bind]
  generalize s ++ [SO.lst (((flds W H).map fun p => F1 p.1 p.2).map D.int), .lst (((flds W H).map fun p => F2' p.1 p.2).map D.int)] = s3 at *
  have fin : ∀ (env : Env) (i : Int) (F : F2), env[11]? = some (some (.val (.lst ((ir 0 H).map fun y => D.tup [rowD W F1 y.toNat, rowD W F2' y.toNat])))) → env.length = 25 → (∀ y : Int, idxD (.tup [rowD W F1 y.toNat, rowD W F2' y.toNat]) (.int i) = some (rowD W F y.toNat)) → evF (callF fs gs k) gs (.cp1 (.idx (.var 24) (.int i)) (.nm 24) (.seq (.var 11)) .n [24]) env s3 = .ok ((ir 0 H).map fun y => rowD W F y.toNat) s3 := by
    intro env i F h0 hl hi
    refine cp1_map (xs := ir 0 H) (mk := fun y => D.tup [rowD W F1 y.toNat, rowD W F2' y.toNat]) (by simp [h0, items?]) (fun y hy => ⟨_, rfl, ?_⟩) (by rw [ir_len]; show _ ≤ 16777216; omega)
    have g1 : ((wipeE (noOwn env) [24]).set 24 (some (SV.val (.tup [rowD W F1 y.toNat, rowD W F2' y.toNat]))))[24]? = some (some (.val (.tup [rowD W F1 y.toNat, rowD W F2' y.toNat]))) := List.getElem?_set_self (by simp [wipeE, noOwn, hl])
    have hi := hi y
    generalize (wipeE (noOwn env) [24]).set 24 (some (SV.val (.tup [rowD W F1 y.toNat, rowD W F2' y.toNat]))) = env2 at g1
    simp [g1, hi]
  rw [bindT_nm, stE_some, nextF_nx]
  have f1 := fin ((E2 (.tup [.int W, .int H]) (.tup (ts.map toolD)) (.tup (ms.map mvD)) (us.map (rwD W H)) p4 p5 q6 p7 s.length q10 q12 q13 q14 q15 q16 q17 q18 q19 q20).set 11 (some (.val (.lst ((ir 0 H).map fun y => D.tup [rowD W F1 y.toNat, rowD W F2' y.toNat]))))) 0 F1 rfl rfl (fun _ => idx_0)
  have f2 := fin ((E2 (.tup [.int W, .int H]) (.tup (ts.map toolD)) (.tup (ms.map mvD)) (us.map (rwD W H)) p4 p5 q6 p7 s.length q10 q12 q13 q14 q15 q16 q17 q18 q19 q20).set 11 (some (.val (.lst ((ir 0 H).map fun y => D.tup [rowD W F1 y.toNat, rowD W F2' y.toNat]))))) 1 F2' rfl rfl (fun _ => idx_1)
  have b1 := bD_ir (W := W) (H := H) (f := F1)
  have b2 := bD_ir (W := W) (H := H) (f := F2')
  generalize (E2 (.tup [.int W, .int H]) (.tup (ts.map toolD)) (.tup (ms.map mvD)) (us.map (rwD W H)) p4 p5 q6 p7 s.length q10 q12 q13 q14 q15 q16 q17 q18 q19 q20).set 11 (some (.val (.lst ((ir 0 H).map fun y => D.tup [rowD W F1 y.toNat, rowD W F2' y.toNat])))) = env at *
  generalize (ir 0 H).map (fun y => rowD W F1 y.toNat) = R1 at *
  generalize (ir 0 H).map (fun y => rowD W F2' y.toNat) = R2 at *
  simp [frzR, f1, f2, b1, b2]
end
end PV.K81
set_option maxRecDepth 100000
set_option maxHeartbeats 4000000
namespace PV.K81
open PySem PV
section
variable {n : Nat} {s : Sto} {W H : Nat} {f g h m d : F2} {t : Tool} {ts : List Tool}
/-! ### drawn plans -/
def endT (ts : List Tool) : List Mv → Option Tool → Option Tool
  | [], tl => tl
  | .tool x :: r, _ => endT ts r (ts.find? fun t => t.1 = x)
  | .way _ _ :: r, tl => endT ts r tl
theorem POk.app : ∀ {a b : List Mv} {tl : Option Tool}, POk W H ts a tl → POk W H ts b (endT ts a tl) → POk W H ts (a ++ b) tl
  | [], b, tl, _, h => h
  | .tool x :: a, b, tl, h1, h2 => ⟨h1.1, POk.app h1.2 h2⟩
  | .way k q :: a, b, some t, h1, h2 => ⟨h1.1, POk.app h1.2 h2⟩
  | .way _ _ :: _, b, none, h1, _ => h1.elim
theorem endT_app : ∀ {a b : List Mv} {tl : Option Tool}, endT ts (a ++ b) tl = endT ts b (endT ts a tl)
  | [], b, tl => rfl
  | .tool x :: a, b, tl => endT_app (a := a)
  | .way k q :: a, b, tl => endT_app (a := a)
def EPl (W H : Nat) (ts : List Tool) (many : Int) (ms : List Mv) (tl : Option Tool) (p : P3) (o7 o8 o9 o10 : Option SV) : Env := [some (.val (.loc 1)), some (.val (.tup [.int W, .int H])), some (.val (.tup (ts.map toolD))), some (.val (.int many)), some (.own (ms.map mvD)), some (.val (oT tl)), some (.val (plD tl p)), o7, o8, o9, o10]
def bPlT : Sms := (.c (.asg (.nm 5) (.idx (.var 2) (.call 27 (.c (.var 0) (.c (.blt .len (.c (.var 2) .nil)) .nil))))) (.c (.app 4 (.tup (.c (.str "tool") (.c (.idx (.var 5) (.int 0)) .nil)))) (.c (.asg (.nm 6) (.tup (.c (.int 0) (.c (.int 0) (.c (.int 12) .nil))))) .nil)))
def bPlW : Sms := (.c (.par [8, 9] (.v (.call 27 (.c (.var 0) (.c (.bin .add (.bin .sub (.idx (.var 1) (.int 0)) (.idx (.var 5) (.int 1))) (.int 1)) .nil))) (.v (.call 27 (.c (.var 0) (.c (.bin .add (.bin .sub (.idx (.var 1) (.int 1)) (.idx (.var 5) (.int 1))) (.int 1)) .nil))) .nil))) (.c (.asg (.nm 10) (.idx (.fz (.dsp (.c (.idx (.var 6) (.int 2)) (.c (.call 27 (.c (.var 0) (.c (.int 13) .nil))) (.c (.int 12) (.c (.bin .add (.int 3) (.call 27 (.c (.var 0) (.c (.int 8) .nil)))) .nil)))))) (.call 27 (.c (.var 0) (.c (.int 4) .nil))))) (.c (.asg (.tp (.c (.nm 8) (.c (.nm 9) .nil))) (.ite (.cmp .eq (.call 27 (.c (.var 0) (.c (.int 3) .nil))) (.int 0)) (.tup (.c (.var 8) (.c (.idx (.var 6) (.int 1)) .nil))) (.ite (.cmp .eq (.call 27 (.c (.var 0) (.c (.int 3) .nil))) (.int 0)) (.tup (.c (.idx (.var 6) (.int 0)) (.c (.idx (.var 6) (.int 1)) .nil))) (.tup (.c (.var 8) (.c (.var 9) .nil)))))) (.c (.asg (.nm 6) (.tup (.c (.var 8) (.c (.var 9) (.c (.var 10) .nil))))) (.c (.app 4 (.tup (.c (.idx (.fz (.dsp (.c (.str "cut") (.c (.str "cut") (.c (.str "fast") .nil))))) (.call 27 (.c (.var 0) (.c (.int 3) .nil)))) (.c (.var 6) .nil)))) .nil)))))
def bPl : Sms := (.c (.ite (.bop false (.c (.cmp .is (.var 5) .non) (.c (.cmp .eq (.call 27 (.c (.var 0) (.c (.int 6) .nil))) (.int 0)) .nil))) bPlT bPlW) .nil)
theorem pl_tool {many : Int} {ms : List Mv} {tl : Option Tool} {p : P3} {o7 o8 o9 o10 : Option SV} (P : PT W H ts) (hne : 0 < ts.length) (hb : Bx s) (hz : ms.length ≤ 1000) (hn : 2 ≤ n) :
    ∃ t s', t ∈ ts ∧ execs (callF fs gs n) gs bPlT (EPl W H ts many ms tl p o7 o8 o9 o10) s = .ok (.nx (EPl W H ts many (ms ++ [.tool t.1]) (some t) (0, 0, 12) o7 o8 o9 o10)) s' ∧ Bx s' := by
  have hlen := P.T.len
  obtain ⟨d, s1, e1, hd, hb1⟩ := e_draw (n := n) (many := ts.length) hb (by omega) hn
  have ix : ts[d.toNat]? = some (ts[d.toNat]'(by omega)) := List.getElem?_eq_getElem (by omega)
  generalize ts[d.toNat]'(by omega) = t at ix
  have hm : t ∈ ts := List.mem_of_getElem? ix
  have i2 : idxD (.tup (ts.map toolD)) (.int d) = some (toolD t) := by
    have := idx_tup (xs := ts.map toolD) (k := d.toNat) (d := toolD t) (by rw [List.getElem?_map, ix]; rfl)
    rwa [show ((d.toNat : Nat) : Int) = d from by omega] at this
  have hz' : ms.length < LINE := by show _ < 16777216; omega
  refine ⟨t, s1, hm, ?_, hb1⟩
  simp [bPlT, EPl, e1, i2, hz', chg, borrows, isOwn, oT, plD, mvD]
  rfl
theorem pl_way {many : Int} {ms : List Mv} {t : Tool} {p : P3} {o7 o8 o9 o10 : Option SV} (P : PT W H ts) (ht : t ∈ ts) (hp : fit W H t.2.1 p) (hb : Bx s) (hz : ms.length ≤ 1000) (hn : 2 ≤ n) :
    ∃ k q p8 p9 p10 s', fit W H t.2.1 q ∧ execs (callF fs gs n) gs bPlW (EPl W H ts many ms (some t) p o7 o8 o9 o10) s = .ok (.nx (EPl W H ts many (ms ++ [.way k q]) (some t) q o7 p8 p9 p10)) s' ∧ Bx s' := by
  have T := P.T.ok t ht
  have L := P.lt t ht
  have hW := P.T.B.W
  have hH := P.T.B.H
  have hsd := T.sd
  have hfit := L.fit
  have hp' := hp
  unfold fit at hp'
  obtain ⟨x, s1, e1, h1, b1⟩ := e_draw (n := n) (many := W - t.2.1 + 1) hb (by omega) hn
  obtain ⟨y, s2, e2, h2, b2⟩ := e_draw (n := n) (many := H - t.2.1 + 1) b1 (by omega) hn
  obtain ⟨z1, s3, e3, h3, b3⟩ := e_draw (n := n) (many := 13) b2 (by omega) hn
  obtain ⟨z2, s4, e4, h4, b4⟩ := e_draw (n := n) (many := 8) b3 (by omega) hn
  obtain ⟨i, s5, e5, h5, b5⟩ := e_draw (n := n) (many := 4) b4 (by omega) hn
  obtain ⟨z, hz3, hz4⟩ : ∃ z, (0 ≤ z ∧ z ≤ 12) ∧ idxD (.lst [.int p.2.2, .int z1, .int 12, .int (3 + z2)]) (.int i) = some (.int z) := by
    rcases (by omega : i = 0 ∨ i = 1 ∨ i = 2 ∨ i = 3) with rfl | rfl | rfl | rfl
    · exact ⟨_, by omega, idx_tup (k := 0) rfl⟩
    · exact ⟨_, by omega, idx_tup (k := 1) rfl⟩
    · exact ⟨_, by omega, idx_tup (k := 2) rfl⟩
    · exact ⟨_, by omega, idx_tup (k := 3) rfl⟩
  have x1 : ∀ rest, execs (callF fs gs n) gs (.c (.par [8, 9] (.v (.call 27 (.c (.var 0) (.c (.bin .add (.bin .sub (.idx (.var 1) (.int 0)) (.idx (.var 5) (.int 1))) (.int 1)) .nil))) (.v (.call 27 (.c (.var 0) (.c (.bin .add (.bin .sub (.idx (.var 1) (.int 1)) (.idx (.var 5) (.int 1))) (.int 1)) .nil))) .nil))) (.c (.asg (.nm 10) (.idx (.fz (.dsp (.c (.idx (.var 6) (.int 2)) (.c (.call 27 (.c (.var 0) (.c (.int 13) .nil))) (.c (.int 12) (.c (.bin .add (.int 3) (.call 27 (.c (.var 0) (.c (.int 8) .nil)))) .nil)))))) (.call 27 (.c (.var 0) (.c (.int 4) .nil))))) rest)) (EPl W H ts many ms (some t) p o7 o8 o9 o10) s = execs (callF fs gs n) gs rest (EPl W H ts many ms (some t) p o7 (some (.val (.int x))) (some (.val (.int y))) (some (.val (.int z)))) s5 := fun rest => by
    simp [EPl, oT, plD, e1, e2, e3, e4, e5, hz4, borrows, isOwn]
  obtain ⟨X, Y, s6, hX, hY, e6, b6⟩ : ∃ X Y s6, (0 ≤ X ∧ X ≤ W - t.2.1) ∧ (0 ≤ Y ∧ Y ≤ H - t.2.1) ∧ (∀ rest, execs (callF fs gs n) gs (.c (.asg (.tp (.c (.nm 8) (.c (.nm 9) .nil))) (.ite (.cmp .eq (.call 27 (.c (.var 0) (.c (.int 3) .nil))) (.int 0)) (.tup (.c (.var 8) (.c (.idx (.var 6) (.int 1)) .nil))) (.ite (.cmp .eq (.call 27 (.c (.var 0) (.c (.int 3) .nil))) (.int 0)) (.tup (.c (.idx (.var 6) (.int 0)) (.c (.idx (.var 6) (.int 1)) .nil))) (.tup (.c (.var 8) (.c (.var 9) .nil)))))) rest) (EPl W H ts many ms (some t) p o7 (some (.val (.int x))) (some (.val (.int y))) (some (.val (.int z)))) s5 = execs (callF fs gs n) gs rest (EPl W H ts many ms (some t) p o7 (some (.val (.int X))) (some (.val (.int Y))) (some (.val (.int z)))) s6) ∧ Bx s6 := by
    obtain ⟨r, s6, e6, h6, b6⟩ := e_draw (n := n) (many := 3) b5 (by omega) hn
    by_cases c : r = 0
    · refine ⟨x, p.2.1, s6, by omega, by omega, fun rest => ?_, b6⟩
      simp [EPl, oT, plD, e6, c, borrows, isOwn]
    · obtain ⟨r2, s7, e7, h7, b7⟩ := e_draw (n := n) (many := 3) b6 (by omega) hn
      by_cases c2 : r2 = 0
      · refine ⟨p.1, p.2.1, s7, by omega, by omega, fun rest => ?_, b7⟩
        simp [EPl, oT, plD, e6, e7, c, c2, borrows, isOwn]
      · refine ⟨x, y, s7, by omega, by omega, fun rest => ?_, b7⟩
        simp [EPl, oT, plD, e6, e7, c, c2, borrows, isOwn]
  obtain ⟨r, s8, e8, h8, b8⟩ := e_draw (n := n) (many := 3) b6 (by omega) hn
  obtain ⟨k, hk⟩ : ∃ k, idxD (.lst [.str "cut", .str "cut", .str "fast"]) (.int r) = some (kindD k) := by
    rcases (by omega : r = 0 ∨ r = 1 ∨ r = 2) with rfl | rfl | rfl
    · exact ⟨false, idx_tup (k := 0) rfl⟩
    · exact ⟨false, idx_tup (k := 1) rfl⟩
    · exact ⟨true, idx_tup (k := 2) rfl⟩
  have hz' : ms.length < LINE := by show _ < 16777216; omega
  refine ⟨k, (X, Y, z), some (.val (.int X)), some (.val (.int Y)), some (.val (.int z)), s8, ⟨hX, hY, hz3⟩, ?_, b8⟩
  unfold bPlW
  rw [x1, e6]
  simp [EPl, oT, plD, e8, hk, hz', chg, borrows, isOwn, mvD, p3D, ptD]
theorem pl_loop {many : Int} (P : PT W H ts) (hne : 0 < ts.length) (hn : 2 ≤ n) : ∀ {js : List Int} {ms : List Mv} {tl : Option Tool} {p : P3} {o7 o8 o9 o10 : Option SV} {s : Sto}, Bx s → ms.length + js.length ≤ 1000 → POk W H ts ms none → endT ts ms none = tl → Nw W H ts tl p →
    ∃ ms' tl' p' q7 q8 q9 q10 s', forF (stepF (callF fs gs n) gs (.nm 7) bPl) (js.map D.int) (EPl W H ts many ms tl p o7 o8 o9 o10) s = .ok (.nx (EPl W H ts many ms' tl' p' q7 q8 q9 q10)) s' ∧ Bx s' ∧ POk W H ts ms' none ∧ ms'.length = ms.length + js.length
  | [], ms, tl, p, o7, o8, o9, o10, s, hb, hz, h1, h2, h3 => ⟨ms, tl, p, o7, o8, o9, o10, s, rfl, hb, h1, rfl⟩
  | j :: js, ms, tl, p, o7, o8, o9, o10, s, hb, hz, h1, h2, h3 => by
    rw [List.length_cons] at hz
    have eb : ∀ s, stepF (callF fs gs n) gs (.nm 7) bPl (.int j) (EPl W H ts many ms tl p o7 o8 o9 o10) s = execs (callF fs gs n) gs bPl (EPl W H ts many ms tl p (some (.val (.int j))) o8 o9 o10) s := fun _ => rfl
    have tool : ∀ s, Bx s → ∃ t s', t ∈ ts ∧ execs (callF fs gs n) gs bPlT (EPl W H ts many ms tl p (some (.val (.int j))) o8 o9 o10) s = .ok (.nx (EPl W H ts many (ms ++ [.tool t.1]) (some t) (0, 0, 12) (some (.val (.int j))) o8 o9 o10)) s' ∧ Bx s' := fun s hb => pl_tool P hne hb (by omega) hn
    have fin : ∀ {s0 s1 : Sto} {t : Tool}, t ∈ ts → Bx s1 → stepF (callF fs gs n) gs (.nm 7) bPl (.int j) (EPl W H ts many ms tl p o7 o8 o9 o10) s = .ok (.nx (EPl W H ts many (ms ++ [.tool t.1]) (some t) (0, 0, 12) (some (.val (.int j))) o8 o9 o10)) s1 → ∃ ms' tl' p' q7 q8 q9 q10 s', forF (stepF (callF fs gs n) gs (.nm 7) bPl) ((j :: js).map D.int) (EPl W H ts many ms tl p o7 o8 o9 o10) s = .ok (.nx (EPl W H ts many ms' tl' p' q7 q8 q9 q10)) s' ∧ Bx s' ∧ POk W H ts ms' none ∧ ms'.length = ms.length + (j :: js).length := fun {s0 s1 t} ht b1 e => by
      have hf := P.T.find t ht
      obtain ⟨ms', tl', p', q7, q8, q9, q10, s', e2, b2, i1, i2⟩ := pl_loop P hne hn (js := js) (ms := ms ++ [.tool t.1]) (tl := some t) (p := (0, 0, 12)) (o7 := some (.val (.int j))) (o8 := o8) (o9 := o9) (o10 := o10) (s := s1) b1 (by rw [List.length_append]; simp; omega) (h1.app (b := [.tool t.1]) ⟨⟨t, ht, rfl⟩, trivial⟩) (by rw [endT_app]; exact hf) (Nw.home P ht)
      exact ⟨ms', tl', p', q7, q8, q9, q10, s', by rw [List.map_cons, forF_cons, e, nextL_nx, e2], b2, i1, by rw [i2, List.length_append]; simp; omega⟩
    cases tl with
    | none =>
      obtain ⟨t, s1, ht, e, b1⟩ := tool s hb
      refine fin (s0 := s) ht b1 ?_
      rw [eb]
      unfold bPl
      rw [execs_c, exec_ite]
      have ec : ev (callF fs gs n) gs true (.bop false (.c (.cmp .is (.var 5) .non) (.c (.cmp .eq (.call 27 (.c (.var 0) (.c (.int 6) .nil))) (.int 0)) .nil))) (EPl W H ts many ms none p (some (.val (.int j))) o8 o9 o10) s = .ok (.bl true) s := by simp [EPl, oT]
      rw [ec, ok_bind, truthS_bl, ok_bind, if_pos rfl, e, nextF_nx, execs_nil]
    | some t0 =>
      obtain ⟨n1, n2⟩ := h3 t0 rfl
      obtain ⟨r, s1, e1, hr, b1⟩ := e_draw (n := n) (many := 6) hb (by omega) hn
      have ec : ev (callF fs gs n) gs true (.bop false (.c (.cmp .is (.var 5) .non) (.c (.cmp .eq (.call 27 (.c (.var 0) (.c (.int 6) .nil))) (.int 0)) .nil))) (EPl W H ts many ms (some t0) p (some (.val (.int j))) o8 o9 o10) s = .ok (.bl (decide (r = 0))) s1 := by simp [EPl, oT, e1, borrows, isOwn]
      by_cases c : r = 0
      · obtain ⟨t, s2, ht, e, b2⟩ := tool s1 b1
        refine fin (s0 := s) ht b2 ?_
        rw [eb]
        unfold bPl
        rw [execs_c, exec_ite, ec, ok_bind, truthS_bl, ok_bind, if_pos (decide_eq_true c), e, nextF_nx, execs_nil]
      · obtain ⟨k, q, p8, p9, p10, s2, hq, e, b2⟩ := pl_way (n := n) (s := s1) (many := many) (ms := ms) (o7 := some (.val (.int j))) (o8 := o8) (o9 := o9) (o10 := o10) P n1 n2 b1 (by omega) hn
        have e3 : stepF (callF fs gs n) gs (.nm 7) bPl (.int j) (EPl W H ts many ms (some t0) p o7 o8 o9 o10) s = .ok (.nx (EPl W H ts many (ms ++ [.way k q]) (some t0) q (some (.val (.int j))) p8 p9 p10)) s2 := by
          rw [eb]
          unfold bPl
          rw [execs_c, exec_ite, ec, ok_bind, truthS_bl, ok_bind, if_neg (by simpa using c), e, nextF_nx, execs_nil]
        obtain ⟨ms', tl', p', q7, q8, q9, q10, s', e4, b4, i1, i2⟩ := pl_loop P hne hn (js := js) (ms := ms ++ [.way k q]) (tl := some t0) (p := q) (o7 := some (.val (.int j))) (o8 := p8) (o9 := p9) (o10 := p10) (s := s2) b2 (by rw [List.length_append]; simp; omega) (h1.app (by rw [h2]; exact ⟨hq, trivial⟩)) (by rw [endT_app, h2]; rfl) (fun u e => by cases e; exact ⟨n1, hq⟩)
        exact ⟨ms', tl', p', q7, q8, q9, q10, s', by rw [List.map_cons, forF_cons, e3, nextL_nx, e4], b4, i1, by rw [i2, List.length_append]; simp; omega⟩
theorem e_lplan {many : Int} (P : PT W H ts) (hne : 0 < ts.length) (hb : Bx s) (hm : 0 ≤ many ∧ many ≤ 500) (hn : 3 ≤ n) :
    ∃ ms s', callF fs gs n 40 [.loc 1, .tup [.int W, .int H], .tup (ts.map toolD), .int many] s = .ok (.tup (ms.map mvD)) s' ∧ Bx s' ∧ POk W H ts ms none ∧ (ms.length : Int) = many := by
  obtain ⟨k, rfl, hk⟩ := sc hn
  rw [call_at (f := c__law_plan) rfl rfl]
  obtain ⟨ms, tl, p, q7, q8, q9, q10, s', e, b, i1, i2⟩ := pl_loop (n := k) (many := many) P hne hk (js := ir 0 many) (ms := []) (tl := none) (p := (0, 0, 12)) (o7 := none) (o8 := none) (o9 := none) (o10 := none) hb (by rw [ir_len]; simp; omega) trivial rfl Nw.none
  refine ⟨ms, s', ?_, b, i1, by rw [i2, ir_len]; simp; omega⟩
  have es : startE c__law_plan.N.length [.loc 1, .tup [.int W, .int H], .tup (ts.map toolD), .int many] = [some (SV.val (.loc 1)), some (.val (.tup [.int W, .int H])), some (.val (.tup (ts.map toolD))), some (.val (.int many)), none, none, none, none, none, none, none] := rfl
  have eb : c__law_plan.body = .c (.par [4, 5, 6] (.o (.dsp .nil) (.v .non (.v .non .nil)))) (.c (.for (.nm 7) (.rg1 (.var 3)) bPl) (.c (.ret (.blt .tup (.c (.var 4) .nil))) .nil)) := rfl
  have x1 : ∀ rest, execs (callF fs gs k) gs (.c (.par [4, 5, 6] (.o (.dsp .nil) (.v .non (.v .non .nil)))) rest) [some (SV.val (.loc 1)), some (.val (.tup [.int W, .int H])), some (.val (.tup (ts.map toolD))), some (.val (.int many)), none, none, none, none, none, none, none] s = execs (callF fs gs k) gs rest (EPl W H ts many [] none (0, 0, 12) none none none none) s := fun rest => by
    simp [EPl, oT, plD]
  have r := rng1_ir (j := many) (by omega)
  have e3 : evI (callF fs gs k) gs false (.rg1 (.var 3)) (EPl W H ts many [] none (0, 0, 12) none none none none) s = .ok ((ir 0 many).map D.int) s := by
    simp [EPl, r]
  have e4 : frzI (EPl W H ts many [] none (0, 0, 12) none none none none) (.rg1 (.var 3)) = EPl W H ts many [] none (0, 0, 12) none none none none := rfl
  rw [eb, es, x1, execs_c, exec_for, e4, e3, ok_bind, e, nextF_nx]
  simp [EPl, frzR]
end
end PV.K81
set_option maxRecDepth 100000
set_option maxHeartbeats 4000000
namespace PV.K81
open PySem PV
section
variable {n : Nat} {s : Sto} {W H : Nat} {f g h m d : F2} {t : Tool} {ts : List Tool}
/-! ### plans bent -/
def MvW (ts : List Tool) : Mv → Prop
  | .tool x => ∃ t, t ∈ ts ∧ t.1 = x
  | .way _ q => 0 ≤ q.1 ∧ 0 ≤ q.2.1 ∧ 0 ≤ q.2.2 ∧ q.2.2 ≤ 12
def WOk (ts : List Tool) (ms : List Mv) : Prop := ∀ mv ∈ ms, MvW ts mv
theorem POk.wok : ∀ {ms : List Mv} {tl : Option Tool}, POk W H ts ms tl → WOk ts ms
  | [], tl, _ => fun mv h => by cases h
  | .tool x :: r, tl, h => fun mv hm => by
    rcases List.mem_cons.mp hm with rfl | hm
    · exact h.1
    · exact POk.wok h.2 mv hm
  | .way k q :: r, some t, h => fun mv hm => by
    rcases List.mem_cons.mp hm with rfl | hm
    · have := h.1
      unfold fit at this
      exact ⟨this.1.1, this.2.1.1, this.2.2.1, this.2.2.2⟩
    · exact POk.wok h.2 mv hm
  | .way _ _ :: _, none, h => h.elim
theorem WOk.cut {ms : List Mv} {a b : Option Int} (h : WOk ts ms) : WOk ts (cut ms a b) := fun mv hm => h mv (cut_mem hm)
theorem WOk.app {a b : List Mv} (h : WOk ts a) (h2 : WOk ts b) : WOk ts (a ++ b) := fun mv hm => (List.mem_append.mp hm).elim (h mv) (h2 mv)
theorem WOk.nm (P : PT W H ts) {ms : List Mv} (h : WOk ts ms) : ∀ x, Mv.tool x ∈ ms → NmP x := fun x hx => by
  obtain ⟨t, h1, h2⟩ := h _ hx
  rw [← h2]; exact P.T.nm t h1
theorem slc_mv {ms : List Mv} {a b : Option Int} : slcD (.tup (ms.map mvD)) a b = some (.tup ((PV.cut ms a b).map mvD)) := by
  show some (D.tup (PV.cut _ a b)) = _
  rw [cut_map]
theorem idx_mv {ms : List Mv} {k : Int} (h : 0 ≤ k ∧ k < ms.length) : ∃ mv, mv ∈ ms ∧ idxD (.tup (ms.map mvD)) (.int k) = some (mvD mv) := by
  have ix : ms[k.toNat]? = some (ms[k.toNat]'(by omega)) := List.getElem?_eq_getElem (by omega)
  generalize ms[k.toNat]'(by omega) = mv at ix
  refine ⟨mv, List.mem_of_getElem? ix, ?_⟩
  have := idx_tup (xs := ms.map mvD) (k := k.toNat) (d := mvD mv) (by rw [List.getElem?_map, ix]; rfl)
  rwa [show ((k.toNat : Nat) : Int) = k from by omega] at this
def isTl : Mv → Bool
  | .tool _ => true
  | .way _ _ => false
theorem mv_kind {mv : Mv} : ∃ kd, idxD (mvD mv) (.int 0) = some kd ∧ cmpD .ne kd (.str "tool") = some (!isTl mv) ∧ cmpD .eq kd (.str "tool") = some (isTl mv) ∧ ∀ s : Sto, deref s kd = kd := by
  cases mv with
  | tool x => exact ⟨.str "tool", idx_0, neD_eq tool_tool, tool_tool, fun _ => rfl⟩
  | way k q => exact ⟨kindD k, idx_0, neD_eq kind_tool, kind_tool, fun _ => deref_kind⟩
@[simp] theorem deref_mv {mv : Mv} : deref s (mvD mv) = mvD mv := by cases mv <;> rfl
theorem cat_mv {a b : List Mv} (h : a.length + b.length ≤ 1000000) : binD .add (.tup (a.map mvD)) (.tup (b.map mvD)) = some (.tup ((a ++ b).map mvD)) := by
  rw [bin_addT, if_pos (by rw [List.length_map, List.length_map]; show _ ≤ 16777216; omega), List.map_append]
theorem e_lbent {ms : List Mv} (P : PT W H ts) (hne : 0 < ts.length) (hb : Bx s) (hw : WOk ts ms) (hz : ms.length ≤ 1000) (hn : 4 ≤ n) :
    ∃ ns s', callF fs gs n 44 [.loc 1, .tup [.int W, .int H], .tup (ts.map toolD), .tup (ms.map mvD)] s = .ok (.tup (ns.map mvD)) s' ∧ Bx s' ∧ WOk ts ns ∧ ns.length ≤ 2 * ms.length + 3 := by
  obtain ⟨m, rfl, hm⟩ := sc hn
  rw [call_at (f := c__law_bent) rfl rfl]
  obtain ⟨k, s1, e1, h1, b1⟩ := e_draw (n := m) (many := (ms.length : Int) + 1) hb (by omega) (by omega)
  obtain ⟨q, s2, e2, h2, b2⟩ := e_draw (n := m) (many := 4) b1 (by omega) (by omega)
  have x1 : ∀ rest, execs (callF fs gs m) gs (.c (.par [4, 5] (.v (.call 27 (.c (.var 0) (.c (.bin .add (.blt .len (.c (.var 3) .nil)) (.int 1)) .nil))) (.v (.call 27 (.c (.var 0) (.c (.int 4) .nil))) .nil))) rest) [some (SV.val (.loc 1)), some (.val (.tup [.int W, .int H])), some (.val (.tup (ts.map toolD))), some (.val (.tup (ms.map mvD))), none, none] s = execs (callF fs gs m) gs rest [some (SV.val (.loc 1)), some (.val (.tup [.int W, .int H])), some (.val (.tup (ts.map toolD))), some (.val (.tup (ms.map mvD))), some (.val (.int k)), some (.val (.int q))] s2 := fun rest => by
    simp [e1, e2, borrows, isOwn]
  have es : startE c__law_bent.N.length [.loc 1, .tup [.int W, .int H], .tup (ts.map toolD), .tup (ms.map mvD)] = [some (SV.val (.loc 1)), some (.val (.tup [.int W, .int H])), some (.val (.tup (ts.map toolD))), some (.val (.tup (ms.map mvD))), none, none] := rfl
  rw [es]
  have cl := fun a b => cut_len (l := ms) (a := a) (b := b)
  by_cases c0 : q = 0
  · by_cases ck : 0 < k
    · refine ⟨PV.cut ms none (some k) ++ PV.cut ms (some (k + 1)) none, s2, ?_, b2, hw.cut.app hw.cut, by
        have := cl none (some k); have := cl (some (k + 1)) none
        rw [List.length_append]; omega⟩
      have ca := cat_mv (a := PV.cut ms none (some k)) (b := PV.cut ms (some (k + 1)) none) (by have := cl none (some k); have := cl (some (k + 1)) none; omega)
      unfold c__law_bent
      rw [x1]
      simp [c0, ck, slc_mv, ca, frzR, -bin_addT]
    · refine ⟨ms, s2, ?_, b2, hw, by omega⟩
      unfold c__law_bent
      rw [x1]
      simp [c0, ck, frzR]
  · have x2 : ∀ a rest, execs (callF fs gs m) gs (.c (.ite (.cmp .eq (.var 5) (.int 0)) a .nil) rest) [some (SV.val (.loc 1)), some (.val (.tup [.int W, .int H])), some (.val (.tup (ts.map toolD))), some (.val (.tup (ms.map mvD))), some (.val (.int k)), some (.val (.int q))] s2 = execs (callF fs gs m) gs rest [some (SV.val (.loc 1)), some (.val (.tup [.int W, .int H])), some (.val (.tup (ts.map toolD))), some (.val (.tup (ms.map mvD))), some (.val (.int k)), some (.val (.int q))] s2 := fun a rest => by
      simp [c0]
    have last : ∃ ns s', retOf (execs (callF fs gs m) gs (.c (.ret (.bin .add (.var 3) (.call 40 (.c (.var 0) (.c (.var 1) (.c (.var 2) (.c (.int 3) .nil))))))) .nil) [some (SV.val (.loc 1)), some (.val (.tup [.int W, .int H])), some (.val (.tup (ts.map toolD))), some (.val (.tup (ms.map mvD))), some (.val (.int k)), some (.val (.int q))] s2) = .ok (.tup (ns.map mvD)) s' ∧ Bx s' ∧ WOk ts ns ∧ ns.length ≤ 2 * ms.length + 3 := by
      obtain ⟨ls, s3, e3, b3, l1, l2⟩ := e_lplan (n := m) (many := 3) P hne b2 (by omega) hm
      refine ⟨ms ++ ls, s3, ?_, b3, hw.app l1.wok, by rw [List.length_append]; omega⟩
      have ca := cat_mv (a := ms) (b := ls) (by omega)
      simp [e3, ca, frzR, borrows, isOwn, -bin_addT]
    by_cases c1 : q = 1 ∧ 0 < k
    · obtain ⟨mv, hmv, ix⟩ := idx_mv (ms := ms) (k := k - 1) (by omega)
      obtain ⟨kd, k1, k2, k3, k4⟩ := mv_kind (mv := mv)
      have ec : ev (callF fs gs m) gs true (.bop true (.c (.cmp .eq (.var 5) (.int 1)) (.c (.cmp .gt (.var 4) (.int 0)) (.c (.cmp .ne (.idx (.idx (.var 3) (.bin .sub (.var 4) (.int 1))) (.int 0)) (.str "tool")) .nil)))) [some (SV.val (.loc 1)), some (.val (.tup [.int W, .int H])), some (.val (.tup (ts.map toolD))), some (.val (.tup (ms.map mvD))), some (.val (.int k)), some (.val (.int q))] s2 = .ok (.bl (!isTl mv)) s2 := by
        simp [c1.1, c1.2, ix, k1, k2, k4]
      unfold c__law_bent
      rw [x1, x2, execs_c, exec_ite, ec, ok_bind, truthS_bl, ok_bind]
      cases ht : isTl mv with
      | false =>
        refine ⟨PV.cut ms none (some k) ++ PV.cut ms (some (k - 1)) none, s2, ?_, b2, hw.cut.app hw.cut, by
          have := cl none (some k); have := cl (some (k - 1)) none
          rw [List.length_append]; omega⟩
        have ca := cat_mv (a := PV.cut ms none (some k)) (b := PV.cut ms (some (k - 1)) none) (by have := cl none (some k); have := cl (some (k - 1)) none; omega)
        simp [slc_mv, ca, frzR, -bin_addT]
      | true =>
        rw [if_neg (by simp), execs_nil, nextF_nx]
        have c2 : ¬ q = 2 := by omega
        have x4 : ∀ a rest, execs (callF fs gs m) gs (.c (.ite (.bop true (.c (.cmp .eq (.var 5) (.int 2)) a)) rest .nil) (.c (.ret (.bin .add (.var 3) (.call 40 (.c (.var 0) (.c (.var 1) (.c (.var 2) (.c (.int 3) .nil))))))) .nil)) [some (SV.val (.loc 1)), some (.val (.tup [.int W, .int H])), some (.val (.tup (ts.map toolD))), some (.val (.tup (ms.map mvD))), some (.val (.int k)), some (.val (.int q))] s2 = execs (callF fs gs m) gs (.c (.ret (.bin .add (.var 3) (.call 40 (.c (.var 0) (.c (.var 1) (.c (.var 2) (.c (.int 3) .nil))))))) .nil) [some (SV.val (.loc 1)), some (.val (.tup [.int W, .int H])), some (.val (.tup (ts.map toolD))), some (.val (.tup (ms.map mvD))), some (.val (.int k)), some (.val (.int q))] s2 := fun a rest => by
          cases a <;> simp [c2]
        rw [x4]
        exact last
    · have ec : ev (callF fs gs m) gs true (.bop true (.c (.cmp .eq (.var 5) (.int 1)) (.c (.cmp .gt (.var 4) (.int 0)) (.c (.cmp .ne (.idx (.idx (.var 3) (.bin .sub (.var 4) (.int 1))) (.int 0)) (.str "tool")) .nil)))) [some (SV.val (.loc 1)), some (.val (.tup [.int W, .int H])), some (.val (.tup (ts.map toolD))), some (.val (.tup (ms.map mvD))), some (.val (.int k)), some (.val (.int q))] s2 = .ok (.bl false) s2 := by
        by_cases c2 : q = 1
        · have c3 : ¬ 0 < k := fun z => c1 ⟨c2, z⟩
          simp [c2, c3]
        · simp [c2]
      unfold c__law_bent
      rw [x1, x2, execs_c, exec_ite, ec, ok_bind, truthS_bl, ok_bind, if_neg (by simp), execs_nil, nextF_nx]
      by_cases c2 : q = 2 ∧ 0 < k ∧ k < ms.length
      · obtain ⟨mv, hmv, ix⟩ := idx_mv (ms := ms) (k := k) (by omega)
        obtain ⟨kd, k1, k2, k3, k4⟩ := mv_kind (mv := mv)
        have ec2 : ev (callF fs gs m) gs true (.bop true (.c (.cmp .eq (.var 5) (.int 2)) (.c (.chn .lt .lt (.int 0) (.var 4) (.blt .len (.c (.var 3) .nil))) (.c (.cmp .ne (.idx (.idx (.var 3) (.var 4)) (.int 0)) (.str "tool")) .nil)))) [some (SV.val (.loc 1)), some (.val (.tup [.int W, .int H])), some (.val (.tup (ts.map toolD))), some (.val (.tup (ms.map mvD))), some (.val (.int k)), some (.val (.int q))] s2 = .ok (.bl (!isTl mv)) s2 := by
          simp [c2.1, c2.2.1, c2.2.2, ix, k1, k2, k4]
        rw [execs_c, exec_ite, ec2, ok_bind, truthS_bl, ok_bind]
        cases mv with
        | tool x =>
          rw [if_neg (by simp [isTl]), execs_nil, nextF_nx]
          exact last
        | way kk p =>
          rw [if_pos (by simp [isTl])]
          obtain ⟨r, s3, e3, h3, b3⟩ := e_draw (n := m) (many := 2) b2 (by omega) (by omega)
          obtain ⟨k', hk'⟩ : ∃ k', idxD (.lst [.str "fast", .str "cut"]) (.int r) = some (kindD k') := by
            rcases (by omega : r = 0 ∨ r = 1) with rfl | rfl
            · exact ⟨true, idx_tup (k := 0) rfl⟩
            · exact ⟨false, idx_tup (k := 1) rfl⟩
          have hp : WOk ts [.way k' p] := fun mv hm => by
            rw [List.mem_singleton] at hm
            subst hm
            have z : MvW ts (.way kk p) := hw _ hmv
            exact z
          refine ⟨(PV.cut ms none (some k) ++ [.way k' p]) ++ PV.cut ms (some (k + 1)) none, s3, ?_, b3, (hw.cut.app hp).app hw.cut, by
            have := cl none (some k); have := cl (some (k + 1)) none
            rw [List.length_append, List.length_append]; simp; omega⟩
          have ca := cat_mv (a := PV.cut ms none (some k)) (b := [.way k' p]) (by have := cl none (some k); simp; omega)
          have cb := cat_mv (a := PV.cut ms none (some k) ++ [.way k' p]) (b := PV.cut ms (some (k + 1)) none) (by have := cl none (some k); have := cl (some (k + 1)) none; simp; omega)
          have ix2 : idxD (mvD (.way kk p)) (.int 1) = some (p3D p) := idx_1
          have one : D.tup [D.tup [kindD k', p3D p]] = .tup ([Mv.way k' p].map mvD) := rfl
          generalize PV.cut ms none (some k) ++ [.way k' p] = Q at *
          simp [slc_mv, e3, hk', ix, ix2, one, ca, cb, frzR, borrows, isOwn, -bin_addT, -List.map_cons, -List.map_nil]
      · have ec2 : ev (callF fs gs m) gs true (.bop true (.c (.cmp .eq (.var 5) (.int 2)) (.c (.chn .lt .lt (.int 0) (.var 4) (.blt .len (.c (.var 3) .nil))) (.c (.cmp .ne (.idx (.idx (.var 3) (.var 4)) (.int 0)) (.str "tool")) .nil)))) [some (SV.val (.loc 1)), some (.val (.tup [.int W, .int H])), some (.val (.tup (ts.map toolD))), some (.val (.tup (ms.map mvD))), some (.val (.int k)), some (.val (.int q))] s2 = .ok (.bl false) s2 := by
          by_cases d1 : q = 2
          · by_cases d2 : 0 < k
            · have d3 : ¬ k < ms.length := fun z => c2 ⟨d1, d2, z⟩
              simp [d1, d2, d3]
            · simp [d1, d2]
          · simp [d1]
        rw [execs_c, exec_ite, ec2, ok_bind, truthS_bl, ok_bind, if_neg (by simp), execs_nil, nextF_nx]
        exact last
/-! ### plans that fit -/
def EFt (W H : Nat) (ts : List Tool) (M : D) (tl : Option Tool) (o4 o5 : Option SV) : Env := [some (.val (.tup [.int W, .int H])), some (.val (.tup (ts.map toolD))), some (.val M), some (.val (oT tl)), o4, o5, none]
def bFt : Sms := (.c (.ite (.cmp .eq (.var 4) (.str "tool")) (.c (.asg (.nm 3) (.idx (.fz (.cp1 (.var 6) (.nm 6) (.seq (.var 1)) (.s (.cmp .eq (.idx (.var 6) (.int 0)) (.var 5))) [6])) (.int 0))) .nil) (.c (.ite (.bop false (.c (.cmp .is (.var 3) .non) (.c (.cmp .gt (.bin .add (.idx (.var 5) (.int 0)) (.idx (.var 3) (.int 1))) (.idx (.var 0) (.int 0))) (.c (.cmp .gt (.bin .add (.idx (.var 5) (.int 1)) (.idx (.var 3) (.int 1))) (.idx (.var 0) (.int 1))) .nil)))) (.c (.ret (.bl false)) .nil) .nil) .nil)) .nil)
theorem e_one6 {x : Str} {M a3 a4 : D} (hx : NmP x) (hnm : ∀ t ∈ ts, NmP t.1) (hl : ts.length ≤ 3) : evF (callF fs gs n) gs (.cp1 (.var 6) (.nm 6) (.seq (.var 1)) (.s (.cmp .eq (.idx (.var 6) (.int 0)) (.var 5))) [6]) [some (SV.val (.tup [.int W, .int H])), some (.val (.tup (ts.map toolD))), some (.val M), some (.val a3), some (.val a4), some (.val (.str x)), none] s = .ok ((ts.filter fun t => t.1 = x).map toolD) s := by
  have hf : ts.flatMap (fun t => if t.1 = x then [toolD t] else []) = (ts.filter fun t => t.1 = x).map toolD := by
    clear hl hnm
    induction ts with
    | nil => rfl
    | cons t ts ih => by_cases h : t.1 = x <;> simp [h, ih]
  rw [← hf]
  refine cp1_pure (xs := ts) (mk := toolD) (by simp [items?]) (fun t h => ?_) (by
    rw [hf, List.length_map]
    exact Nat.le_trans (List.length_filter_le _ _) (by show _ ≤ 16777216; omega))
  have e2 := eq_str (hnm t h) hx
  by_cases c : t.1 = x
  · rw [c] at e2
    simp [turn1, wipeE, noOwn, e2, c]
  · simp [turn1, wipeE, noOwn, e2, c]
theorem ft_loop {M : D} (P : PT W H ts) : ∀ {ms : List Mv} {tl : Option Tool} {o4 o5 : Option SV}, WOk ts ms → (∀ t, tl = some t → t ∈ ts) →
    (∃ tl' q4 q5, forF (stepF (callF fs gs n) gs (.tp (.c (.nm 4) (.c (.nm 5) .nil))) bFt) (ms.map mvD) (EFt W H ts M tl o4 o5) s = .ok (.nx (EFt W H ts M tl' q4 q5)) s ∧ POk W H ts ms tl) ∨
    forF (stepF (callF fs gs n) gs (.tp (.c (.nm 4) (.c (.nm 5) .nil))) bFt) (ms.map mvD) (EFt W H ts M tl o4 o5) s = .ok (.ret (.bl false)) s
  | [], tl, o4, o5, _, _ => .inl ⟨tl, o4, o5, rfl, trivial⟩
  | .tool x :: r, tl, o4, o5, hw, hN => by
    obtain ⟨t, a1, a2, a3⟩ := P.take (hw _ List.mem_cons_self)
    have hx : NmP x := by rw [← a2]; exact P.T.nm t a1
    have e1 := e_one6 (n := n) (s := s) (W := W) (H := H) (ts := ts) (x := x) (M := M) (a3 := oT tl) (a4 := .str "tool") hx P.T.nm P.T.len
    have hh := a3
    rw [filt_head] at hh
    have e2 : stepF (callF fs gs n) gs (.tp (.c (.nm 4) (.c (.nm 5) .nil))) bFt (mvD (.tool x)) (EFt W H ts M tl o4 o5) s = .ok (.nx (EFt W H ts M (some t) (some (.val (.str "tool"))) (some (.val (.str x))))) s := by
      generalize (ts.filter fun u => u.1 = x) = FL at *
      cases FL with
      | nil => cases hh
      | cons u q =>
        cases hh
        unfold stepF
        simp [bFt, EFt, mvD, tool_tool, e1]
        rfl
    rcases ft_loop (M := M) P (ms := r) (tl := some t) (o4 := some (.val (.str "tool"))) (o5 := some (.val (.str x))) (fun mv hm => hw mv (List.mem_cons_of_mem _ hm)) (fun u e => by cases e; exact a1) with ⟨tl', q4, q5, e3, h3⟩ | e3
    · exact .inl ⟨tl', q4, q5, by rw [List.map_cons, forF_cons, e2, nextL_nx, e3], ⟨⟨t, a1, a2⟩, by rw [a3]; exact h3⟩⟩
    · exact .inr (by rw [List.map_cons, forF_cons, e2, nextL_nx, e3])
  | .way k q :: r, none, o4, o5, hw, hN => by
    refine .inr ?_
    have e2 : stepF (callF fs gs n) gs (.tp (.c (.nm 4) (.c (.nm 5) .nil))) bFt (mvD (.way k q)) (EFt W H ts M none o4 o5) s = .ok (.ret (.bl false)) s := by
      unfold stepF
      simp [bFt, EFt, mvD, kind_tool, oT, frzR]
    rw [List.map_cons, forF_cons, e2, nextL_ret]
  | .way k q :: r, some t, o4, o5, hw, hN => by
    have ht := hN t rfl
    have hq : 0 ≤ q.1 ∧ 0 ≤ q.2.1 ∧ 0 ≤ q.2.2 ∧ q.2.2 ≤ 12 := hw _ List.mem_cons_self
    by_cases c : q.1 + t.2.1 ≤ W ∧ q.2.1 + t.2.1 ≤ H
    · have n1 : ¬ (W : Int) < q.1 + t.2.1 := by omega
      have n2 : ¬ (H : Int) < q.2.1 + t.2.1 := by omega
      have e2 : stepF (callF fs gs n) gs (.tp (.c (.nm 4) (.c (.nm 5) .nil))) bFt (mvD (.way k q)) (EFt W H ts M (some t) o4 o5) s = .ok (.nx (EFt W H ts M (some t) (some (.val (kindD k))) (some (.val (p3D q))))) s := by
        unfold stepF
        simp [bFt, EFt, mvD, kind_tool, oT, n1, n2]
      rcases ft_loop (M := M) P (ms := r) (tl := some t) (o4 := some (.val (kindD k))) (o5 := some (.val (p3D q))) (fun mv hm => hw mv (List.mem_cons_of_mem _ hm)) hN with ⟨tl', q4, q5, e3, h3⟩ | e3
      · refine .inl ⟨tl', q4, q5, by rw [List.map_cons, forF_cons, e2, nextL_nx, e3], ⟨?_, h3⟩⟩
        unfold fit
        omega
      · exact .inr (by rw [List.map_cons, forF_cons, e2, nextL_nx, e3])
    · refine .inr ?_
      have e2 : stepF (callF fs gs n) gs (.tp (.c (.nm 4) (.c (.nm 5) .nil))) bFt (mvD (.way k q)) (EFt W H ts M (some t) o4 o5) s = .ok (.ret (.bl false)) s := by
        unfold stepF
        by_cases n1 : (W : Int) < q.1 + t.2.1
        · simp [bFt, EFt, mvD, kind_tool, oT, n1, frzR]
        · have n2 : (H : Int) < q.2.1 + t.2.1 := by omega
          simp [bFt, EFt, mvD, kind_tool, oT, n1, n2, frzR]
      rw [List.map_cons, forF_cons, e2, nextL_ret]
theorem e_lfits {ms : List Mv} (P : PT W H ts) (hw : WOk ts ms) (hn : 1 ≤ n) :
    ∃ b : Bool, callF fs gs n 45 [.tup [.int W, .int H], .tup (ts.map toolD), .tup (ms.map mvD)] s = .ok (.bl b) s ∧ (b = true → POk W H ts ms none) := by
  obtain ⟨k, rfl, hk⟩ := sc hn
  rw [call_at (f := c__law_fits) rfl rfl]
  have es : startE c__law_fits.N.length [.tup [.int W, .int H], .tup (ts.map toolD), .tup (ms.map mvD)] = [some (SV.val (.tup [.int W, .int H])), some (.val (.tup (ts.map toolD))), some (.val (.tup (ms.map mvD))), none, none, none, none] := rfl
  have eb : c__law_fits.body = .c (.asg (.nm 3) .non) (.c (.for (.tp (.c (.nm 4) (.c (.nm 5) .nil))) (.seq (.var 2)) bFt) (.c (.ret (.bl true)) .nil)) := rfl
  have x1 : ∀ rest, execs (callF fs gs k) gs (.c (.asg (.nm 3) .non) rest) [some (SV.val (.tup [.int W, .int H])), some (.val (.tup (ts.map toolD))), some (.val (.tup (ms.map mvD))), none, none, none, none] s = execs (callF fs gs k) gs rest (EFt W H ts (.tup (ms.map mvD)) none none none) s := fun rest => by
    simp [EFt, oT]
  have e3 : evI (callF fs gs k) gs false (.seq (.var 2)) (EFt W H ts (.tup (ms.map mvD)) none none none) s = .ok (ms.map mvD) s := by simp [EFt, items?]
  have e4 : frzI (EFt W H ts (.tup (ms.map mvD)) none none none) (.seq (.var 2)) = EFt W H ts (.tup (ms.map mvD)) none none none := rfl
  rw [eb, es, x1, execs_c, exec_for, e4, e3, ok_bind]
  rcases ft_loop (n := k) (s := s) (M := .tup (ms.map mvD)) P (ms := ms) (tl := none) (o4 := none) (o5 := none) hw (fun t e => by cases e) with ⟨tl', q4, q5, e, h⟩ | e
  · exact ⟨true, by rw [e, nextF_nx]; simp [frzR], fun _ => h⟩
  · exact ⟨false, by rw [e, nextF_ret]; rfl, fun q => by cases q⟩
end
end PV.K81
set_option maxRecDepth 100000
set_option maxHeartbeats 4000000
namespace PV.K81
open PySem PV
section
variable {W H : Nat} {f g h m d : F2} {t : Tool} {ts : List Tool} {ms ns : List Mv}
/-! ### what traces tell, in plain -/
/-- a block of heights -/
def Bk (W H : Nat) (f : F2) : Prop := ∀ a b, InB W H (a, b) → 0 ≤ f a b ∧ f a b ≤ 12
theorem tr12 (P : PT W H ts) (h : POk W H ts ms none) {a b : Int} : 0 ≤ (trP W H ts ms).1 a b ∧ (trP W H ts ms).1 a b ≤ 12 :=
  ⟨tr_nn (units_ok P (j := 0) (p := (0, 0, 12)) h Nw.none).1 (by unfold c12; omega), tr_le⟩
theorem lf_spec (P : PT W H ts) (h : POk W H ts ms none) (hf : Bk W H f) :
    ((∃ g, lfP W H ts ms f = some g) ↔ ∀ a b, InB W H (a, b) → f a b ≤ (trP W H ts ms).1 a b) ∧ ∀ g, lfP W H ts ms f = some g → ∀ a b, InB W H (a, b) → g a b = mn (f a b) ((trP W H ts ms).2 a b) := by
  obtain ⟨r1, r2⟩ := run_tr (W := W) (H := H) P.T.B.W P.T.B.H (us := unitsL ts ms 0 none (0, 0, 12)) (f := f) (f0 := f) (m := c12) (d := c12) (units_ok P h Nw.none).1 (fun a b hi => by
    have := hf a b hi
    have := mn_s (f a b) (c12 a b)
    unfold c12 at *
    omega)
  refine ⟨⟨fun q => r1.mp ⟨fun a b hi => (hf a b hi).2, q⟩, fun q => (r1.mpr q).2⟩, r2⟩
theorem told_eq (P : PT W H ts) (h : POk W H ts ms none) (hf : Bk W H f) : (if leB W H f (trP W H ts ms).1 = true then bD W H (lsF f (trP W H ts ms).2) else .non) = oB W H (lfP W H ts ms f) := by
  obtain ⟨h1, h2⟩ := lf_spec P h hf
  by_cases c : leB W H f (trP W H ts ms).1 = true
  · rw [if_pos c]
    obtain ⟨g, hg⟩ := h1.mpr (leB_iff.mp c)
    rw [hg]
    show bD W H _ = bD W H g
    refine bD_iff.mpr (eqB_iff.mpr fun a b hi => ?_)
    rw [h2 g hg a b hi]; rfl
  · rw [if_neg c]
    cases hg : lfP W H ts ms f with
    | none => rfl
    | some g => exact absurd (leB_iff.mpr (h1.mp ⟨g, hg⟩)) c
theorem lsF_e {a b : Int} : lsF f g a b = mn (f a b) (g a b) := rfl
theorem alk_iff {A B : F2 × F2} : alk W H A B = true ↔ ∀ a b, InB W H (a, b) → ¬ dfr A B a b := by
  unfold alk dfr
  rw [Bool.and_eq_true, eqB_iff, eqB_iff]
  constructor
  · rintro ⟨q1, q2⟩ a b hi z
    rcases z with z | z
    · exact z (q1 a b hi)
    · exact z (q2 a b hi)
  · intro q
    exact ⟨fun a b hi => Classical.not_not.mp fun z => q a b hi (.inl z), fun a b hi => Classical.not_not.mp fun z => q a b hi (.inr z)⟩
theorem dfr_sym {A B : F2 × F2} {a b : Int} (h : dfr A B a b) : dfr B A a b := h.imp Ne.symm Ne.symm
theorem alk_sym {A B : F2 × F2} : alk W H A B = alk W H B A := by
  rw [Bool.eq_iff_iff, alk_iff, alk_iff]
  exact ⟨fun q a b hi z => q a b hi (dfr_sym z), fun q a b hi z => q a b hi (dfr_sym z)⟩
theorem alk_run (P : PT W H ts) (h1 : POk W H ts ms none) (h2 : POk W H ts ns none) (hf : Bk W H f) (ha : alk W H (trP W H ts ms) (trP W H ts ns) = true) : eqO W H (lfP W H ts ms f) (lfP W H ts ns f) = true := by
  obtain ⟨a1, a2⟩ := lf_spec P h1 hf
  obtain ⟨b1, b2⟩ := lf_spec P h2 hf
  unfold alk at ha
  rw [Bool.and_eq_true, eqB_iff, eqB_iff] at ha
  obtain ⟨q1, q2⟩ := ha
  have key : (∃ g, lfP W H ts ms f = some g) ↔ ∃ g, lfP W H ts ns f = some g := by
    rw [a1, b1]
    exact ⟨fun q a b hi => by rw [← q1 a b hi]; exact q a b hi, fun q a b hi => by rw [q1 a b hi]; exact q a b hi⟩
  cases e1 : lfP W H ts ms f with
  | none => cases e2 : lfP W H ts ns f with
    | none => rfl
    | some g => obtain ⟨x, hx⟩ := key.mpr ⟨g, e2⟩; rw [e1] at hx; cases hx
  | some g => cases e2 : lfP W H ts ns f with
    | none => obtain ⟨x, hx⟩ := key.mp ⟨g, e1⟩; rw [e2] at hx; cases hx
    | some g' =>
      refine eqB_iff.mpr fun a b hi => ?_
      rw [a2 g e1 a b hi, b2 g' e2 a b hi]
      have l1 := (a1.mp ⟨g, e1⟩) a b hi
      have l2 := (b1.mp ⟨g', e2⟩) a b hi
      have q1 := q1 a b hi
      have q2 := q2 a b hi
      rw [lsF_e, lsF_e] at q2
      have := mn_s (f a b) ((trP W H ts ms).2 a b)
      have := mn_s (f a b) ((trP W H ts ns).2 a b)
      have := mn_s ((trP W H ts ms).1 a b) ((trP W H ts ms).2 a b)
      have := mn_s ((trP W H ts ns).1 a b) ((trP W H ts ns).2 a b)
      omega
theorem hgt_12 (P : PT W H ts) (h1 : POk W H ts ms none) (h2 : POk W H ts ns none) {x y : Int} : 0 ≤ hgt (trP W H ts ms) (trP W H ts ns) x y ∧ hgt (trP W H ts ms) (trP W H ts ns) x y ≤ 12 := by
  have a := tr12 (a := x) (b := y) P h1
  have b := tr12 (a := x) (b := y) P h2
  unfold hgt
  have := mn_s ((trP W H ts ms).1 x y) ((trP W H ts ns).1 x y)
  by_cases c : (trP W H ts ms).1 x y = (trP W H ts ns).1 x y
  · rw [if_pos c]; omega
  · rw [if_neg c]; omega
theorem spk_bk (P : PT W H ts) (h1 : POk W H ts ms none) (h2 : POk W H ts ns none) {x y : Int} : Bk W H (spk (trP W H ts ms) (trP W H ts ns) x y) := fun a b _ => by
  unfold spk
  by_cases c : a = x ∧ b = y
  · rw [if_pos c]; exact hgt_12 P h1 h2
  · rw [if_neg c]; omega
theorem spk_le (P : PT W H ts) (h1 : POk W H ts ms none) {A B : F2 × F2} {x y : Int} (hi : InB W H (x, y)) : (∀ a b, InB W H (a, b) → spk A B x y a b ≤ (trP W H ts ms).1 a b) ↔ hgt A B x y ≤ (trP W H ts ms).1 x y := by
  constructor
  · intro q
    have := q x y hi
    unfold spk at this
    rwa [if_pos ⟨rfl, rfl⟩] at this
  · intro q a b _
    unfold spk
    by_cases c : a = x ∧ b = y
    · rw [if_pos c, c.1, c.2]; exact q
    · rw [if_neg c]; exact (tr12 P h1).1
theorem spk_run (P : PT W H ts) (h1 : POk W H ts ms none) (h2 : POk W H ts ns none) {x y : Int} (hi : InB W H (x, y)) (hd : dfr (trP W H ts ms) (trP W H ts ns) x y) :
    eqO W H (lfP W H ts ms (spk (trP W H ts ms) (trP W H ts ns) x y)) (lfP W H ts ns (spk (trP W H ts ms) (trP W H ts ns) x y)) = false := by
  have hf := spk_bk (x := x) (y := y) P h1 h2
  obtain ⟨a1, a2⟩ := lf_spec P h1 hf
  obtain ⟨b1, b2⟩ := lf_spec P h2 hf
  rw [spk_le P h1 hi] at a1
  rw [spk_le P h2 hi] at b1
  have e0 : spk (trP W H ts ms) (trP W H ts ns) x y x y = hgt (trP W H ts ms) (trP W H ts ns) x y := if_pos ⟨rfl, rfl⟩
  have hm := mn_s ((trP W H ts ms).1 x y) ((trP W H ts ns).1 x y)
  have hh : hgt (trP W H ts ms) (trP W H ts ns) x y = if (trP W H ts ms).1 x y = (trP W H ts ns).1 x y then (trP W H ts ms).1 x y else mn ((trP W H ts ms).1 x y) ((trP W H ts ns).1 x y) + 1 := rfl
  by_cases c : (trP W H ts ms).1 x y = (trP W H ts ns).1 x y
  · rw [if_pos c] at hh
    have hd2 := hd.resolve_left fun q => q c
    obtain ⟨g, hg⟩ := a1.mpr (by omega)
    obtain ⟨g', hg'⟩ := b1.mpr (by omega)
    have v1 := a2 g hg x y hi
    have v2 := b2 g' hg' x y hi
    rw [e0] at v1 v2
    rw [hg, hg']
    show eqB W H g g' = false
    cases q : eqB W H g g' with
    | false => rfl
    | true =>
      have := eqB_iff.mp q x y hi
      rw [v1, v2, hh] at this
      rw [← c] at hd2
      exact absurd this hd2
  · rw [if_neg c] at hh
    by_cases l : (trP W H ts ms).1 x y < (trP W H ts ns).1 x y
    · obtain ⟨g', hg'⟩ := b1.mpr (by omega)
      cases hg : lfP W H ts ms (spk (trP W H ts ms) (trP W H ts ns) x y) with
      | none => rw [hg']; rfl
      | some g => have := a1.mp ⟨g, hg⟩; omega
    · obtain ⟨g, hg⟩ := a1.mpr (by omega)
      cases hg' : lfP W H ts ns (spk (trP W H ts ms) (trP W H ts ns) x y) with
      | none => rw [hg]; rfl
      | some g' => have := b1.mp ⟨g', hg'⟩; omega
end
end PV.K81
set_option maxRecDepth 100000
set_option maxHeartbeats 4000000
namespace PV.K81
open PySem PV
def L0 : Sm := (.asg (.nm 1) (.call 25 (.c (.var 0) .nil)))
def L1 : Sm := (.par [2, 3] (.v (.tup (.c (.tup (.c (.str "fine") (.c (.int 1) (.c (.int 4) (.c (.int 0) .nil))))) .nil)) (.v (.tup (.c (.int 3) (.c (.int 1) .nil))) .nil)))
def L2 : Sm := (.asg (.nm 4) (.tup (.c (.tup (.c (.str "tool") (.c (.str "fine") .nil))) (.c (.tup (.c (.str "cut") (.c (.tup (.c (.int 0) (.c (.int 0) (.c (.int 9) .nil)))) .nil))) (.c (.tup (.c (.str "cut") (.c (.tup (.c (.int 1) (.c (.int 0) (.c (.int 9) .nil)))) .nil))) (.c (.tup (.c (.str "cut") (.c (.tup (.c (.int 2) (.c (.int 0) (.c (.int 9) .nil)))) .nil))) (.c (.tup (.c (.str "fast") (.c (.tup (.c (.int 2) (.c (.int 0) (.c (.int 12) .nil)))) .nil))) .nil)))))))
def L3 : Sm := (.asg (.nm 5) (.tup (.c (.tup (.c (.tup (.c (.int 12) (.c (.int 12) (.c (.int 12) .nil)))) .nil)) (.c (.tup (.c (.tup (.c (.int 9) (.c (.int 9) (.c (.int 9) .nil)))) .nil)) .nil))))
def L4 : Sm := (.ite (.not (.call 28 (.c (.tup (.c (.call 19 (.c (.var 3) (.c (.var 2) (.c (.var 4) .nil)))) (.c (.call 20 (.c (.var 5) (.c (.tup (.c (.tup (.c (.int 12) (.c (.int 3) (.c (.int 10) .nil)))) .nil)) .nil))) (.c (.call 21 (.c (.var 3) (.c (.var 2) (.c (.var 4) (.c (.slc (.var 4) .n (.s (.int 3))) .nil))))) .nil)))) (.c (.tup (.c (.var 5) (.c (.tup (.c (.tup (.c (.int 9) (.c (.int 3) (.c (.int 9) .nil)))) .nil)) (.c (.bl false) .nil)))) .nil)))) (.c (.ret (.bl false)) .nil) .nil)
def L5_0 : Sm := (.asg (.nm 7) (.call 30 (.c (.var 1) (.c (.int 4) .nil))))
def L5_1 : Sm := (.asg (.nm 8) (.call 32 (.c (.var 1) (.c (.var 7) .nil))))
def L5_2 : Sm := (.asg (.nm 4) (.call 40 (.c (.var 1) (.c (.var 7) (.c (.var 8) (.c (.bin .add (.int 1) (.call 27 (.c (.var 1) (.c (.int 7) .nil)))) .nil))))))
def L5_3 : Sm := (.asg (.nm 9) (.call 44 (.c (.var 1) (.c (.var 7) (.c (.var 8) (.c (.var 4) .nil))))))
def L5_4 : Sm := (.asg (.nm 9) (.ite (.call 45 (.c (.var 7) (.c (.var 8) (.c (.var 9) .nil)))) (.var 9) (.var 4)))
def L5_5 : Sm := (.par [10, 11] (.v (.call 42 (.c (.var 7) (.c (.var 8) (.c (.var 4) .nil)))) (.v (.call 42 (.c (.var 7) (.c (.var 8) (.c (.var 9) .nil)))) .nil)))
def L5_6 : Sm := (.ite (.not (.call 28 (.c (.tup (.c (.call 19 (.c (.var 7) (.c (.var 8) (.c (.var 4) .nil)))) (.c (.call 19 (.c (.var 7) (.c (.var 8) (.c (.var 9) .nil)))) .nil))) (.c (.tup (.c (.var 10) (.c (.var 11) .nil))) .nil)))) (.c (.ret (.bl false)) .nil) .nil)
def L5_7 : Sm := (.asg (.nm 12) (.fz (.dsp (.c (.tup (.c (.idx (.var 10) (.int 0)) (.c (.call 43 (.c (.tup (.c (.bin .mul (.tup (.c (.bin .mul (.tup (.c (.int 12) .nil)) (.idx (.var 7) (.int 0))) .nil)) (.idx (.var 7) (.int 1))) (.c (.idx (.var 10) (.int 1)) .nil))) (.c (.idx (.var 10) (.int 0)) .nil))) .nil))) (.c (.tup (.c (.idx (.var 11) (.int 0)) (.c (.call 43 (.c (.tup (.c (.bin .mul (.tup (.c (.bin .mul (.tup (.c (.int 12) .nil)) (.idx (.var 7) (.int 0))) .nil)) (.idx (.var 7) (.int 1))) (.c (.idx (.var 11) (.int 1)) .nil))) (.c (.idx (.var 11) (.int 0)) .nil))) .nil))) .nil)))))
def L5_8 : Sm := (.asg (.nm 13) (.cmp .eq (.idx (.var 12) (.int 0)) (.idx (.var 12) (.int 1))))
def L5_9 : Sm := (.ite (.not (.call 28 (.c (.tup (.c (.call 21 (.c (.var 7) (.c (.var 8) (.c (.var 4) (.c (.var 9) .nil))))) (.c (.call 21 (.c (.var 7) (.c (.var 8) (.c (.var 9) (.c (.var 4) .nil))))) .nil))) (.c (.tup (.c (.var 13) (.c (.var 13) .nil))) .nil)))) (.c (.ret (.bl false)) .nil) .nil)
def L5_10 : Sm := (.asg (.nm 14) (.call 24 (.c (.var 7) (.c (.var 8) (.c (.var 4) (.c (.var 9) .nil))))))
def L5_11 : Sm := (.ite (.bop false (.c (.cmp .ne (.cmp .is (.var 14) .non) (.var 13)) (.c (.bop true (.c (.cmp .isn (.var 14) .non) (.c (.not (.isi (.var 14) .tup)) .nil))) .nil))) (.c (.ret (.bl false)) .nil) .nil)
def L5_12 : Sm := (.ite (.bop true (.c (.cmp .isn (.var 14) .non) (.c (.bop false (.c (.cmp .eq (.call 39 (.c (.var 14) (.c (.var 8) (.c (.var 4) .nil)))) (.call 39 (.c (.var 14) (.c (.var 8) (.c (.var 9) .nil))))) (.c (.cmp .isn (.call 23 (.c (.var 14) (.c (.var 8) (.c (.var 4) (.c (.var 9) .nil))))) (.bl true)) .nil))) .nil))) (.c (.ret (.bl false)) .nil) .nil)
def L5_13_0 : Sm := (.asg (.nm 16) (.ite (.cmp .lt (.var 15) (.int 2)) (.call 31 (.c (.var 1) (.c (.var 7) (.c (.int 12) .nil)))) (.blt .tup (.c (.fz (.cp1 (.blt .tup (.c (.fz (.cp1 (.blt .max (.c (.int 0) (.c (.bin .sub (.var 20) (.call 27 (.c (.var 1) (.c (.int 2) .nil)))) .nil))) (.nm 20) (.seq (.var 19)) .n [20])) .nil)) (.nm 19) (.seq (.idx (.var 10) (.int 0))) .n [19])) .nil))))
def L5_13_1 : Sm := (.par [17, 18] (.v (.call 39 (.c (.var 16) (.c (.var 8) (.c (.var 4) .nil)))) (.v (.call 39 (.c (.var 16) (.c (.var 8) (.c (.var 9) .nil)))) .nil)))
def L5_13_2 : Sm := (.ite (.not (.call 28 (.c (.tup (.c (.call 20 (.c (.var 10) (.c (.var 16) .nil))) (.c (.call 43 (.c (.var 10) (.c (.var 16) .nil))) (.c (.call 41 (.c (.var 16) (.c (.var 8) (.c (.var 4) .nil)))) .nil)))) (.c (.tup (.c (.var 17) (.c (.var 17) (.c (.var 17) .nil)))) .nil)))) (.c (.ret (.bl false)) .nil) .nil)
def L5_13_3 : Sm := (.ite (.bop false (.c (.not (.call 28 (.c (.call 23 (.c (.var 16) (.c (.var 8) (.c (.var 4) (.c (.var 9) .nil))))) (.c (.cmp .ne (.var 17) (.var 18)) .nil)))) (.c (.bop true (.c (.var 13) (.c (.cmp .ne (.var 17) (.var 18)) .nil))) .nil))) (.c (.ret (.bl false)) .nil) .nil)
def L5_13_B : Sms := (.c L5_13_0 (.c L5_13_1 (.c L5_13_2 (.c L5_13_3 .nil))))
def L5_13 : Sm := (.for (.nm 15) (.rg1 (.int 4)) L5_13_B)
def L5_B : Sms := (.c L5_0 (.c L5_1 (.c L5_2 (.c L5_3 (.c L5_4 (.c L5_5 (.c L5_6 (.c L5_7 (.c L5_8 (.c L5_9 (.c L5_10 (.c L5_11 (.c L5_12 (.c L5_13 .nil))))))))))))))
def L5 : Sm := (.for (.nm 6) (.rg1 (.int 3)) L5_B)
def L6 : Sm := (.ret (.bl true))
def LB : Sms := (.c L0 (.c L1 (.c L2 (.c L3 (.c L4 (.c L5 (.c L6 .nil)))))))
theorem law_body : c_law.body = LB := rfl
abbrev SZ (W H : Nat) : D := .tup [.int W, .int H]
abbrev TD (ts : List Tool) : D := .tup (ts.map toolD)
abbrev PlD (ms : List Mv) : D := .tup (ms.map mvD)
section
variable {n : Nat} {s : Sto} {W H : Nat} {f g h m d : F2} {t : Tool} {ts : List Tool} {ms ns : List Mv} {env : Env}
/-- what a turn knows -/
structure Kq (W H : Nat) (ts : List Tool) (ms ns : List Mv) (env : Env) : Prop where
  len : env.length = 21
  a1 : At env 1 (.loc 1)
  a4 : At env 4 (PlD ms)
  a7 : At env 7 (SZ W H)
  a8 : At env 8 (TD ts)
  a9 : At env 9 (PlD ns)
  a10 : At env 10 (trD W H (trP W H ts ms))
  a13 : At env 13 (.bl (alk W H (trP W H ts ms) (trP W H ts ns)))
theorem Kq.set {k : Nat} {x : Option SV} (K : Kq W H ts ms ns env) (hk : 14 ≤ k) : Kq W H ts ms ns (env.set k x) :=
  ⟨by rw [List.length_set]; exact K.len, K.a1.ne (by omega), K.a4.ne (by omega), K.a7.ne (by omega), K.a8.ne (by omega), K.a9.ne (by omega), K.a10.ne (by omega), K.a13.ne (by omega)⟩
structure Pl (W H : Nat) (ts : List Tool) (ms : List Mv) : Prop where
  ok : POk W H ts ms none
  nm : ∀ x, Mv.tool x ∈ ms → NmP x
  len : ms.length ≤ 1000
theorem low_row (P : PT W H ts) (A : F2) (hA : ∀ a b, 0 ≤ A a b ∧ A a b ≤ 12) {b : Nat} (h1 : At env 1 (.loc 1)) (h19 : At env 19 (rowD W A b)) (hl : env.length = 21) (hb : Bx s) (hn : 2 ≤ n) :
    ∃ (l : List Int) (s' : Sto), evF (callF fs gs n) gs (.cp1 (.blt .max (.c (.int 0) (.c (.bin .sub (.var 20) (.call 27 (.c (.var 1) (.c (.int 2) .nil)))) .nil))) (.nm 20) (.seq (.var 19)) .n [20]) env s = .ok (l.map D.int) s' ∧ Bx s' ∧ l.length = W ∧ ∀ v ∈ l, 0 ≤ v ∧ v ≤ 12 := by
  have hW := P.T.B.W
  obtain ⟨l, s', e2, b', hl, hp⟩ := cp1_gen (cf := callF fs gs n) (gs := gs) (elt := .blt .max (.c (.int 0) (.c (.bin .sub (.var 20) (.call 27 (.c (.var 1) (.c (.int 2) .nil)))) .nil))) (tg := .nm 20) (it := .seq (.var 19)) (vs := [20]) (env := env) (s := s) (s1 := s) (mk := fun (a : Nat) => D.int (A a b)) (dec := D.int) (I := Bx) (P := fun v => 0 ≤ v ∧ v ≤ 12) (xs := List.range W)
    (by simp [h19, items_row]) hb (fun a ha s3 hb3 => by
      obtain ⟨d, s4, g1, g2, g3⟩ := e_draw (n := n) (many := 2) hb3 (by omega) hn
      have hA := hA a b
      have hm := mx_s 0 (A a b - d)
      refine ⟨_, mx 0 (A a b - d), s4, bindT_nm, ?_, g3, by omega⟩
      have q1 : ((wipeE (noOwn env) [20]).set 20 (some (SV.val (.int (A a b)))))[20]? = some (some (.val (.int (A a b)))) := List.getElem?_set_self (by simp [wipeE, noOwn, hl])
      have q2 : ((wipeE (noOwn env) [20]).set 20 (some (SV.val (.int (A a b)))))[1]? = some (some (.val (.loc 1))) := by
        rw [List.getElem?_set_ne (by decide)]
        show ((noOwn env).set 20 none)[1]? = _
        rw [List.getElem?_set_ne (by decide)]
        exact noOwn_val h1
      generalize (wipeE (noOwn env) [20]).set 20 (some (SV.val (.int (A a b)))) = env2 at q1 q2
      simp [q1, q2, g1, borrows, isOwn]) (by rw [List.length_range]; show _ ≤ 16777216; omega)
  exact ⟨l, s', e2, b', by rw [hl, List.length_range], hp⟩
theorem s0_ok (P : PT W H ts) (hp : Pl W H ts ms) {j : Int} (K : Kq W H ts ms ns env) (h15 : At env 15 (.int j)) (hb : Bx s) (hn : 3 ≤ n) :
    ∃ f s', exec (callF fs gs n) gs L5_13_0 env s = .ok (.nx (env.set 16 (some (.val (bD W H f))))) s' ∧ Bx s' ∧ Bk W H f := by
  have hW := P.T.B.W
  have hH := P.T.B.H
  by_cases c : j < 2
  · obtain ⟨f, s', e, b, hf⟩ := e_lheights (n := n) (W := W) (H := H) (most := 12) hb hW.2 hH.2 (by omega) hn
    refine ⟨f, s', ?_, b, nat_in hf⟩
    unfold L5_13_0
    simp [h15, c, K.a1, K.a7, e, borrows, isOwn]
  · have hA : ∀ a b, 0 ≤ (trP W H ts ms).1 a b ∧ (trP W H ts ms).1 a b ≤ 12 := fun a b => tr12 P hp.ok
    have i0 := idx_trD0 (W := W) (H := H) (A := trP W H ts ms)
    have dt := fun s => deref_trD (s := s) (W := W) (H := H) (A := trP W H ts ms)
    have h10 := K.a10
    obtain ⟨rows, s', e2, b', hl, hp⟩ := cp1_gen (cf := callF fs gs n) (gs := gs) (elt := .blt .tup (.c (.fz (.cp1 (.blt .max (.c (.int 0) (.c (.bin .sub (.var 20) (.call 27 (.c (.var 1) (.c (.int 2) .nil)))) .nil))) (.nm 20) (.seq (.var 19)) .n [20])) .nil)) (tg := .nm 19) (it := .seq (.idx (.var 10) (.int 0))) (vs := [19]) (env := env) (s := s) (s1 := s) (mk := fun (b : Nat) => rowD W (trP W H ts ms).1 b) (dec := fun (l : List Int) => D.tup (l.map D.int)) (I := Bx) (P := fun (l : List Int) => l.length = W ∧ ∀ v ∈ l, 0 ≤ v ∧ v ≤ 12) (xs := List.range H)
      (by simp [h10, dt, i0, items_bD]) hb (fun b hb' s3 hb3 => by
        have q1 : ((wipeE (noOwn env) [19]).set 19 (some (SV.val (rowD W (trP W H ts ms).1 b))))[19]? = some (some (.val (rowD W (trP W H ts ms).1 b))) := List.getElem?_set_self (by simp [wipeE, noOwn, K.len])
        have q2 : ((wipeE (noOwn env) [19]).set 19 (some (SV.val (rowD W (trP W H ts ms).1 b))))[1]? = some (some (.val (.loc 1))) := by
          rw [List.getElem?_set_ne (by decide)]
          show ((noOwn env).set 19 none)[1]? = _
          rw [List.getElem?_set_ne (by decide)]
          exact noOwn_val K.a1
        obtain ⟨l, s4, g1, g2, g3, g4⟩ := low_row (n := n) P (trP W H ts ms).1 hA q2 q1 (by simp [wipeE, noOwn, K.len]) hb3 (by omega)
        exact ⟨_, l, s4, bindT_nm, by simp [g1], g2, g3, g4⟩) (by rw [List.length_range]; show _ ≤ 16777216; omega)
    obtain ⟨f, hf, hP⟩ := rows_bD (W := W) (H := H) (P := fun v _ _ => 0 ≤ v ∧ v ≤ 12) (by rw [hl, List.length_range]) (fun b l hbl => by
      have := hp l (List.mem_of_getElem? hbl)
      exact ⟨this.1, fun a v h => this.2 v (List.mem_of_getElem? h)⟩)
    refine ⟨f, s', ?_, b', nat_in hP⟩
    rw [← hf]
    unfold L5_13_0
    simp [h15, c, e2]
theorem sim_oB {a : Option F2} (B : BOk W H) : Sim 2 (oB W H a) := by
  cases a with
  | none => exact .non
  | some f => exact sim_bD B.W.2 B.H.2
theorem step_ok (P : PT W H ts) (hp : Pl W H ts ms) (hq : Pl W H ts ns) {j : Int} (K : Kq W H ts ms ns env) (hb : Bx s) (hn : 8 ≤ n) :
    ∃ env' s', stepF (callF fs gs n) gs (.nm 15) L5_13_B (.int j) env s = .ok (.nx env') s' ∧ Kq W H ts ms ns env' ∧ Bx s' := by
  have K0 := K.set (k := 15) (x := some (.val (.int j))) (by omega)
  have h15 : At (env.set 15 (some (.val (.int j)))) 15 (.int j) := atS (by rw [K.len]; omega)
  have eb : stepF (callF fs gs n) gs (.nm 15) L5_13_B (.int j) env s = execs (callF fs gs n) gs L5_13_B (env.set 15 (some (.val (.int j)))) s := by
    unfold stepF; rw [bindT_nm]
  rw [eb]
  generalize env.set 15 (some (.val (.int j))) = env0 at *
  obtain ⟨f, s1, e1, b1, hf⟩ := s0_ok (n := n) (s := s) P hp K0 h15 hb (by omega)
  have K1 := K0.set (k := 16) (x := some (.val (bD W H f))) (by omega)
  have h16 : At (env0.set 16 (some (.val (bD W H f)))) 16 (bD W H f) := atS (by rw [K0.len]; omega)
  generalize env0.set 16 (some (.val (bD W H f))) = env1 at *
  have r1 := fun s => e_lrun (n := n) (s := s) (f := f) P hp.ok hp.len (by omega)
  have r2 := fun s => e_lrun (n := n) (s := s) (f := f) P hq.ok hq.len (by omega)
  have ha := fun z => alk_run P hp.ok hq.ok hf z
  have told := told_eq P hp.ok hf
  obtain ⟨s2, e2, g2⟩ := e_lleft (n := n) (s := s1) (f := f) P hp.ok hp.len (by omega)
  obtain ⟨s3, e3, g3⟩ := e_parts (n := n) (s := s2) (f := f) P hp.ok hq.ok hp.len hq.len (by omega)
  have le := fun s => e_left_by (n := n) (s := s) (f := f) (m := (trP W H ts ms).1) (d := (trP W H ts ms).2) P.T.B (by omega)
  have lt := fun s => e_ltold (n := n) (s := s) (f := f) (m := (trP W H ts ms).1) (d := (trP W H ts ms).2) P.T.B (by omega)
  rw [told] at le lt
  have e2' : callF fs gs n 41 [bD W H f, .tup (ts.map toolD), .tup (ms.map mvD)] s1 = .ok (oB W H (lfP W H ts ms f)) s2 := e2
  have sm := sim_oB (W := W) (H := H) (a := lfP W H ts ms f) P.T.B
  have ne := ne_oB (W := W) (H := H) (a := lfP W H ts ms f) (b := lfP W H ts ns f)
  generalize hV : oB W H (lfP W H ts ms f) = V at *
  have dV : ∀ s : Sto, deref s V = V := fun s => by rw [← hV]; exact deref_oB
  have dV2 : ∀ s : Sto, deref s (oB W H (lfP W H ts ns f)) = oB W H (lfP W H ts ns f) := fun s => deref_oB
  generalize oB W H (lfP W H ts ns f) = V2 at *
  generalize eqO W H (lfP W H ts ms f) (lfP W H ts ns f) = q at *
  have x2 : exec (callF fs gs n) gs L5_13_1 env1 s1 = .ok (.nx ((env1.set 17 (some (.val V))).set 18 (some (.val V2)))) s1 := by
    unfold L5_13_1
    simp [h16, K1.a8, K1.a4, K1.a9, r1, r2, borrows, isOwn]
  have K2 := (K1.set (k := 17) (x := some (.val V)) (by omega)).set (k := 18) (x := some (.val V2)) (by omega)
  have h17 : At ((env1.set 17 (some (.val V))).set 18 (some (.val V2))) 17 V := (atS (by rw [K1.len]; omega)).ne (by omega)
  have h18 : At ((env1.set 17 (some (.val V))).set 18 (some (.val V2))) 18 V2 := atS (by rw [List.length_set, K1.len]; omega)
  have h16 : At ((env1.set 17 (some (.val V))).set 18 (some (.val V2))) 16 (bD W H f) := (h16.ne (by omega)).ne (by omega)
  generalize (env1.set 17 (some (.val V))).set 18 (some (.val V2)) = env2 at *
  have em := e_same (k := 3) (d := .tup [V, V, V]) (Sim.tup (by simp) fun d hd => by
    have : d = V := by simpa using hd
    rw [this]; exact sm) (n := n) (s := s2) (by omega)
  have h10 : At env2 10 (.tup [bD W H (trP W H ts ms).1, bD W H (trP W H ts ms).2]) := K2.a10
  have x3 : exec (callF fs gs n) gs L5_13_2 env2 s1 = .ok (.nx env2) s2 := by
    unfold L5_13_2
    simp [h10, h16, h17, K2.a8, K2.a4, le, lt, e2', em, borrows, isOwn]
  have em2 := e_same (k := 0) (d := .bl (!q)) Sim.bl (n := n) (s := s3) (by omega)
  have x4 : exec (callF fs gs n) gs L5_13_3 env2 s2 = .ok (.nx env2) s3 := by
    unfold L5_13_3
    have h13 := K2.a13
    generalize alk W H (trP W H ts ms) (trP W H ts ns) = al at *
    cases al with
    | false => simp [h16, h17, h18, K2.a8, K2.a4, K2.a9, h13, e3, ne, dV, dV2, em2, borrows, isOwn]
    | true =>
      have hq := ha rfl
      subst hq
      simp at ne em2 e3
      simp [h16, h17, h18, K2.a8, K2.a4, K2.a9, h13, e3, ne, dV, dV2, em2, borrows, isOwn]
  refine ⟨env2, s3, ?_, K2, (g2.trans g3).bx b1⟩
  unfold L5_13_B
  rw [execs_c, e1, nextF_nx, execs_c, x2, nextF_nx, execs_c, x3, nextF_nx, execs_c, x4, nextF_nx, execs_nil]
end
end PV.K81
set_option maxRecDepth 100000
set_option maxHeartbeats 4000000
namespace PV.K81
open PySem PV
section
variable {n : Nat} {s : Sto} {W H : Nat} {f g h m d : F2} {t : Tool} {ts : List Tool} {ms ns : List Mv} {env : Env}
open Classical in
theorem eq_tr {A B : F2 × F2} : cmpD .eq (.tup [bD W H A.1, bD W H A.2]) (.tup [bD W H B.1, bD W H B.2]) = some (eqB W H A.1 B.1 && eqB W H A.2 B.2) := by
  have dk : ∀ A : F2 × F2, Dat (.tup [bD W H A.1, bD W H A.2]) := fun A => (DatK.tup (k := 2) fun x hx => by
    simp only [List.mem_cons, List.not_mem_nil, or_false] at hx
    rcases hx with rfl | rfl <;> exact dat_bD).dat (by omega)
  rw [eqD_dat (dk A) (dk B)]
  congr 1
  rw [Bool.eq_iff_iff, decide_eq_true_eq, Bool.and_eq_true, ← bD_iff, ← bD_iff]
  constructor
  · intro e
    simp only [D.tup.injEq, List.cons.injEq, and_true] at e
    exact e
  · rintro ⟨e1, e2⟩; rw [e1, e2]
theorem big_pos (h : Big ts) : 0 < ts.length := by
  have : 0 < (ts.map (·.1)).length := by rcases h with e | e | e <;> rw [e] <;> decide
  rwa [List.length_map] at this
structure K0 (W H : Nat) (ts : List Tool) (env : Env) : Prop where
  len : env.length = 21
  a1 : At env 1 (.loc 1)
  a7 : At env 7 (SZ W H)
  a8 : At env 8 (TD ts)
/-- a turn's drawn things -/
theorem t_draw {j : Int} (hl : env.length = 21) (h1 : At env 1 (.loc 1)) (hb : Bx s) (hn : 8 ≤ n) :
    ∃ W H ts ms ns env' s', PT W H ts ∧ 0 < ts.length ∧ Pl W H ts ms ∧ Pl W H ts ns ∧ (env'.length = 21 ∧ At env' 1 (.loc 1) ∧ At env' 4 (PlD ms) ∧ At env' 7 (SZ W H) ∧ At env' 8 (TD ts) ∧ At env' 9 (PlD ns)) ∧ Bx s' ∧
      ∀ rest, execs (callF fs gs n) gs (.c L5_0 (.c L5_1 (.c L5_2 (.c L5_3 (.c L5_4 rest))))) env s = execs (callF fs gs n) gs rest env' s' := by
  obtain ⟨W, H, s1, e1, b1, hW, hH⟩ := e_lsize (n := n) (most := 4) hb (by omega) (by omega)
  have B : BOk W H := ⟨by omega, by omega⟩
  obtain ⟨ts, s2, e2, b2, hB, hts⟩ := e_ltools (n := n) B b1 (by omega)
  have P : PT W H ts := ⟨hB.tl B hts, hts⟩
  have hne := big_pos hB
  obtain ⟨d, s3, e3, hd, b3⟩ := e_draw (n := n) (many := 7) b2 (by omega) (by omega)
  obtain ⟨ms, s4, e4, b4, p4, l4⟩ := e_lplan (n := n) (many := 1 + d) P hne b3 (by omega) (by omega)
  obtain ⟨ns, s5, e5, b5, w5, l5⟩ := e_lbent (n := n) (ms := ms) P hne b4 p4.wok (by omega) (by omega)
  obtain ⟨q, e6, h6⟩ := e_lfits (n := n) (s := s5) (ms := ns) P w5 (by omega)
  have pm : Pl W H ts ms := ⟨p4, p4.wok.nm P, by omega⟩
  obtain ⟨os, ho, po⟩ : ∃ os, (if q = true then PlD ns else PlD ms) = PlD os ∧ Pl W H ts os := by
    cases q with
    | true => exact ⟨ns, rfl, ⟨h6 rfl, w5.nm P, by omega⟩⟩
    | false => exact ⟨ms, rfl, pm⟩
  have x0 : exec (callF fs gs n) gs L5_0 env s = .ok (.nx (env.set 7 (some (.val (SZ W H))))) s1 := by
    unfold L5_0
    simp [h1, e1, borrows, isOwn]
  have a7 : At (env.set 7 (some (.val (SZ W H)))) 7 (SZ W H) := atS (by omega)
  have a1 := h1.ne (j := 7) (x := some (.val (SZ W H))) (by omega)
  have hl : (env.set 7 (some (.val (SZ W H)))).length = 21 := by rw [List.length_set]; exact hl
  generalize env.set 7 (some (.val (SZ W H))) = env1 at *
  have x1 : exec (callF fs gs n) gs L5_1 env1 s1 = .ok (.nx (env1.set 8 (some (.val (TD ts))))) s2 := by
    unfold L5_1
    simp [a1, a7, e2, borrows, isOwn]
  have a8 : At (env1.set 8 (some (.val (TD ts)))) 8 (TD ts) := atS (by omega)
  have a7 := a7.ne (j := 8) (x := some (.val (TD ts))) (by omega)
  have a1 := a1.ne (j := 8) (x := some (.val (TD ts))) (by omega)
  have hl : (env1.set 8 (some (.val (TD ts)))).length = 21 := by rw [List.length_set]; exact hl
  generalize env1.set 8 (some (.val (TD ts))) = env2 at *
  have x2 : exec (callF fs gs n) gs L5_2 env2 s2 = .ok (.nx (env2.set 4 (some (.val (PlD ms))))) s4 := by
    unfold L5_2
    simp [a1, a7, a8, e3, e4, borrows, isOwn]
  have a4 : At (env2.set 4 (some (.val (PlD ms)))) 4 (PlD ms) := atS (by omega)
  have a8 := a8.ne (j := 4) (x := some (.val (PlD ms))) (by omega)
  have a7 := a7.ne (j := 4) (x := some (.val (PlD ms))) (by omega)
  have a1 := a1.ne (j := 4) (x := some (.val (PlD ms))) (by omega)
  have hl : (env2.set 4 (some (.val (PlD ms)))).length = 21 := by rw [List.length_set]; exact hl
  generalize env2.set 4 (some (.val (PlD ms))) = env3 at *
  have x3 : exec (callF fs gs n) gs L5_3 env3 s4 = .ok (.nx (env3.set 9 (some (.val (PlD ns))))) s5 := by
    unfold L5_3
    simp [a1, a4, a7, a8, e5, borrows, isOwn]
  have a9 : At (env3.set 9 (some (.val (PlD ns)))) 9 (PlD ns) := atS (by omega)
  have a4 := a4.ne (j := 9) (x := some (.val (PlD ns))) (by omega)
  have a8 := a8.ne (j := 9) (x := some (.val (PlD ns))) (by omega)
  have a7 := a7.ne (j := 9) (x := some (.val (PlD ns))) (by omega)
  have a1 := a1.ne (j := 9) (x := some (.val (PlD ns))) (by omega)
  have hl : (env3.set 9 (some (.val (PlD ns)))).length = 21 := by rw [List.length_set]; exact hl
  generalize env3.set 9 (some (.val (PlD ns))) = env4 at *
  have x4 : exec (callF fs gs n) gs L5_4 env4 s5 = .ok (.nx (env4.set 9 (some (.val (PlD os))))) s5 := by
    unfold L5_4
    rw [← ho]
    cases q <;> simp [a1, a4, a7, a8, a9, e6, borrows, isOwn]
  refine ⟨W, H, ts, ms, os, env4.set 9 (some (.val (PlD os))), s5, P, hne, pm, po, ⟨by rw [List.length_set]; exact hl, a1.ne (by omega), a4.ne (by omega), a7.ne (by omega), a8.ne (by omega), atS (by omega)⟩, b5, fun rest => ?_⟩
  rw [execs_c, x0, nextF_nx, execs_c, x1, nextF_nx, execs_c, x2, nextF_nx, execs_c, x3, nextF_nx, execs_c, x4, nextF_nx]
theorem sim_tr {A : F2 × F2} (B : BOk W H) : Sim 3 (trD W H A) := Sim.tup (by simp) fun d hd => by
  simp only [List.mem_cons, List.not_mem_nil, or_false] at hd
  rcases hd with rfl | rfl <;> exact sim_bD B.W.2 B.H.2
theorem ne_bl {a b : Bool} : cmpD .ne (.bl a) (.bl b) = some (!(a == b)) := neD_eq eq_bl
/-- a turn's traces -/
theorem t_traces (P : PT W H ts) (hp : Pl W H ts ms) (hq : Pl W H ts ns) (hl : env.length = 21) (a1 : At env 1 (.loc 1)) (a4 : At env 4 (PlD ms)) (a7 : At env 7 (SZ W H)) (a8 : At env 8 (TD ts)) (a9 : At env 9 (PlD ns)) (hb : Bx s) (hn : 8 ≤ n) :
    ∃ env' s', Kq W H ts ms ns env' ∧ Bx s' ∧ ∀ rest, execs (callF fs gs n) gs (.c L5_5 (.c L5_6 (.c L5_7 (.c L5_8 (.c L5_9 rest))))) env s = execs (callF fs gs n) gs rest env' s' := by
  have B := P.T.B
  have hW := B.W
  have hH := B.H
  obtain ⟨s1, e1, g1⟩ := e_ltrace (n := n) (s := s) P hp.ok hp.len (by omega)
  obtain ⟨s2, e2, g2⟩ := e_ltrace (n := n) (s := s1) P hq.ok hq.len (by omega)
  obtain ⟨s3, e3, g3⟩ := e_trace (n := n) (s := s2) P hp.ok hp.nm hp.len (by omega)
  obtain ⟨s4, e4, g4⟩ := e_trace (n := n) (s := s3) P hq.ok hq.nm hq.len (by omega)
  obtain ⟨s5, e5, g5⟩ := e_alike (n := n) (s := s4) P hp.ok hq.ok hp.nm hq.nm hp.len hq.len (by omega)
  obtain ⟨s6, e6, g6⟩ := e_alike (n := n) (s := s5) P hq.ok hp.ok hq.nm hp.nm hq.len hp.len (by omega)
  have lA : leB W H (trP W H ts ms).1 c12 = true := leB_iff.mpr fun a b _ => (tr12 P hp.ok).2
  have lB : leB W H (trP W H ts ns).1 c12 = true := leB_iff.mpr fun a b _ => (tr12 P hq.ok).2
  have o1 := fun s => e_ltold (n := n) (s := s) (f := (trP W H ts ms).1) (m := c12) (d := (trP W H ts ms).2) B (by omega)
  have o2 := fun s => e_ltold (n := n) (s := s) (f := (trP W H ts ns).1) (m := c12) (d := (trP W H ts ns).2) B (by omega)
  simp only [lA, lB, if_true] at o1 o2
  have q1 := eq_tr (W := W) (H := H) (A := ((trP W H ts ms).1, lsF (trP W H ts ms).1 (trP W H ts ms).2)) (B := ((trP W H ts ns).1, lsF (trP W H ts ns).1 (trP W H ts ns).2))
  have q1 : cmpD .eq (.tup [bD W H (trP W H ts ms).1, bD W H (lsF (trP W H ts ms).1 (trP W H ts ms).2)]) (.tup [bD W H (trP W H ts ns).1, bD W H (lsF (trP W H ts ns).1 (trP W H ts ns).2)]) = some (alk W H (trP W H ts ms) (trP W H ts ns)) := q1
  rw [alk_sym (A := trP W H ts ns)] at e6
  have mk : ∀ {env' : Env}, env'.length = 21 → At env' 1 (.loc 1) → At env' 4 (PlD ms) → At env' 7 (SZ W H) → At env' 8 (TD ts) → At env' 9 (PlD ns) → At env' 10 (trD W H (trP W H ts ms)) → At env' 13 (.bl (alk W H (trP W H ts ms) (trP W H ts ns))) → Kq W H ts ms ns env' := fun a b c d e f g h => ⟨a, b, c, d, e, f, g, h⟩
  have sA := sim_tr (W := W) (H := H) (A := trP W H ts ms) B
  have sB := sim_tr (W := W) (H := H) (A := trP W H ts ns) B
  generalize trP W H ts ms = A at *
  generalize trP W H ts ns = A' at *
  have x0 : exec (callF fs gs n) gs L5_5 env s = .ok (.nx ((env.set 10 (some (.val (trD W H A)))).set 11 (some (.val (trD W H A'))))) s2 := by
    unfold L5_5
    simp [a4, a7, a8, a9, e1, e2, borrows, isOwn]
  have a10 : At ((env.set 10 (some (.val (trD W H A)))).set 11 (some (.val (trD W H A')))) 10 (trD W H A) := (atS (by omega)).ne (by omega)
  have a11 : At ((env.set 10 (some (.val (trD W H A)))).set 11 (some (.val (trD W H A')))) 11 (trD W H A') := atS (by rw [List.length_set]; omega)
  have a1 : At ((env.set 10 (some (.val (trD W H A)))).set 11 (some (.val (trD W H A')))) 1 _ := (a1.ne (by omega)).ne (by omega)
  have a4 : At ((env.set 10 (some (.val (trD W H A)))).set 11 (some (.val (trD W H A')))) 4 _ := (a4.ne (by omega)).ne (by omega)
  have a7 : At ((env.set 10 (some (.val (trD W H A)))).set 11 (some (.val (trD W H A')))) 7 _ := (a7.ne (by omega)).ne (by omega)
  have a8 : At ((env.set 10 (some (.val (trD W H A)))).set 11 (some (.val (trD W H A')))) 8 _ := (a8.ne (by omega)).ne (by omega)
  have a9 : At ((env.set 10 (some (.val (trD W H A)))).set 11 (some (.val (trD W H A')))) 9 _ := (a9.ne (by omega)).ne (by omega)
  have hl : ((env.set 10 (some (.val (trD W H A)))).set 11 (some (.val (trD W H A')))).length = 21 := by rw [List.length_set, List.length_set]; exact hl
  generalize (env.set 10 (some (.val (trD W H A)))).set 11 (some (.val (trD W H A'))) = env1 at *
  have em := e_same (k := 4) (d := .tup [trD W H A, trD W H A']) (Sim.tup (by simp) fun d hd => by
    simp only [List.mem_cons, List.not_mem_nil, or_false] at hd
    rcases hd with rfl | rfl
    · exact sA
    · exact sB) (n := n) (s := s4) (by omega)
  have e3 : callF fs gs n 19 [.tup [.int W, .int H], .tup (ts.map toolD), .tup (ms.map mvD)] s2 = .ok (trD W H A) s3 := e3
  have e4 : callF fs gs n 19 [.tup [.int W, .int H], .tup (ts.map toolD), .tup (ns.map mvD)] s3 = .ok (trD W H A') s4 := e4
  have x1 : exec (callF fs gs n) gs L5_6 env1 s2 = .ok (.nx env1) s4 := by
    unfold L5_6
    simp [a4, a7, a8, a9, a10, a11, e3, e4, em, borrows, isOwn]
  have m1 := mul_tup (x := .int 12) (k := W) (by omega)
  have m2 := mul_tup (x := .tup (List.replicate W (.int 12))) (k := H) (by omega)
  have hc : D.tup (List.replicate H (.tup (List.replicate W (.int 12)))) = bD W H c12 := cst_bD (c := 12)
  have i1 := idx_trD0 (W := W) (H := H) (A := A)
  have i2 := idx_trD1 (W := W) (H := H) (A := A)
  have i3 := idx_trD0 (W := W) (H := H) (A := A')
  have i4 := idx_trD1 (W := W) (H := H) (A := A')
  have d1 := fun s => deref_trD (s := s) (W := W) (H := H) (A := A)
  have d2 := fun s => deref_trD (s := s) (W := W) (H := H) (A := A')
  have x2 : exec (callF fs gs n) gs L5_7 env1 s4 = .ok (.nx (env1.set 12 (some (.val (.lst [.tup [bD W H A.1, bD W H (lsF A.1 A.2)], .tup [bD W H A'.1, bD W H (lsF A'.1 A'.2)]]))))) s4 := by
    unfold L5_7
    simp [a7, a10, a11, m1, m2, hc, i1, i2, i3, i4, d1, d2, o1, o2, borrows, isOwn]
  have a12 : At (env1.set 12 (some (.val (.lst [.tup [bD W H A.1, bD W H (lsF A.1 A.2)], .tup [bD W H A'.1, bD W H (lsF A'.1 A'.2)]])))) 12 (.lst [.tup [bD W H A.1, bD W H (lsF A.1 A.2)], .tup [bD W H A'.1, bD W H (lsF A'.1 A'.2)]]) := atS (by omega)
  have hl : (env1.set 12 (some (.val (.lst [.tup [bD W H A.1, bD W H (lsF A.1 A.2)], .tup [bD W H A'.1, bD W H (lsF A'.1 A'.2)]])))).length = 21 := by rw [List.length_set]; exact hl
  have st := fun {k : Nat} {v : D} (hk : k ≠ 12) (a : At env1 k v) => a.ne (j := 12) (x := some (.val (.lst [.tup [bD W H A.1, bD W H (lsF A.1 A.2)], .tup [bD W H A'.1, bD W H (lsF A'.1 A'.2)]]))) (Ne.symm hk)
  have a1 := st (by omega) a1
  have a4 := st (by omega) a4
  have a7 := st (by omega) a7
  have a8 := st (by omega) a8
  have a9 := st (by omega) a9
  have a10 := st (by omega) a10
  clear st
  generalize env1.set 12 (some (.val (.lst [.tup [bD W H A.1, bD W H (lsF A.1 A.2)], .tup [bD W H A'.1, bD W H (lsF A'.1 A'.2)]]))) = env2 at *
  have x3 : exec (callF fs gs n) gs L5_8 env2 s4 = .ok (.nx (env2.set 13 (some (.val (.bl (alk W H A A')))))) s4 := by
    unfold L5_8
    simp [a12, q1]
  have a13 : At (env2.set 13 (some (.val (.bl (alk W H A A'))))) 13 (.bl (alk W H A A')) := atS (by omega)
  have hl : (env2.set 13 (some (.val (.bl (alk W H A A'))))).length = 21 := by rw [List.length_set]; exact hl
  have st := fun {k : Nat} {v : D} (hk : k ≠ 13) (a : At env2 k v) => a.ne (j := 13) (x := some (.val (.bl (alk W H A A')))) (Ne.symm hk)
  have a1 := st (by omega) a1
  have a4 := st (by omega) a4
  have a7 := st (by omega) a7
  have a8 := st (by omega) a8
  have a9 := st (by omega) a9
  have a10 := st (by omega) a10
  clear st
  generalize env2.set 13 (some (.val (.bl (alk W H A A')))) = env3 at *
  have em2 := e_same (k := 1) (d := .tup [.bl (alk W H A A'), .bl (alk W H A A')]) (Sim.tup (by simp) fun d hd => by
    have : d = .bl (alk W H A A') := by simpa using hd
    rw [this]; exact Sim.bl) (n := n) (s := s6) (by omega)
  have x4 : exec (callF fs gs n) gs L5_9 env3 s4 = .ok (.nx env3) s6 := by
    unfold L5_9
    simp [a4, a7, a8, a9, a13, e5, e6, em2, borrows, isOwn]
  refine ⟨env3, s6, mk hl a1 a4 a7 a8 a9 a10 a13, (((((g1.trans g2).trans g3).trans g4).trans g5).trans g6).bx hb, fun rest => ?_⟩
  rw [execs_c, x0, nextF_nx, execs_c, x1, nextF_nx, execs_c, x2, nextF_nx, execs_c, x3, nextF_nx, execs_c, x4, nextF_nx]
/-- the told block -/
theorem t_told (P : PT W H ts) (hp : Pl W H ts ms) (hq : Pl W H ts ns) (K : Kq W H ts ms ns env) (hb : Bx s) (hn : 8 ≤ n) :
    ∃ env' s', Kq W H ts ms ns env' ∧ Bx s' ∧ ∀ rest, execs (callF fs gs n) gs (.c L5_10 (.c L5_11 (.c L5_12 rest))) env s = execs (callF fs gs n) gs rest env' s' := by
  obtain ⟨s1, g1, hh⟩ := e_parting (n := n) (s := s) P hp.ok hq.ok hp.nm hq.nm hp.len hq.len (by omega)
  rcases hh with ⟨e1, hd⟩ | ⟨x, y, hi, hd, e1⟩
  · have ha : alk W H (trP W H ts ms) (trP W H ts ns) = true := alk_iff.mpr hd
    have K1 := K.set (k := 14) (x := some (.val .non)) (by omega)
    have a14 : At (env.set 14 (some (.val .non))) 14 .non := atS (by rw [K.len]; omega)
    have x0 : exec (callF fs gs n) gs L5_10 env s = .ok (.nx (env.set 14 (some (.val .non)))) s1 := by
      unfold L5_10
      simp [K.a4, K.a7, K.a8, K.a9, e1, borrows, isOwn]
    generalize env.set 14 (some (.val .non)) = env1 at *
    have a13 := K1.a13
    rw [ha] at a13
    have x1 : exec (callF fs gs n) gs L5_11 env1 s1 = .ok (.nx env1) s1 := by
      unfold L5_11
      simp [a14, a13, ne_bl]
    have x2 : exec (callF fs gs n) gs L5_12 env1 s1 = .ok (.nx env1) s1 := by
      unfold L5_12
      simp [a14]
    exact ⟨env1, s1, K1, g1.bx hb, fun rest => by rw [execs_c, x0, nextF_nx, execs_c, x1, nextF_nx, execs_c, x2, nextF_nx]⟩
  · have ha : alk W H (trP W H ts ms) (trP W H ts ns) = false := by
      cases q : alk W H (trP W H ts ms) (trP W H ts ns) with
      | false => rfl
      | true => exact absurd hd (alk_iff.mp q x y hi)
    have hr := spk_run P hp.ok hq.ok hi hd
    generalize spk (trP W H ts ms) (trP W H ts ns) x y = f at *
    have K1 := K.set (k := 14) (x := some (.val (bD W H f))) (by omega)
    have a14 : At (env.set 14 (some (.val (bD W H f)))) 14 (bD W H f) := atS (by rw [K.len]; omega)
    have x0 : exec (callF fs gs n) gs L5_10 env s = .ok (.nx (env.set 14 (some (.val (bD W H f))))) s1 := by
      unfold L5_10
      simp [K.a4, K.a7, K.a8, K.a9, e1, borrows, isOwn]
    generalize env.set 14 (some (.val (bD W H f))) = env1 at *
    have a13 := K1.a13
    rw [ha] at a13
    have i1 : isNonD (bD W H f) = false := rfl
    have i2 : isiD (bD W H f) .tup = some true := rfl
    have x1 : exec (callF fs gs n) gs L5_11 env1 s1 = .ok (.nx env1) s1 := by
      unfold L5_11
      simp [a14, a13, ne_bl, i1, i2]
    have r1 := fun s => e_lrun (n := n) (s := s) (f := f) P hp.ok hp.len (by omega)
    have r2 := fun s => e_lrun (n := n) (s := s) (f := f) P hq.ok hq.len (by omega)
    obtain ⟨s2, e3, g3⟩ := e_parts (n := n) (s := s1) (f := f) P hp.ok hq.ok hp.len hq.len (by omega)
    have q := eq_oB (W := W) (H := H) (a := lfP W H ts ms f) (b := lfP W H ts ns f)
    rw [hr] at q e3
    have d1 := fun s => deref_oB (s := s) (W := W) (H := H) (a := lfP W H ts ms f)
    have d2 := fun s => deref_oB (s := s) (W := W) (H := H) (a := lfP W H ts ns f)
    generalize oB W H (lfP W H ts ms f) = V at *
    generalize oB W H (lfP W H ts ns f) = V2 at *
    have x2 : exec (callF fs gs n) gs L5_12 env1 s1 = .ok (.nx env1) s2 := by
      unfold L5_12
      simp [a14, K1.a4, K1.a8, K1.a9, i1, r1, r2, q, e3, d1, d2, borrows, isOwn]
    exact ⟨env1, s2, K1, (g1.trans g3).bx hb, fun rest => by rw [execs_c, x0, nextF_nx, execs_c, x1, nextF_nx, execs_c, x2, nextF_nx]⟩
def Inv (env : Env) (s : Sto) : Prop := env.length = 21 ∧ At env 1 (.loc 1) ∧ Bx s
theorem turn_ok {j : Int} (hI : Inv env s) (hn : 8 ≤ n) : ∃ env' s', stepF (callF fs gs n) gs (.nm 6) L5_B (.int j) env s = .ok (.nx env') s' ∧ Inv env' s' := by
  obtain ⟨hl, h1, hb⟩ := hI
  have eb : stepF (callF fs gs n) gs (.nm 6) L5_B (.int j) env s = execs (callF fs gs n) gs L5_B (env.set 6 (some (.val (.int j)))) s := by
    unfold stepF; rw [bindT_nm]
  rw [eb]
  have hl : (env.set 6 (some (.val (.int j)))).length = 21 := by rw [List.length_set]; exact hl
  have h1 := h1.ne (j := 6) (x := some (.val (.int j))) (by omega)
  generalize env.set 6 (some (.val (.int j))) = env0 at *
  obtain ⟨W, H, ts, ms, ns, env1, s1, P, hne, pm, pn, ⟨l1, a1, a4, a7, a8, a9⟩, b1, x1⟩ := t_draw (n := n) (j := 0) hl h1 hb hn
  obtain ⟨env2, s2, K2, b2, x2⟩ := t_traces (n := n) P pm pn l1 a1 a4 a7 a8 a9 b1 hn
  obtain ⟨env3, s3, K3, b3, x3⟩ := t_told (n := n) P pm pn K2 b2 hn
  unfold L5_B
  rw [x1, x2, x3]
  have r4 := rng1_ir (j := 4) (by omega)
  have e3 : evI (callF fs gs n) gs false (.rg1 (.int 4)) env3 s3 = .ok ((ir 0 4).map D.int) s3 := by simp [r4]
  have e4 : frzI env3 (.rg1 (.int 4)) = env3 := rfl
  obtain ⟨env4, s4, e5, K4, b4⟩ := loop_mem (f := stepF (callF fs gs n) gs (.nm 15) L5_13_B) (mk := D.int) (I := fun env s => Kq W H ts ms ns env ∧ Bx s) (xs := ir 0 4) (env := env3) (s := s3) ⟨K3, b3⟩ (fun j _ env s hI => by
    obtain ⟨env', s', e, K', b'⟩ := step_ok (n := n) (j := j) P pm pn hI.1 hI.2 hn
    exact ⟨env', s', e, K', b'⟩)
  refine ⟨env4, s4, ?_, K4.len, K4.a1, b4⟩
  unfold L5_13
  rw [execs_c, exec_for, e4, e3, ok_bind, e5, nextF_nx, execs_nil]
end
end PV.K81
set_option maxRecDepth 100000
set_option maxHeartbeats 4000000
namespace PV.K81
open PySem PV
/-! ### the known plan -/
def kF : Tool := ("fine", 1, 4, 0)
def kT : List Tool := [kF]
def kM : List Mv := [.tool "fine", .way false (0, 0, 9), .way false (1, 0, 9), .way false (2, 0, 9), .way true (2, 0, 12)]
def kN : List Mv := [.tool "fine", .way false (0, 0, 9), .way false (1, 0, 9)]
def k12 : F2 := fun _ _ => 12
def k9 : F2 := fun _ _ => 9
def kB : F2 := fun a _ => if a = 0 then 12 else if a = 1 then 3 else 10
def kL : F2 := fun a _ => if a = 0 then 9 else if a = 1 then 3 else 9
theorem kBOk : BOk 3 1 := ⟨by omega, by omega⟩
theorem kLT : ∀ t ∈ kT, LT 3 1 t := fun t ht => by
  have : t = kF := by simpa [kT] using ht
  subst this
  exact ⟨⟨by decide, by decide, by decide⟩, by decide, by decide⟩
theorem kPT : PT 3 1 kT := ⟨⟨kBOk, fun t ht => (kLT t ht).ok, fun t ht => by
  have : t = kF := by simpa [kT] using ht
  subst this
  unfold NmP
  decide +kernel, by decide, fun t ht => by
  have : t = kF := by simpa [kT] using ht
  subst this
  decide +kernel⟩, kLT⟩
theorem kFind : (kT.find? fun t => t.1 = ("fine" : Str)) = some kF := by decide +kernel
theorem kPl : Pl 3 1 kT kM := by
  refine ⟨?_, ?_, by decide⟩
  · refine ⟨⟨kF, List.mem_singleton.mpr rfl, rfl⟩, ?_⟩
    rw [kFind]
    refine ⟨?_, ?_, ?_, ?_, trivial⟩ <;> (unfold fit; decide +kernel)
  · intro x hx
    have : x = "fine" := by simpa [kM] using hx
    subst this
    unfold NmP; decide +kernel
theorem kPlN : Pl 3 1 kT kN := by
  refine ⟨?_, ?_, by decide⟩
  · refine ⟨⟨kF, List.mem_singleton.mpr rfl, rfl⟩, ?_⟩
    rw [kFind]
    refine ⟨?_, ?_, trivial⟩ <;> (unfold fit; decide +kernel)
  · intro x hx
    have : x = "fine" := by simpa [kN] using hx
    subst this
    unfold NmP; decide +kernel
theorem n3 {P : Int → Int → Prop} (h0 : P 0 0) (h1 : P 1 0) (h2 : P 2 0) : ∀ a b : Nat, a < 3 → b < 1 → P a b := fun a b ha hb => by
  obtain rfl : b = 0 := by omega
  rcases (by omega : a = 0 ∨ a = 1 ∨ a = 2) with rfl | rfl | rfl
  · exact h0
  · exact h1
  · exact h2
theorem kTr1 : bD 3 1 (trP 3 1 kT kM).1 = bD 3 1 k12 := bD_cg (n3 (P := fun a b => (trP 3 1 kT kM).1 a b = k12 a b) (by decide +kernel) (by decide +kernel) (by decide +kernel))
theorem kTr2 : bD 3 1 (trP 3 1 kT kM).2 = bD 3 1 k9 := bD_cg (n3 (P := fun a b => (trP 3 1 kT kM).2 a b = k9 a b) (by decide +kernel) (by decide +kernel) (by decide +kernel))
theorem kLs : bD 3 1 (lsF kB k9) = bD 3 1 kL := bD_cg (n3 (P := fun a b => lsF kB k9 a b = kL a b) (by decide +kernel) (by decide +kernel) (by decide +kernel))
theorem kAl : alk 3 1 (trP 3 1 kT kM) (trP 3 1 kT kN) = false := by decide +kernel
theorem kLe : leB 3 1 kB k12 = true := by decide +kernel
def kTD : D := .tup [.tup [.str "fine", .int 1, .int 4, .int 0]]
def kMD : D := .tup [.tup [.str "tool", .str "fine"], .tup [.str "cut", .tup [.int 0, .int 0, .int 9]], .tup [.str "cut", .tup [.int 1, .int 0, .int 9]], .tup [.str "cut", .tup [.int 2, .int 0, .int 9]], .tup [.str "fast", .tup [.int 2, .int 0, .int 12]]]
def kRD : D := .tup [.tup [.tup [.int 12, .int 12, .int 12]], .tup [.tup [.int 9, .int 9, .int 9]]]
theorem kTDe : kTD = .tup (kT.map toolD) := rfl
theorem kMDe : kMD = .tup (kM.map mvD) := rfl
theorem kRDe : kRD = .tup [bD 3 1 k12, bD 3 1 k9] := rfl
theorem kSl : slcD kMD none (some 3) = some (.tup (kN.map mvD)) := rfl
section
variable {s : Sto}
theorem core (ns : List Int) (hl : ns.length ≤ 63) : ∃ st, callF fs gs 16 46 [.rol (ns.map D.int)] [] = .ok (.bl true) st := by
  obtain ⟨s0, e0, b0⟩ := e_box (n := 15) (ns := ns) (by omega)
  rw [call_at (f := c_law) rfl rfl, law_body]
  have es : startE c_law.N.length [.rol (ns.map D.int)] = some (SV.val (.rol (ns.map D.int))) :: List.replicate 20 none := rfl
  rw [es]
  have a0 : exec (callF fs gs 15) gs L0 (some (SV.val (.rol (ns.map D.int))) :: List.replicate 20 none) [] = .ok (.nx ((some (SV.val (.rol (ns.map D.int))) :: List.replicate 20 none).set 1 (some (.val (.loc 1))))) s0 := by
    simp [L0, e0, borrows, isOwn]
  unfold LB
  rw [execs_c, a0, nextF_nx]
  have hle : ((some (SV.val (.rol (ns.map D.int))) :: List.replicate 20 none).set 1 (some (.val (.loc 1)))).length = 21 := by simp
  have h1 : At ((some (SV.val (.rol (ns.map D.int))) :: List.replicate 20 none).set 1 (some (.val (.loc 1)))) 1 (.loc 1) := atS (by simp)
  generalize (some (SV.val (.rol (ns.map D.int))) :: List.replicate 20 none).set 1 (some (.val (.loc 1))) = env at *
  have a1 : exec (callF fs gs 15) gs L1 env s0 = .ok (.nx ((env.set 2 (some (.val kTD))).set 3 (some (.val (.tup [.int 3, .int 1]))))) s0 := by
    simp [L1, kTD]
  rw [execs_c, a1, nextF_nx]
  have h2 : At ((env.set 2 (some (.val kTD))).set 3 (some (.val (.tup [.int 3, .int 1])))) 2 kTD := (atS (by omega)).ne (by decide)
  have h3 : At ((env.set 2 (some (.val kTD))).set 3 (some (.val (.tup [.int 3, .int 1])))) 3 (.tup [.int 3, .int 1]) := atS (by rw [List.length_set]; omega)
  have h1 : At ((env.set 2 (some (.val kTD))).set 3 (some (.val (.tup [.int 3, .int 1])))) 1 (.loc 1) := (h1.ne (by decide)).ne (by decide)
  have hle : ((env.set 2 (some (.val kTD))).set 3 (some (.val (.tup [.int 3, .int 1])))).length = 21 := by rw [List.length_set, List.length_set]; exact hle
  generalize (env.set 2 (some (.val kTD))).set 3 (some (.val (.tup [.int 3, .int 1]))) = env at *
  have a2 : exec (callF fs gs 15) gs L2 env s0 = .ok (.nx (env.set 4 (some (.val kMD)))) s0 := by
    simp [L2, kMD]
  rw [execs_c, a2, nextF_nx]
  have h4 : At (env.set 4 (some (.val kMD))) 4 kMD := atS (by omega)
  have h3 := h3.ne (j := 4) (x := some (.val kMD)) (by decide)
  have h2 := h2.ne (j := 4) (x := some (.val kMD)) (by decide)
  have h1 := h1.ne (j := 4) (x := some (.val kMD)) (by decide)
  have hle : (env.set 4 (some (.val kMD))).length = 21 := by rw [List.length_set]; exact hle
  generalize env.set 4 (some (.val kMD)) = env at *
  have a3 : exec (callF fs gs 15) gs L3 env s0 = .ok (.nx (env.set 5 (some (.val kRD)))) s0 := by
    simp [L3, kRD]
  rw [execs_c, a3, nextF_nx]
  have h5 : At (env.set 5 (some (.val kRD))) 5 kRD := atS (by omega)
  have h4 := h4.ne (j := 5) (x := some (.val kRD)) (by decide)
  have h3 := h3.ne (j := 5) (x := some (.val kRD)) (by decide)
  have h2 := h2.ne (j := 5) (x := some (.val kRD)) (by decide)
  have h1 := h1.ne (j := 5) (x := some (.val kRD)) (by decide)
  have hle : (env.set 5 (some (.val kRD))).length = 21 := by rw [List.length_set]; exact hle
  generalize env.set 5 (some (.val kRD)) = env at *
  obtain ⟨s1, e1, g1⟩ := e_trace (n := 15) (s := s0) kPT kPl.ok kPl.nm kPl.len (by omega)
  have e2 := fun s => e_left_by (n := 15) (s := s) (f := kB) (m := k12) (d := k9) kBOk (by omega)
  obtain ⟨s3, e3, g3⟩ := e_alike (n := 15) (s := s1) kPT kPl.ok kPlN.ok kPl.nm kPlN.nm kPl.len kPlN.len (by omega)
  rw [kTr1, kTr2, ← kRDe, ← kTDe, ← kMDe] at e1
  rw [if_pos kLe, kLs, ← kRDe] at e2
  rw [kAl, ← kTDe, ← kMDe] at e3
  have e1 : callF fs gs 15 19 [.tup [.int 3, .int 1], kTD, kMD] s0 = .ok kRD s1 := e1
  have e2 : ∀ s, callF fs gs 15 20 [kRD, .tup [.tup [.int 12, .int 3, .int 10]]] s = .ok (.tup [.tup [.int 9, .int 3, .int 9]]) s := e2
  have e3 : callF fs gs 15 21 [.tup [.int 3, .int 1], kTD, kMD, .tup (kN.map mvD)] s1 = .ok (.bl false) s3 := e3
  have r3 : ∀ {a b c : Int}, Sim 3 (.tup [.tup [.int a, .int b, .int c]]) := Sim.tup (by simp) fun d hd => by
    rw [List.mem_singleton.mp hd]
    exact Sim.tup (by simp) fun d hd => by
      simp only [List.mem_cons, List.not_mem_nil, or_false] at hd
      rcases hd with rfl | rfl | rfl <;> exact Sim.int
  have r2 : ∀ {a b c : Int}, Sim 2 (.tup [.tup [.int a, .int b, .int c]]) := Sim.tup (by simp) fun d hd => by
    rw [List.mem_singleton.mp hd]
    exact Sim.tup (by simp) fun d hd => by
      simp only [List.mem_cons, List.not_mem_nil, or_false] at hd
      rcases hd with rfl | rfl | rfl <;> exact Sim.int
  have em := e_same (n := 15) (s := s3) (k := 4) (d := .tup [kRD, .tup [.tup [.int 9, .int 3, .int 9]], .bl false]) (Sim.tup (by simp) fun d hd => by
    simp only [List.mem_cons, List.not_mem_nil, or_false] at hd
    rcases hd with rfl | rfl | rfl
    · exact Sim.tup (by simp) fun d hd => by
        simp only [List.mem_cons, List.not_mem_nil, or_false] at hd
        rcases hd with rfl | rfl <;> exact r2
    · exact r3
    · exact Sim.bl) (by omega)
  have dM : ∀ s : Sto, deref s kMD = kMD := fun _ => rfl
  have sl := kSl
  generalize D.tup (kN.map mvD) = kND at *
  generalize kMD = KM at *
  generalize kTD = KT at *
  generalize kRD = KR at *
  have a4 : exec (callF fs gs 15) gs L4 env s0 = .ok (.nx env) s3 := by
    unfold L4
    simp [h2, h3, h4, h5, e1, e2, e3, sl, dM, em, borrows, isOwn]
  rw [execs_c, a4, nextF_nx]
  obtain ⟨env', s9, e9, _⟩ := loop_mem (f := stepF (callF fs gs 15) gs (.nm 6) L5_B) (mk := D.int) (I := Inv) (xs := ir 0 3) (env := env) (s := s3) ⟨hle, h1, (g1.trans g3).bx b0⟩ (fun j _ env s hI => turn_ok (n := 15) hI (by omega))
  have e10 : evI (callF fs gs 15) gs false (.rg1 (.int 3)) env s3 = .ok ((ir 0 3).map D.int) s3 := by simp [rng1_ir (j := 3) (by omega)]
  have e11 : frzI env (.rg1 (.int 3)) = env := rfl
  unfold L5
  rw [execs_c, exec_for, e11, e10, ok_bind, e9, nextF_nx]
  refine ⟨s9, ?_⟩
  unfold L6
  simp [frzR]
end
end PV.K81
set_option maxRecDepth 100000
set_option maxHeartbeats 0
namespace PV.K81
open PySem PySem.Spec PyProof.Rows L2 PV
/-! ### the text, the head -/
def top (i : Nat) : Stmt := PySem.Challenge.pw_pathsmilled_k81_whole_plans_alike.main.body.getD i (.Pass ⟨0, 0, 0, 0⟩)
def clsB : Stmt → List Stmt
  | .ClassDef _ _ _ b _ _ _ _ _ _ _ => b
  | _ => []
def topM (i j : Nat) : Stmt := (clsB (top i)).getD j (.Pass ⟨0, 0, 0, 0⟩)
def pd (x : Str) (i : Nat) (f : Fn) : PD := ⟨(x, none), x, x, defArgs (top i), defBody (top i), defScope (top i), f⟩
def pm (c x q : Str) (i j : Nat) (f : Fn) : PD := ⟨(c, some x), x, q, defArgs (topM i j), defBody (topM i j), defScope (topM i j), f⟩
def dd (x : Str) (i : Nat) : He.DefD := ⟨(x, none), x, x, defArgs (top i), defBody (top i), defScope (top i), [], []⟩
def dm (c x q : Str) (i j : Nat) : He.DefD := ⟨(c, some x), x, q, defArgs (topM i j), defBody (topM i j), defScope (topM i j), [], []⟩
def ds : List PD := [pd "_wall" 0 c__wall, pd "is_number" 6 c_is_number, pd "size_of" 9 c_size_of, pd "level_block" 10 c_level_block, pd "is_below" 11 c_is_below, pd "least_of" 12 c_least_of, pd "tool_named" 14 c_tool_named, pd "is_place" 15 c_is_place, pd "fields_beneath" 16 c_fields_beneath, pd "fields_about" 17 c_fields_about] ++ [pd "greatest_at" 18 c_greatest_at, pd "is_free" 19 c_is_free, pd "is_shank_free" 20 c_is_shank_free, pd "cut_at" 21 c_cut_at, pd "unit_steps" 25 c_unit_steps, pd "block_behind" 27 c_block_behind, pd "ways_of" 30 c_ways_of, pd "steps_told" 31 c_steps_told, pd "lowered_where" 33 c_lowered_where, pd "trace_of" 34 c_trace_of] ++ [pd "left_by" 35 c_left_by, pd "are_alike" 36 c_are_alike, pd "left_or_none" 37 c_left_or_none, pd "parts_on" 38 c_parts_on, pd "parting_block" 39 c_parting_block, pd "_law_box" 41 c__law_box, pd "_law_load" 42 c__law_load, pd "_law_draw" 43 c__law_draw, pd "_law_same" 44 c__law_same, pd "_law_flat" 45 c__law_flat] ++ [pd "_law_size" 46 c__law_size, pd "_law_heights" 47 c__law_heights, pd "_law_tools" 48 c__law_tools, pd "_law_beneath" 49 c__law_beneath, pd "_law_about" 50 c__law_about, pd "_law_most" 51 c__law_most, pd "_law_cut" 52 c__law_cut, pd "_law_ways" 53 c__law_ways, pd "_law_steps" 54 c__law_steps, pd "_law_run" 55 c__law_run] ++ [pd "_law_plan" 56 c__law_plan, pd "_law_left" 57 c__law_left, pd "_law_trace" 58 c__law_trace, pd "_law_told" 59 c__law_told, pd "_law_bent" 60 c__law_bent, pd "_law_fits" 61 c__law_fits, pd "law" 62 c_law, pm "Mill" "__init__" "Mill.__init__" 26 0 c_Mill_init, pm "Mill" "block" "Mill.block" 26 1 c_Mill_block, pm "Mill" "tool" "Mill.tool" 26 2 c_Mill_tool] ++ [pm "Mill" "place" "Mill.place" 26 3 c_Mill_place, pm "Mill" "steps" "Mill.steps" 26 4 c_Mill_steps, pm "Mill" "take" "Mill.take" 26 5 c_Mill_take, pm "Mill" "step" "Mill.step" 26 6 c_Mill_step, pm "Mill" "do" "Mill.do" 26 7 c_Mill_do]
def nf : Nat := 47
def gn : List Str := ["HIGHEST", "FAST", "TOOL", "FIRST_PLACE"]
def fr : List Str := (["ValueError", "all", "any", "bool", "enumerate", "int", "isinstance", "len", "list", "max", "min", "range", "str", "super", "tuple", "zip"] : List Str)
def mx : MX := ⟨[("Mill", "block", 48, 0), ("Mill", "tool", 49, 0), ("Mill", "place", 50, 0), ("Mill", "steps", 51, 0), ("Mill", "take", 52, 1), ("Mill", "step", 53, 2), ("Mill", "do", 54, 1)], [("Mill", 47, 2)], [("Mill", "_block"), ("Mill", "_place"), ("Mill", "_size"), ("Mill", "_step"), ("Mill", "_tool"), ("Mill", "_tools")], ["Strike"]⟩
def fn : List He.DefD := [dd "_wall" 0, dd "is_number" 6, dd "size_of" 9, dd "level_block" 10, dd "is_below" 11, dd "least_of" 12, dd "tool_named" 14, dd "is_place" 15, dd "fields_beneath" 16, dd "fields_about" 17] ++ [dd "greatest_at" 18, dd "is_free" 19, dd "is_shank_free" 20, dd "cut_at" 21, dd "unit_steps" 25, dd "block_behind" 27, dd "ways_of" 30, dd "steps_told" 31, dd "lowered_where" 33, dd "trace_of" 34] ++ [dd "left_by" 35, dd "are_alike" 36, dd "left_or_none" 37, dd "parts_on" 38, dd "parting_block" 39, dd "_law_box" 41, dd "_law_load" 42, dd "_law_draw" 43, dd "_law_same" 44, dd "_law_flat" 45] ++ [dd "_law_size" 46, dd "_law_heights" 47, dd "_law_tools" 48, dd "_law_beneath" 49, dd "_law_about" 50, dd "_law_most" 51, dd "_law_cut" 52, dd "_law_ways" 53, dd "_law_steps" 54, dd "_law_run" 55] ++ [dd "_law_plan" 56, dd "_law_left" 57, dd "_law_trace" 58, dd "_law_told" 59, dd "_law_bent" 60, dd "_law_fits" 61, dd "law" 62, dm "Mill" "__init__" "Mill.__init__" 26 0, dm "Mill" "block" "Mill.block" 26 1, dm "Mill" "tool" "Mill.tool" 26 2] ++ [dm "Mill" "place" "Mill.place" 26 3, dm "Mill" "steps" "Mill.steps" 26 4, dm "Mill" "take" "Mill.take" 26 5, dm "Mill" "step" "Mill.step" 26 6, dm "Mill" "do" "Mill.do" 26 7]
def fa : List He.Fa := [.glo "_wall", .glo "is_number", .glo "size_of", .glo "level_block", .glo "is_below", .glo "least_of", .glo "tool_named", .glo "is_place", .glo "fields_beneath", .glo "fields_about", .glo "greatest_at", .glo "is_free", .glo "is_shank_free", .glo "cut_at", .glo "unit_steps", .glo "block_behind", .glo "ways_of", .glo "steps_told", .glo "lowered_where", .glo "trace_of", .glo "left_by", .glo "are_alike", .glo "left_or_none", .glo "parts_on", .glo "parting_block", .glo "_law_box", .glo "_law_load", .glo "_law_draw", .glo "_law_same", .glo "_law_flat"] ++ [.glo "_law_size", .glo "_law_heights", .glo "_law_tools", .glo "_law_beneath", .glo "_law_about", .glo "_law_most", .glo "_law_cut", .glo "_law_ways", .glo "_law_steps", .glo "_law_run", .glo "_law_plan", .glo "_law_left", .glo "_law_trace", .glo "_law_told", .glo "_law_bent", .glo "_law_fits", .glo "law", .free "ValueError", .free "all", .free "any", .free "bool", .free "enumerate", .free "int", .free "isinstance", .free "len", .free "list", .free "max", .free "min", .free "range", .free "str"] ++ [.free "super", .free "tuple", .free "zip", .glo "Mill", .cls "Mill", .mkr "Mill", .meth "Mill" "block", .meth "Mill" "tool", .meth "Mill" "place", .meth "Mill" "steps", .meth "Mill" "take", .meth "Mill" "step", .meth "Mill" "do", .noat "Mill" "_block", .noat "Mill" "_place", .noat "Mill" "_size", .noat "Mill" "_step", .noat "Mill" "_tool", .noat "Mill" "_tools"]
def loose : List Str := (["_wall", "is_number", "size_of", "level_block", "is_below", "least_of", "tool_named", "is_place", "fields_beneath", "fields_about", "greatest_at", "is_free", "is_shank_free", "cut_at", "unit_steps", "block_behind", "ways_of", "steps_told", "lowered_where", "trace_of", "left_by", "are_alike", "left_or_none", "parts_on", "parting_block", "_law_box", "_law_load", "_law_draw", "_law_same", "_law_flat"] : List Str) ++ (["_law_size", "_law_heights", "_law_tools", "_law_beneath", "_law_about", "_law_most", "_law_cut", "_law_ways", "_law_steps", "_law_run", "_law_plan", "_law_left", "_law_trace", "_law_told", "_law_bent", "_law_fits", "HIGHEST", "FAST", "TOOL", "FIRST_PLACE", "MillError", "Strike", "NotAllowed", "Mill"] : List Str)
def okE (d : PD) : Bool := okD (sigs (ds.take nf)) gn fr mx d
theorem okAll : (ds.all okE) = true := by kernel_rfl
theorem fnsE : fns ds = fs := rfl
theorem b__wall : BindOk (pd "_wall" 0 c__wall) := fun _ _ _ _ _ _ us hl => match us, hl with | [_], _ => rfl
theorem b_is_number : BindOk (pd "is_number" 6 c_is_number) := fun _ _ _ _ _ _ us hl => match us, hl with | [_, _, _], _ => rfl
theorem b_size_of : BindOk (pd "size_of" 9 c_size_of) := fun _ _ _ _ _ _ us hl => match us, hl with | [_], _ => rfl
theorem b_level_block : BindOk (pd "level_block" 10 c_level_block) := fun _ _ _ _ _ _ us hl => match us, hl with | [_, _], _ => rfl
theorem b_is_below : BindOk (pd "is_below" 11 c_is_below) := fun _ _ _ _ _ _ us hl => match us, hl with | [_, _], _ => rfl
theorem b_least_of : BindOk (pd "least_of" 12 c_least_of) := fun _ _ _ _ _ _ us hl => match us, hl with | [_, _], _ => rfl
theorem b_tool_named : BindOk (pd "tool_named" 14 c_tool_named) := fun _ _ _ _ _ _ us hl => match us, hl with | [_, _], _ => rfl
theorem b_is_place : BindOk (pd "is_place" 15 c_is_place) := fun _ _ _ _ _ _ us hl => match us, hl with | [_, _, _], _ => rfl
theorem b_fields_beneath : BindOk (pd "fields_beneath" 16 c_fields_beneath) := fun _ _ _ _ _ _ us hl => match us, hl with | [_, _], _ => rfl
theorem b_fields_about : BindOk (pd "fields_about" 17 c_fields_about) := fun _ _ _ _ _ _ us hl => match us, hl with | [_, _, _], _ => rfl
theorem b_greatest_at : BindOk (pd "greatest_at" 18 c_greatest_at) := fun _ _ _ _ _ _ us hl => match us, hl with | [_, _], _ => rfl
theorem b_is_free : BindOk (pd "is_free" 19 c_is_free) := fun _ _ _ _ _ _ us hl => match us, hl with | [_, _, _], _ => rfl
theorem b_is_shank_free : BindOk (pd "is_shank_free" 20 c_is_shank_free) := fun _ _ _ _ _ _ us hl => match us, hl with | [_, _, _], _ => rfl
theorem b_cut_at : BindOk (pd "cut_at" 21 c_cut_at) := fun _ _ _ _ _ _ us hl => match us, hl with | [_, _, _], _ => rfl
theorem b_unit_steps : BindOk (pd "unit_steps" 25 c_unit_steps) := fun _ _ _ _ _ _ us hl => match us, hl with | [_, _], _ => rfl
theorem b_block_behind : BindOk (pd "block_behind" 27 c_block_behind) := fun _ _ _ _ _ _ us hl => match us, hl with | [_, _, _], _ => rfl
theorem b_ways_of : BindOk (pd "ways_of" 30 c_ways_of) := fun _ _ _ _ _ _ us hl => match us, hl with | [_, _], _ => rfl
theorem b_steps_told : BindOk (pd "steps_told" 31 c_steps_told) := fun _ _ _ _ _ _ us hl => match us, hl with | [_, _], _ => rfl
theorem b_lowered_where : BindOk (pd "lowered_where" 33 c_lowered_where) := fun _ _ _ _ _ _ us hl => match us, hl with | [_, _, _, _], _ => rfl
theorem b_trace_of : BindOk (pd "trace_of" 34 c_trace_of) := fun _ _ _ _ _ _ us hl => match us, hl with | [_, _, _], _ => rfl
theorem b_left_by : BindOk (pd "left_by" 35 c_left_by) := fun _ _ _ _ _ _ us hl => match us, hl with | [_, _], _ => rfl
theorem b_are_alike : BindOk (pd "are_alike" 36 c_are_alike) := fun _ _ _ _ _ _ us hl => match us, hl with | [_, _, _, _], _ => rfl
theorem b_left_or_none : BindOk (pd "left_or_none" 37 c_left_or_none) := fun _ _ _ _ _ _ us hl => match us, hl with | [_, _, _], _ => rfl
theorem b_parts_on : BindOk (pd "parts_on" 38 c_parts_on) := fun _ _ _ _ _ _ us hl => match us, hl with | [_, _, _, _], _ => rfl
theorem b_parting_block : BindOk (pd "parting_block" 39 c_parting_block) := fun _ _ _ _ _ _ us hl => match us, hl with | [_, _, _, _], _ => rfl
theorem b__law_box : BindOk (pd "_law_box" 41 c__law_box) := fun _ _ _ _ _ _ us hl => match us, hl with | [_], _ => rfl
theorem b__law_load : BindOk (pd "_law_load" 42 c__law_load) := fun _ _ _ _ _ _ us hl => match us, hl with | [_], _ => rfl
theorem b__law_draw : BindOk (pd "_law_draw" 43 c__law_draw) := fun _ _ _ _ _ _ us hl => match us, hl with | [_, _], _ => rfl
theorem b__law_same : BindOk (pd "_law_same" 44 c__law_same) := fun _ _ _ _ _ _ us hl => match us, hl with | [_, _], _ => rfl
theorem b__law_flat : BindOk (pd "_law_flat" 45 c__law_flat) := fun _ _ _ _ _ _ us hl => match us, hl with | [_], _ => rfl
theorem b__law_size : BindOk (pd "_law_size" 46 c__law_size) := fun _ _ _ _ _ _ us hl => match us, hl with | [_, _], _ => rfl
theorem b__law_heights : BindOk (pd "_law_heights" 47 c__law_heights) := fun _ _ _ _ _ _ us hl => match us, hl with | [_, _, _], _ => rfl
theorem b__law_tools : BindOk (pd "_law_tools" 48 c__law_tools) := fun _ _ _ _ _ _ us hl => match us, hl with | [_, _], _ => rfl
theorem b__law_beneath : BindOk (pd "_law_beneath" 49 c__law_beneath) := fun _ _ _ _ _ _ us hl => match us, hl with | [_, _, _], _ => rfl
theorem b__law_about : BindOk (pd "_law_about" 50 c__law_about) := fun _ _ _ _ _ _ us hl => match us, hl with | [_, _, _, _], _ => rfl
theorem b__law_most : BindOk (pd "_law_most" 51 c__law_most) := fun _ _ _ _ _ _ us hl => match us, hl with | [_, _], _ => rfl
theorem b__law_cut : BindOk (pd "_law_cut" 52 c__law_cut) := fun _ _ _ _ _ _ us hl => match us, hl with | [_, _, _, _, _], _ => rfl
theorem b__law_ways : BindOk (pd "_law_ways" 53 c__law_ways) := fun _ _ _ _ _ _ us hl => match us, hl with | [_, _], _ => rfl
theorem b__law_steps : BindOk (pd "_law_steps" 54 c__law_steps) := fun _ _ _ _ _ _ us hl => match us, hl with | [_, _], _ => rfl
theorem b__law_run : BindOk (pd "_law_run" 55 c__law_run) := fun _ _ _ _ _ _ us hl => match us, hl with | [_, _, _], _ => rfl
theorem b__law_plan : BindOk (pd "_law_plan" 56 c__law_plan) := fun _ _ _ _ _ _ us hl => match us, hl with | [_, _, _, _], _ => rfl
theorem b__law_left : BindOk (pd "_law_left" 57 c__law_left) := fun _ _ _ _ _ _ us hl => match us, hl with | [_, _, _], _ => rfl
theorem b__law_trace : BindOk (pd "_law_trace" 58 c__law_trace) := fun _ _ _ _ _ _ us hl => match us, hl with | [_, _, _], _ => rfl
theorem b__law_told : BindOk (pd "_law_told" 59 c__law_told) := fun _ _ _ _ _ _ us hl => match us, hl with | [_, _], _ => rfl
theorem b__law_bent : BindOk (pd "_law_bent" 60 c__law_bent) := fun _ _ _ _ _ _ us hl => match us, hl with | [_, _, _, _], _ => rfl
theorem b__law_fits : BindOk (pd "_law_fits" 61 c__law_fits) := fun _ _ _ _ _ _ us hl => match us, hl with | [_, _, _], _ => rfl
theorem b_law : BindOk (pd "law" 62 c_law) := fun _ _ _ _ _ _ us hl => match us, hl with | [_], _ => rfl
theorem b_Mill_init : BindOk (pm "Mill" "__init__" "Mill.__init__" 26 0 c_Mill_init) := fun _ _ _ _ _ _ us hl => match us, hl with | [_, _, _], _ => rfl
theorem b_Mill_block : BindOk (pm "Mill" "block" "Mill.block" 26 1 c_Mill_block) := fun _ _ _ _ _ _ us hl => match us, hl with | [_], _ => rfl
theorem b_Mill_tool : BindOk (pm "Mill" "tool" "Mill.tool" 26 2 c_Mill_tool) := fun _ _ _ _ _ _ us hl => match us, hl with | [_], _ => rfl
theorem b_Mill_place : BindOk (pm "Mill" "place" "Mill.place" 26 3 c_Mill_place) := fun _ _ _ _ _ _ us hl => match us, hl with | [_], _ => rfl
theorem b_Mill_steps : BindOk (pm "Mill" "steps" "Mill.steps" 26 4 c_Mill_steps) := fun _ _ _ _ _ _ us hl => match us, hl with | [_], _ => rfl
theorem b_Mill_take : BindOk (pm "Mill" "take" "Mill.take" 26 5 c_Mill_take) := fun _ _ _ _ _ _ us hl => match us, hl with | [_, _], _ => rfl
theorem b_Mill_step : BindOk (pm "Mill" "step" "Mill.step" 26 6 c_Mill_step) := fun _ _ _ _ _ _ us hl => match us, hl with | [_, _, _], _ => rfl
theorem b_Mill_do : BindOk (pm "Mill" "do" "Mill.do" 26 7 c_Mill_do) := fun _ _ _ _ _ _ us hl => match us, hl with | [_, _], _ => rfl
theorem bindAll : ∀ d ∈ ds, BindOk d := by
  intro d hd
  have e : ∃ i, ds[i]? = some d := List.getElem?_of_mem hd
  obtain ⟨i, e⟩ := e
  match i, e with
  | 0, e => cases e; exact b__wall
  | 1, e => cases e; exact b_is_number
  | 2, e => cases e; exact b_size_of
  | 3, e => cases e; exact b_level_block
  | 4, e => cases e; exact b_is_below
  | 5, e => cases e; exact b_least_of
  | 6, e => cases e; exact b_tool_named
  | 7, e => cases e; exact b_is_place
  | 8, e => cases e; exact b_fields_beneath
  | 9, e => cases e; exact b_fields_about
  | 10, e => cases e; exact b_greatest_at
  | 11, e => cases e; exact b_is_free
  | 12, e => cases e; exact b_is_shank_free
  | 13, e => cases e; exact b_cut_at
  | 14, e => cases e; exact b_unit_steps
  | 15, e => cases e; exact b_block_behind
  | 16, e => cases e; exact b_ways_of
  | 17, e => cases e; exact b_steps_told
  | 18, e => cases e; exact b_lowered_where
  | 19, e => cases e; exact b_trace_of
  | 20, e => cases e; exact b_left_by
  | 21, e => cases e; exact b_are_alike
  | 22, e => cases e; exact b_left_or_none
  | 23, e => cases e; exact b_parts_on
  | 24, e => cases e; exact b_parting_block
  | 25, e => cases e; exact b__law_box
  | 26, e => cases e; exact b__law_load
  | 27, e => cases e; exact b__law_draw
  | 28, e => cases e; exact b__law_same
  | 29, e => cases e; exact b__law_flat
  | 30, e => cases e; exact b__law_size
  | 31, e => cases e; exact b__law_heights
  | 32, e => cases e; exact b__law_tools
  | 33, e => cases e; exact b__law_beneath
  | 34, e => cases e; exact b__law_about
  | 35, e => cases e; exact b__law_most
  | 36, e => cases e; exact b__law_cut
  | 37, e => cases e; exact b__law_ways
  | 38, e => cases e; exact b__law_steps
  | 39, e => cases e; exact b__law_run
  | 40, e => cases e; exact b__law_plan
  | 41, e => cases e; exact b__law_left
  | 42, e => cases e; exact b__law_trace
  | 43, e => cases e; exact b__law_told
  | 44, e => cases e; exact b__law_bent
  | 45, e => cases e; exact b__law_fits
  | 46, e => cases e; exact b_law
  | 47, e => cases e; exact b_Mill_init
  | 48, e => cases e; exact b_Mill_block
  | 49, e => cases e; exact b_Mill_tool
  | 50, e => cases e; exact b_Mill_place
  | 51, e => cases e; exact b_Mill_steps
  | 52, e => cases e; exact b_Mill_take
  | 53, e => cases e; exact b_Mill_step
  | 54, e => cases e; exact b_Mill_do
  | i + 55, e => cases e
abbrev R : PySem.W.OpenRow := PySem.W.OpenLaw.row PySem.Challenge.rw_pathsmilled_k81_whole_plans_alike
abbrev PP : Program := (PySem.Challenge.rw_pathsmilled_k81_whole_plans_alike).prog
def xds : List XD := [⟨"Strike", "Strike.__init__", topM 3 0⟩]
def exK (K : PySem.W.Frag) : Bool := glsB K gn gs && xds.all (excB PP.main.file K)
abbrev hk : PySem.W.Hook := hookX 5 fa fn xds exK
def ob (s : PySem.W.SharedT) : AlX := obsX 5 fa fn xds exK (HandSHeadRun.getT s)
theorem ob_eq (s : PySem.W.SharedT) : ob s = hk.obs s.abs := obsX_eq (HandSHeadRun.getT_eq s)
theorem xs_Strike : XS PP ⟨"Strike", "Strike.__init__", topM 3 0⟩ := ⟨by kernel_rfl, by kernel_rfl, by kernel_rfl, by kernel_rfl, ⟨_, _, _, _, _, _, _, _, _, _, _, _, _, _, _, _, rfl, by decide +kernel, by decide +kernel⟩, fun _ _ _ _ _ _ us hl => match us, hl with | [_, _], _ => rfl, by kernel_rfl⟩
theorem hrun (w : World) : HandSHeadRun.RunEq R (PySem.W.view R.prog [62]) hk ob 20000 loose w := by
  intro os
  kernel_rfl
def LV : Nat := 16
def LI : Nat := 46
theorem prog {w : World} {K : PySem.W.Frag} {h : Heap} {mg : Str → Option Value} {base : Heap} (X : K.In h) (G : h.Ns mainGlobals mg) (c : He.SaysD fa fn K) (ce : exK K = true) (cx : xds.map (xObs K) = xds.map XD.val) : ProgOk PP w K mg base ds nf gs gn fr mx := by
  refine ⟨fun i d hi => ?_, fun i d hl hi => ?_, bindAll, fun d hd => List.all_eq_true.mp okAll d hd, glsB_ok X G (He.ba ce).1, fun x hx => ?_, fun x f k n hm => ?_, fun x k n hm => ?_, fun x f hm => ?_, fun x hm => ?_, by decide⟩
  · match i, hi with
    | 0, hi => cases hi; exact c.def_ 0 (d := dd "_wall" 0) rfl
    | 1, hi => cases hi; exact c.def_ 1 (d := dd "is_number" 6) rfl
    | 2, hi => cases hi; exact c.def_ 2 (d := dd "size_of" 9) rfl
    | 3, hi => cases hi; exact c.def_ 3 (d := dd "level_block" 10) rfl
    | 4, hi => cases hi; exact c.def_ 4 (d := dd "is_below" 11) rfl
    | 5, hi => cases hi; exact c.def_ 5 (d := dd "least_of" 12) rfl
    | 6, hi => cases hi; exact c.def_ 6 (d := dd "tool_named" 14) rfl
    | 7, hi => cases hi; exact c.def_ 7 (d := dd "is_place" 15) rfl
    | 8, hi => cases hi; exact c.def_ 8 (d := dd "fields_beneath" 16) rfl
    | 9, hi => cases hi; exact c.def_ 9 (d := dd "fields_about" 17) rfl
    | 10, hi => cases hi; exact c.def_ 10 (d := dd "greatest_at" 18) rfl
    | 11, hi => cases hi; exact c.def_ 11 (d := dd "is_free" 19) rfl
    | 12, hi => cases hi; exact c.def_ 12 (d := dd "is_shank_free" 20) rfl
    | 13, hi => cases hi; exact c.def_ 13 (d := dd "cut_at" 21) rfl
    | 14, hi => cases hi; exact c.def_ 14 (d := dd "unit_steps" 25) rfl
    | 15, hi => cases hi; exact c.def_ 15 (d := dd "block_behind" 27) rfl
    | 16, hi => cases hi; exact c.def_ 16 (d := dd "ways_of" 30) rfl
    | 17, hi => cases hi; exact c.def_ 17 (d := dd "steps_told" 31) rfl
    | 18, hi => cases hi; exact c.def_ 18 (d := dd "lowered_where" 33) rfl
    | 19, hi => cases hi; exact c.def_ 19 (d := dd "trace_of" 34) rfl
    | 20, hi => cases hi; exact c.def_ 20 (d := dd "left_by" 35) rfl
    | 21, hi => cases hi; exact c.def_ 21 (d := dd "are_alike" 36) rfl
    | 22, hi => cases hi; exact c.def_ 22 (d := dd "left_or_none" 37) rfl
    | 23, hi => cases hi; exact c.def_ 23 (d := dd "parts_on" 38) rfl
    | 24, hi => cases hi; exact c.def_ 24 (d := dd "parting_block" 39) rfl
    | 25, hi => cases hi; exact c.def_ 25 (d := dd "_law_box" 41) rfl
    | 26, hi => cases hi; exact c.def_ 26 (d := dd "_law_load" 42) rfl
    | 27, hi => cases hi; exact c.def_ 27 (d := dd "_law_draw" 43) rfl
    | 28, hi => cases hi; exact c.def_ 28 (d := dd "_law_same" 44) rfl
    | 29, hi => cases hi; exact c.def_ 29 (d := dd "_law_flat" 45) rfl
    | 30, hi => cases hi; exact c.def_ 30 (d := dd "_law_size" 46) rfl
    | 31, hi => cases hi; exact c.def_ 31 (d := dd "_law_heights" 47) rfl
    | 32, hi => cases hi; exact c.def_ 32 (d := dd "_law_tools" 48) rfl
    | 33, hi => cases hi; exact c.def_ 33 (d := dd "_law_beneath" 49) rfl
    | 34, hi => cases hi; exact c.def_ 34 (d := dd "_law_about" 50) rfl
    | 35, hi => cases hi; exact c.def_ 35 (d := dd "_law_most" 51) rfl
    | 36, hi => cases hi; exact c.def_ 36 (d := dd "_law_cut" 52) rfl
    | 37, hi => cases hi; exact c.def_ 37 (d := dd "_law_ways" 53) rfl
    | 38, hi => cases hi; exact c.def_ 38 (d := dd "_law_steps" 54) rfl
    | 39, hi => cases hi; exact c.def_ 39 (d := dd "_law_run" 55) rfl
    | 40, hi => cases hi; exact c.def_ 40 (d := dd "_law_plan" 56) rfl
    | 41, hi => cases hi; exact c.def_ 41 (d := dd "_law_left" 57) rfl
    | 42, hi => cases hi; exact c.def_ 42 (d := dd "_law_trace" 58) rfl
    | 43, hi => cases hi; exact c.def_ 43 (d := dd "_law_told" 59) rfl
    | 44, hi => cases hi; exact c.def_ 44 (d := dd "_law_bent" 60) rfl
    | 45, hi => cases hi; exact c.def_ 45 (d := dd "_law_fits" 61) rfl
    | 46, hi => cases hi; exact c.def_ 46 (d := dd "law" 62) rfl
    | 47, hi => cases hi; exact c.def_ 47 (d := dm "Mill" "__init__" "Mill.__init__" 26 0) rfl
    | 48, hi => cases hi; exact c.def_ 48 (d := dm "Mill" "block" "Mill.block" 26 1) rfl
    | 49, hi => cases hi; exact c.def_ 49 (d := dm "Mill" "tool" "Mill.tool" 26 2) rfl
    | 50, hi => cases hi; exact c.def_ 50 (d := dm "Mill" "place" "Mill.place" 26 3) rfl
    | 51, hi => cases hi; exact c.def_ 51 (d := dm "Mill" "steps" "Mill.steps" 26 4) rfl
    | 52, hi => cases hi; exact c.def_ 52 (d := dm "Mill" "take" "Mill.take" 26 5) rfl
    | 53, hi => cases hi; exact c.def_ 53 (d := dm "Mill" "step" "Mill.step" 26 6) rfl
    | 54, hi => cases hi; exact c.def_ 54 (d := dm "Mill" "do" "Mill.do" 26 7) rfl
    | i + 55, hi => cases hi
  · match i, hi with
    | 0, hi => cases hi; exact He.glo_ok X G (c.fact 0 (f := .glo "_wall") rfl)
    | 1, hi => cases hi; exact He.glo_ok X G (c.fact 1 (f := .glo "is_number") rfl)
    | 2, hi => cases hi; exact He.glo_ok X G (c.fact 2 (f := .glo "size_of") rfl)
    | 3, hi => cases hi; exact He.glo_ok X G (c.fact 3 (f := .glo "level_block") rfl)
    | 4, hi => cases hi; exact He.glo_ok X G (c.fact 4 (f := .glo "is_below") rfl)
    | 5, hi => cases hi; exact He.glo_ok X G (c.fact 5 (f := .glo "least_of") rfl)
    | 6, hi => cases hi; exact He.glo_ok X G (c.fact 6 (f := .glo "tool_named") rfl)
    | 7, hi => cases hi; exact He.glo_ok X G (c.fact 7 (f := .glo "is_place") rfl)
    | 8, hi => cases hi; exact He.glo_ok X G (c.fact 8 (f := .glo "fields_beneath") rfl)
    | 9, hi => cases hi; exact He.glo_ok X G (c.fact 9 (f := .glo "fields_about") rfl)
    | 10, hi => cases hi; exact He.glo_ok X G (c.fact 10 (f := .glo "greatest_at") rfl)
    | 11, hi => cases hi; exact He.glo_ok X G (c.fact 11 (f := .glo "is_free") rfl)
    | 12, hi => cases hi; exact He.glo_ok X G (c.fact 12 (f := .glo "is_shank_free") rfl)
    | 13, hi => cases hi; exact He.glo_ok X G (c.fact 13 (f := .glo "cut_at") rfl)
    | 14, hi => cases hi; exact He.glo_ok X G (c.fact 14 (f := .glo "unit_steps") rfl)
    | 15, hi => cases hi; exact He.glo_ok X G (c.fact 15 (f := .glo "block_behind") rfl)
    | 16, hi => cases hi; exact He.glo_ok X G (c.fact 16 (f := .glo "ways_of") rfl)
    | 17, hi => cases hi; exact He.glo_ok X G (c.fact 17 (f := .glo "steps_told") rfl)
    | 18, hi => cases hi; exact He.glo_ok X G (c.fact 18 (f := .glo "lowered_where") rfl)
    | 19, hi => cases hi; exact He.glo_ok X G (c.fact 19 (f := .glo "trace_of") rfl)
    | 20, hi => cases hi; exact He.glo_ok X G (c.fact 20 (f := .glo "left_by") rfl)
    | 21, hi => cases hi; exact He.glo_ok X G (c.fact 21 (f := .glo "are_alike") rfl)
    | 22, hi => cases hi; exact He.glo_ok X G (c.fact 22 (f := .glo "left_or_none") rfl)
    | 23, hi => cases hi; exact He.glo_ok X G (c.fact 23 (f := .glo "parts_on") rfl)
    | 24, hi => cases hi; exact He.glo_ok X G (c.fact 24 (f := .glo "parting_block") rfl)
    | 25, hi => cases hi; exact He.glo_ok X G (c.fact 25 (f := .glo "_law_box") rfl)
    | 26, hi => cases hi; exact He.glo_ok X G (c.fact 26 (f := .glo "_law_load") rfl)
    | 27, hi => cases hi; exact He.glo_ok X G (c.fact 27 (f := .glo "_law_draw") rfl)
    | 28, hi => cases hi; exact He.glo_ok X G (c.fact 28 (f := .glo "_law_same") rfl)
    | 29, hi => cases hi; exact He.glo_ok X G (c.fact 29 (f := .glo "_law_flat") rfl)
    | 30, hi => cases hi; exact He.glo_ok X G (c.fact 30 (f := .glo "_law_size") rfl)
    | 31, hi => cases hi; exact He.glo_ok X G (c.fact 31 (f := .glo "_law_heights") rfl)
    | 32, hi => cases hi; exact He.glo_ok X G (c.fact 32 (f := .glo "_law_tools") rfl)
    | 33, hi => cases hi; exact He.glo_ok X G (c.fact 33 (f := .glo "_law_beneath") rfl)
    | 34, hi => cases hi; exact He.glo_ok X G (c.fact 34 (f := .glo "_law_about") rfl)
    | 35, hi => cases hi; exact He.glo_ok X G (c.fact 35 (f := .glo "_law_most") rfl)
    | 36, hi => cases hi; exact He.glo_ok X G (c.fact 36 (f := .glo "_law_cut") rfl)
    | 37, hi => cases hi; exact He.glo_ok X G (c.fact 37 (f := .glo "_law_ways") rfl)
    | 38, hi => cases hi; exact He.glo_ok X G (c.fact 38 (f := .glo "_law_steps") rfl)
    | 39, hi => cases hi; exact He.glo_ok X G (c.fact 39 (f := .glo "_law_run") rfl)
    | 40, hi => cases hi; exact He.glo_ok X G (c.fact 40 (f := .glo "_law_plan") rfl)
    | 41, hi => cases hi; exact He.glo_ok X G (c.fact 41 (f := .glo "_law_left") rfl)
    | 42, hi => cases hi; exact He.glo_ok X G (c.fact 42 (f := .glo "_law_trace") rfl)
    | 43, hi => cases hi; exact He.glo_ok X G (c.fact 43 (f := .glo "_law_told") rfl)
    | 44, hi => cases hi; exact He.glo_ok X G (c.fact 44 (f := .glo "_law_bent") rfl)
    | 45, hi => cases hi; exact He.glo_ok X G (c.fact 45 (f := .glo "_law_fits") rfl)
    | 46, hi => cases hi; exact He.glo_ok X G (c.fact 46 (f := .glo "law") rfl)
    | i + 47, hi => exact absurd hl (by unfold nf; omega)
  · have e : ∃ i, fr[i]? = some x := List.getElem?_of_mem hx
    obtain ⟨i, e⟩ := e
    match i, e with
    | 0, e => cases e; exact He.free_ok X G (c.fact 47 (f := .free "ValueError") rfl)
    | 1, e => cases e; exact He.free_ok X G (c.fact 48 (f := .free "all") rfl)
    | 2, e => cases e; exact He.free_ok X G (c.fact 49 (f := .free "any") rfl)
    | 3, e => cases e; exact He.free_ok X G (c.fact 50 (f := .free "bool") rfl)
    | 4, e => cases e; exact He.free_ok X G (c.fact 51 (f := .free "enumerate") rfl)
    | 5, e => cases e; exact He.free_ok X G (c.fact 52 (f := .free "int") rfl)
    | 6, e => cases e; exact He.free_ok X G (c.fact 53 (f := .free "isinstance") rfl)
    | 7, e => cases e; exact He.free_ok X G (c.fact 54 (f := .free "len") rfl)
    | 8, e => cases e; exact He.free_ok X G (c.fact 55 (f := .free "list") rfl)
    | 9, e => cases e; exact He.free_ok X G (c.fact 56 (f := .free "max") rfl)
    | 10, e => cases e; exact He.free_ok X G (c.fact 57 (f := .free "min") rfl)
    | 11, e => cases e; exact He.free_ok X G (c.fact 58 (f := .free "range") rfl)
    | 12, e => cases e; exact He.free_ok X G (c.fact 59 (f := .free "str") rfl)
    | 13, e => cases e; exact He.free_ok X G (c.fact 60 (f := .free "super") rfl)
    | 14, e => cases e; exact He.free_ok X G (c.fact 61 (f := .free "tuple") rfl)
    | 15, e => cases e; exact He.free_ok X G (c.fact 62 (f := .free "zip") rfl)
    | i + 16, e => cases e
  · have e : ∃ i, mx.ms[i]? = some (x, f, k, n) := List.getElem?_of_mem hm
    obtain ⟨i, e⟩ := e
    match i, e with
    | 0, e => cases e; exact ⟨He.cls_ok (c.fact 64 (f := .cls "Mill") rfl), _, rfl, He.meth_ok (c.fact 66 (f := .meth "Mill" "block") rfl)⟩
    | 1, e => cases e; exact ⟨He.cls_ok (c.fact 64 (f := .cls "Mill") rfl), _, rfl, He.meth_ok (c.fact 67 (f := .meth "Mill" "tool") rfl)⟩
    | 2, e => cases e; exact ⟨He.cls_ok (c.fact 64 (f := .cls "Mill") rfl), _, rfl, He.meth_ok (c.fact 68 (f := .meth "Mill" "place") rfl)⟩
    | 3, e => cases e; exact ⟨He.cls_ok (c.fact 64 (f := .cls "Mill") rfl), _, rfl, He.meth_ok (c.fact 69 (f := .meth "Mill" "steps") rfl)⟩
    | 4, e => cases e; exact ⟨He.cls_ok (c.fact 64 (f := .cls "Mill") rfl), _, rfl, He.meth_ok (c.fact 70 (f := .meth "Mill" "take") rfl)⟩
    | 5, e => cases e; exact ⟨He.cls_ok (c.fact 64 (f := .cls "Mill") rfl), _, rfl, He.meth_ok (c.fact 71 (f := .meth "Mill" "step") rfl)⟩
    | 6, e => cases e; exact ⟨He.cls_ok (c.fact 64 (f := .cls "Mill") rfl), _, rfl, He.meth_ok (c.fact 72 (f := .meth "Mill" "do") rfl)⟩
    | i + 7, e => cases e
  · have e : ∃ i, mx.cl[i]? = some (x, k, n) := List.getElem?_of_mem hm
    obtain ⟨i, e⟩ := e
    match i, e with
    | 0, e => cases e; exact ⟨He.glo_ok X G (c.fact 63 (f := .glo "Mill") rfl), He.cls_ok (c.fact 64 (f := .cls "Mill") rfl), _, rfl, He.mkr_ok (c.fact 65 (f := .mkr "Mill") rfl)⟩
    | i + 1, e => cases e
  · have e : ∃ i, mx.na[i]? = some (x, f) := List.getElem?_of_mem hm
    obtain ⟨i, e⟩ := e
    match i, e with
    | 0, e => cases e; exact He.noat_ok (c.fact 73 (f := .noat "Mill" "_block") rfl)
    | 1, e => cases e; exact He.noat_ok (c.fact 74 (f := .noat "Mill" "_place") rfl)
    | 2, e => cases e; exact He.noat_ok (c.fact 75 (f := .noat "Mill" "_size") rfl)
    | 3, e => cases e; exact He.noat_ok (c.fact 76 (f := .noat "Mill" "_step") rfl)
    | 4, e => cases e; exact He.noat_ok (c.fact 77 (f := .noat "Mill" "_tool") rfl)
    | 5, e => cases e; exact He.noat_ok (c.fact 78 (f := .noat "Mill" "_tools") rfl)
    | i + 6, e => cases e
  · have e : ∃ i, mx.xs[i]? = some x := List.getElem?_of_mem hm
    obtain ⟨i, e⟩ := e
    match i, e with
    | 0, e => cases e; exact exc_says (P := PP) X G (Option.some.inj (congrArg (fun l => l[0]?) cx)) (List.all_eq_true.mp (He.ba ce).2 _ (List.mem_of_getElem? (i := 0) rfl)) xs_Strike
    | i + 1, e => cases e
theorem facts {w : World} {K : PySem.W.Frag} {h : Heap} {mg : Str → Option Value} {f : Addr} (X : K.In h) (G : h.Ns mainGlobals mg) (hfa : mg ("law" : Str) = some (.ref f)) (c : He.SaysD fa fn K) (ce : exK K = true) (cx : xds.map (xObs K) = xds.map XD.val) :
    ∃ fd : FuncData, (∀ (s : Shared) (v : Value), BindsTo s fd ⟨[v], []⟩ [("script", v)]) ∧ ∀ base : Heap, K.In base → base.Ns mainGlobals mg → FnOk PP w K mg base CX0 (2 * LV + 1) f fd ["script"] (fun vs H Q _ => spF K (callF fs gs LV) LI vs H Q fun _ _ _ => False) := by
  obtain ⟨fd, F⟩ := c.def_ 46 (d := dd "law" 62) rfl
  have e := hfa.symm.trans (He.glo_ok X G (c.fact 46 (f := .glo "law") rfl))
  cases e
  have b := FunD.bindsA (ps := ["script"]) F fun _ _ _ _ _ _ us hl => match us, hl with | [_], _ => rfl
  exact ⟨fd, fun s v => b s [v] rfl, fun base _ _ => FnOk.to0 (prog_ok (prog X G c ce cx) LV LI (pd "law" 62 c_law) rfl _ fd F)⟩
end PV.K81
open PySem PySem.W PySem.Calls PyProof.Rows
theorem PySem.Challenge.cw_pathsmilled_k81_whole_plans_alike_holds : PySem.Challenge.rw_pathsmilled_k81_whole_plans_alike.Holds := by
  w_on; o_law
  refine HandSHeadRun.head_any (r := OpenLaw.row PySem.Challenge.rw_pathsmilled_k81_whole_plans_alike) (q := view (OpenLaw.row PySem.Challenge.rw_pathsmilled_k81_whole_plans_alike).prog [62]) (H := PV.K81.hk) (ob := PV.K81.ob) (M := 20000) (loose := PV.K81.loose) (d := HandSHeadRun.topDef (OpenLaw.row PySem.Challenge.rw_pathsmilled_k81_whole_plans_alike).prog 62) (kwd := []) PV.K81.ob_eq
    (by kernel_rfl) (fun s => by kernel_rfl) PV.K81.hrun (by kernel_rfl) (by kernel_rfl) (by kernel_rfl) (by rfl) (by first | assumption | decide +kernel) (by decide +kernel) ⟨rfl, rfl, rfl, rfl, rfl, by decide +kernel⟩ ?hw ?hc
  case hw => w_witness2
  case hc =>
    refine L2.walk_ofE (l := PySem.Challenge.rw_pathsmilled_k81_whole_plans_alike) (n := 63) (k := 2 * PV.K81.LV + 1) (x := "script") (CX := L2.CX0) rfl (by decide) (by kernel_rfl) ⟨rfl, by decide, by decide⟩ ?F (fun _ _ _ _ z => z)
    intro w mg fa h Y G hmg0
    obtain ⟨K, KX, c, ce, cx⟩ := Y
    have hmg : mg ("law" : PySem.Str) = some (.ref fa) := by
      have e : (HandSHeadRun.topDef (OpenLaw.row PySem.Challenge.rw_pathsmilled_k81_whole_plans_alike).prog 62).name = ("law" : PySem.Str) := by kernel_rfl
      rw [← e]
      exact hmg0
    obtain ⟨fd, hb, hF⟩ := PV.K81.facts (w := w) KX G hmg c ce cx
    refine ⟨K, fd, _, KX, hb, fun H a ns hl _ hS => ?_, hF⟩
    obtain ⟨st', e⟩ := PV.K81.core ns hl
    exact PV.law_sp (ds := PV.K81.ds) e hS
