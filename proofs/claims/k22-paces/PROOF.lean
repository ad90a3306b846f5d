import PyProof.Rows.All
import Wide.All
import OpenK.AllK
import Wide.FinOn
import KE.KFromBytes
import KE.KExcSuper
import HandS.Base
import HandS.Call
import HandS.List
import HandS.Exc
import HandS.ExcInit
import HandS.ExcSuper
import HandS.Nested
import HandS.WordsExc
import HandS.ForMost
import HandS.More
import HandS.Defaults
import HandS.Flow
import HandS.Style
import HandS.TupAny
import HandS.TupMul
import HandS.Deep
import HandS.Zip
import HandS.Walk
import HandS.IsInst
import HandS.NoneIn
import HandS.Wide
import HandS.HeadHook1
import HandS.Text
import PyProof.WalksMore
import PyProof.WalkInts
import PyProof.Rows.SumAny
import HandS.Flt
import HandS.Conv
import HandS.Iter
import KE.GoesMore
import KE.GoesEnum
import HandS.TryOnly
import HandS.ExcOwn
import HandS.Codes
import HandS.HeadEnd
import HandS.HeadHook2
import HandS.Head0
import HandS.Head1
import HandS.Head2
import PySem.Challenge.RW_pathsmilled_k22_whole_least_by_some_pace
set_option Elab.async false
set_option linter.all false
set_option maxRecDepth 100000
set_option maxHeartbeats 4000000
/-! An own exception over a class over ValueError, whose __init__ says super().__init__(text + str(x)) and self.x = x: kept as a def. -/
namespace PV
open PySem PySem.Spec PyProof.Rows L2 NdefX PySem.W
section
variable {prog : Program} {w : World} {A : Around} {E : Value → Shared → Prop} {h : Heap} {g : Array GenState} {d : Drawn} {t : Nat} {os : OsState}
variable {nm q : Str} {C N : Addr} {bs bm bmB : List Value} {hdct : Bool} {sn : List Str} {sub : List Value} {ab : Bool} {col : Option Bool} {dd : Option Addr} {k0 k1 k2 k3 k5 : Option Value}
/-- the wrapper called: the args are laid anew -/
theorem call_mw {u e t0 : Addr} {rest : List Value} {Q : Value → Shared → Prop} (hT : ∀ X : String, bm.contains (.type X) = bmB.contains (.type X))
    (FB : ExcBaseFacts "ValueError" "ValueError.__new__" "ValueError.__init__" bmB)
    (hC : h.get? C = some (excClassObj nm q C N bs bm hdct sn sub ab col dd k0 k1 k2 k3 k5 "ValueError.__new__")) (he : h.get? e = some (HandSPX.excO C t0)) (hu : h.get? u = some (kxs_mw "ValueError.__init__" e)) (hrest : rest.length ≤ sizeLine)
    (hq : ∀ h' t1, (∀ b o, b ≠ e → h.get? b = some o → h'.get? b = some o) → h'.get? e = some (HandSPX.excO C t1) → Q .none ⟨h', g, d, t, os⟩) :
    wpAny (model prog w) A (call (.ref u) rest) Q E ⟨h, g, d, t, os⟩ := by
  refine wpAny_call (codeAny_of_tree ?_)
  show wpAny _ A.in1 (callAny (.ref u) ⟨rest, []⟩) _ _ _
  simp only [callAny]
  refine wpAny_bind (wpAny_load hu ?_)
  simp only [kxs_mw, show (Value.type "method-wrapper" == Value.type "method" || Value.type "method-wrapper" == Value.type "builtin_function_or_method" || Value.type "method-wrapper" == Value.type "method-wrapper") = true by decide, if_true]
  refine W.KFB.if_so (by decide) ?_
  refine wpAny_bind (ESX.check_bound FB hC he rfl ?_)
  refine wpAny_bind (wpAny_pure (wpAny_pure ?_))
  refine ⟨plainId_quiet FB.init.plain _, codeAny_builtin FB.initEntry ?_⟩
  rw [Around.under_plainId FB.init.plain _]
  wp_walk
  refine hq _ h.objs.size (fun b o hb ho => ?_) ?_
  · rw [Heap.get?_update_other _ _ (Ne.symm hb)]
    exact Heap.get?_push_of_some _ ho
  · rw [Heap.get?_update_self _ (Heap.get?_push_of_some _ he) rfl]
    rfl
end
end PV
set_option maxRecDepth 100000
set_option maxHeartbeats 4000000
namespace PV
open PySem PySem.Spec PyProof.Rows L2 NdefX PySem.W
/-- super().__init__(m + str(step)); self.step = step -/
def exB (m : Str) (j : Nat) (p0 p1 p2 p3 p4 p5 p6 p7 p8 p9 q1 q2 q3 q4 : Pos) : List Stmt :=
  [.Expr (.Call (.Attribute (.Call (.Name "super" p0) [] [] p1) "__init__" p2) [.BinOp (.Constant (.str m) j p3) .Add (.Call (.Name "str" p4) [.Name "step" p5] [] p6) p7] [] p8) p9,
   .Assign [.Attribute (.Name "self" q1) "step" q2] (.Name "step" q3) q4]
theorem mth_formS {o : Expr} {apos pos : Pos} {m : Str} {e : Expr} {env : PySem.Env} (hl : (apos.endLine == pos.line) = true) (he : starEach [e] env = [(false, eval e env)]) :
    eval (.Call (.Attribute o m apos) [e] [] pos) env = (do
      let ov ← attributeBase o m env (eval o env)
      standAt apos.atName
      let (f, first) ← holding [ov] (getMethod ov m (do return (← importBound o env).getD true))
      callWith pos f first (backTo pos (starEach [e] env)) []) := by
  have e1 : eval (.Call (.Attribute o m apos) [e] [] pos) env = (do
    let ov ← attributeBase o m env (eval o env)
    standAt apos.atName
    methodCall o m apos pos env ov 1 (backTo pos (starEach [e] env)) []) := rfl
  rw [e1]
  unfold methodCall
  have hf : methodCallForm 1 (backTo pos (starEach [e] env)) [] = true := by
    rw [he]
    show methodCallForm 1 (backTo pos [(false, eval e env)]) [] = true
    rfl
  rw [hf]
  unfold methodCallPos calleeOf
  simp [hl]
theorem str_len {i : Int} (h : 0 ≤ i ∧ i ≤ 1000000000000) : (Str.ofString (toString i)).length ≤ 20 := by
  obtain ⟨n, rfl⟩ : ∃ n : Nat, i = n := ⟨i.toNat, by omega⟩
  rw [Str.ofString_eq_toList]
  show ((toString (n : Int)).toList.map Char.toNat).toArray.size ≤ 20
  rw [List.size_toArray, List.length_map, String.length_toList]
  have e : toString (n : Int) = n.repr := rfl
  rw [e]
  exact (Nat.length_repr_le_iff (by decide)).mpr (by
    have : n ≤ 1000000000000 := by omega
    exact Nat.lt_of_le_of_lt this (by decide))
/-- what the written part says of the class at C and of its __init__ at fI -/
structure ExT (prog : Program) (K : PySem.W.Frag) (mg : Str → Option Value) (C fI cc cda : Addr) (F : NF) (ps : Arguments) : Prop where
  oex : OexC K C
  noF : findIn K (.ref C) "step" = some none
  F1 : F.name = "__init__" ∧ F.params = ps ∧ F.cl = [(("__class__" : Str), cc)] ∧ F.c = cda
  hd : (ps.posonlyargs ++ ps.args).head?.map (·.arg) = some "self"
  sc : nscB ["self", "step", "__class__"] ["self", "step"] ["__class__"] F.scope = true
  scs : F.scope.names.lookup ("super" : Str) = some .globalImplicit
  sct : F.scope.names.lookup ("str" : Str) = some .globalImplicit
  bd : ∃ m j p0 p1 p2 p3 p4 p5 p6 p7 p8 p9 q1 q2 q3 q4, F.body = exB m j p0 p1 p2 p3 p4 p5 p6 p7 p8 p9 q1 q2 q3 q4 ∧ m.length ≤ 1000 ∧ (p2.endLine == p8.line) = true
  fn : ∃ (oc : Value) (od : Option Addr) (doc pm ct : Value) (an : Option Addr) (osl : Array (Option Value)), K.lookup fI = some ⟨oc, od, .func (fnX F.name F.qual F.params F.body F.scope F.cl .none .none doc pm an (.ref F.c) ct), osl⟩
  code : codeIn K (.ref cda) F.qual = true
  cell : ∃ cl cld csl, K.lookup cc = some ⟨cl, cld, .cell (some (.ref C)), csl⟩
  file : ∃ ccl cdd vs ccs fl tf, K.lookup cda = some ⟨ccl, cdd, .fields vs, ccs⟩ ∧ vs[2]? = some (.str fl tf) ∧ ((prog.main.file : Str) == fl) = true
  cls : ∃ cd, clsIn K C = some cd ∧ alongIn K "__init__" ((cd.mro.dropWhile (· != .ref C)).drop 1) = some (some (.builtin "ValueError.__init__"))
  mro : mroIn K C (.ref C) = some true
  vsub : subIn K (.ref C) (.type "ValueError") = some true
  opq : nsIn K cStatics "thirdparty.any" = some none
  msup : mg "super" = none
  mstr : mg "str" = none
  top : (prog.main.scope.names.lookup ("super" : Str)).isSome = false
/-- the promise of __init__ -/
def spX (K : PySem.W.Frag) (C : Addr) : Sp := fun vs H Q _ => ∃ (a : Addr) (i : Int), vs = [.ref a, .int i] ∧ (0 ≤ i ∧ i ≤ 1000000000000) ∧ H a = some (exo a C none) ∧
  ∀ dx, H dx = none → dx ≠ a → Q .non (upd (upd H dx (exd dx [("step", .int i)])) a (exo a C (some dx)))
section
variable {P : Program} {w : World} {K : PySem.W.Frag} {mg : Str → Option Value} {base : Heap} {CX : CXT} {k : Nat} {C fI cc cda : Addr} {F : NF} {ps : Arguments}
theorem exc_ok (T : ExT P K mg C fI cc cda F ps) {doc pm ct : Value} {an : Option Addr} (hfd : ∃ oc od osl, K.lookup fI = some ⟨oc, od, .func (fnX F.name F.qual F.params F.body F.scope F.cl .none .none doc pm an (.ref F.c) ct), osl⟩) :
    FnOk P w K mg base CX (k + 1) fI (fnX F.name F.qual F.params F.body F.scope F.cl .none .none doc pm an (.ref F.c) ct) ["self", "step"] (spX K C) := by
  refine ⟨fun vs H Q E ⟨a, i, e, _⟩ => by rw [e]; rfl, fun A outer s H args us vs Q E hr e0 hb r hsp => ?_⟩
  obtain ⟨a, i, rfl, hi, ea, hq⟩ := hsp
  obtain ⟨oc, od, osl, lf⟩ := hfd
  obtain ⟨hF1, hF2, hF3, hF4⟩ := T.F1
  have S := nscope_by T.sc
  have KX : K.In s.heap := e0.mod.kin.keeps fun b o e => (e0.bs b o e).1
  have lim : s.heap.NoLimit := e0.mod.nolimit.keeps fun b o e => (e0.bs b o e).1
  have hcode := T.code
  rw [← hF4] at hcode
  cases r with
  | cons r1 r2 =>
    rename_i u0 ur
    obtain rfl : u0 = Value.ref a := r1
    cases r2 with
    | cons r3 r4 =>
      rename_i u1 ur2
      cases r4
      have r : Vals [V.ref a, V.int i] [Value.ref a, u1] := .cons rfl (.cons r3 .nil)
      refine ks_codeAny_call_defAt (fd := fnX F.name F.qual F.params F.body F.scope F.cl .none .none doc pm an (.ref F.c) ct) (body := F.body) (binds := (["self", "step"] : List Str).zip [Value.ref a, u1]) hr.depth (KX _ _ lf) rfl lim (codeRec_of KX hcode) rfl hb
        (fun y hy => S.nocell y hy) (fun y hy => S.par y.1 (List.of_mem_zip hy).1) (fun h₁ hns hk₁ => ?_) S.co S.gen S.kind
      obtain ⟨cl, cld, csl, lc⟩ := T.cell
      have hcc : H cc = none := by
        have := e0.mod.kin _ _ lc
        exact (e0.bs _ _ this).2
      have C0 : CellsAt F.cl ["__class__"] [some (.ref C)] s.heap H := by
        rw [hF3]
        refine ⟨rfl, fun y c e => ?_, fun x y c e1 e2 => ?_, fun j y e => ?_⟩
        · have : y = "__class__" ∧ c = cc := by
            unfold List.lookup at e
            split at e
            · rename_i hy; cases e; exact ⟨by simpa using hy, rfl⟩
            · cases e
          obtain ⟨_, rfl⟩ := this
          exact ⟨hcc, _, ⟨_, KX _ _ lc, rfl⟩⟩
        · unfold List.lookup at e1 e2
          split at e1
          · rename_i hx
            split at e2
            · rename_i hy
              rw [(by simpa using hx : x = "__class__"), (by simpa using hy : y = "__class__")]
            · cases e2
          · cases e1
        · cases j with
          | zero =>
            have : y = "__class__" := by simpa using e.symm
            subst this
            exact ⟨cc, by simp [List.lookup], fun v hv => by
              have : v = .ref C := by simpa using hv.symm
              subst this
              exact ⟨.ref C, rfl, _, KX _ _ lc, rfl⟩⟩
          | succ j => simp at e
      have I : Inv (ncx CX P w K mg base ["self", "step", "__class__"] F fI A outer s H E) [] (startF ["self", "step", "__class__"] [V.ref a, V.int i] [some (.ref C)]) H { s with heap := h₁, toks := s.toks + 2 } :=
        inv_startN (ps := ["self", "step"]) (fr := ["__class__"]) S hr.hd e0 rfl r C0 hns hk₁
      obtain ⟨m, j, p0, p1, p2, p3, p4, p5, p6, p7, p8, p9, q1, q2, q3, q4, hbd, hm, hpos⟩ := T.bd
      obtain ⟨ar, har, hself⟩ : ∃ ar, (F.params.posonlyargs ++ F.params.args).head? = some ar ∧ ar.arg = "self" := by
        rw [hF2]
        exact Option.map_eq_some_iff.mp T.hd
      obtain ⟨ccl, cdd, vs, ccs, fl, tf, lcd, hvs, hfile⟩ := T.file
      rw [← hF4] at lcd
      obtain ⟨cd, hcd, hal⟩ := T.cls
      obtain ⟨nm, q, N, bs, bm, sn, sub, ab, col, dd, k0, k1, k2, k3, k5, hC, hbm⟩ := T.oex.cls
      have fin : ∀ {pins : List (Addr × Obj)} {σ' : L2.St} {H' : Hp} {v : V} {u : Value} {s' : Shared}, Inv (ncx CX P w K mg base ["self", "step", "__class__"] F fI A outer s H E) pins σ' H' s' → RelV v u → Q v H' → CE outer P w H s Q u s' :=
        fun {pins σ' H' v u s'} J rv q => ⟨v, H', J.os, J.bare, J.base, J.hok, rv, q⟩
      show _root_.PySem.wpAt (model P w) (A.deeper (envF F fI s.heap.objs.size)) (.func F.body (envF F fI s.heap.objs.size)) (execs F.body (envF F fI s.heap.objs.size)) _ _ _
      generalize hBB : F.body = BB
      rw [hbd] at hBB
      subst hBB
      refine ks_wpAt_execs_cons (ks_wpAt_Expr_any (ks_wpAt_MethodCall ?_ (mth_formS hpos rfl)) ?_ ?_)
      · obtain ⟨mb, hb1, hb2⟩ := I.mod.blt
        have hD1 := KX.keeps hk₁ _ _ hC
        refine ks_wpAt_super_base (env := envF F fI s.heap.objs.size) T.scs (S.frk _ (by simp)) rfl rfl (KX.keeps hk₁ _ _ lf) rfl har rfl (KX.keeps hk₁ _ _ lcd) rfl hvs hfile T.top ?_
        refine ks_loadName_global S.kind T.scs (Calls.loadGlobal_builtin (env := envF F fI s.heap.objs.size) (I.mod.glob.keeps I.bk) T.msup (hb1.keeps I.bk) ((hb2 "super" (by decide)).trans (by first | boot_by_name | rfl | kernel_rfl)) ⟨rfl, ?_⟩)
        refine wpAny_loadName_free S.kind (S.frk _ (by simp)) (by show List.lookup _ F.cl = _; rw [hF3]; simp [List.lookup]) ⟨_, KX.keeps hk₁ _ _ lc, rfl⟩ ?_
        rw [hself]
        refine wpAny_loadName_local S.kind (S.par _ (by simp)) hns (v := .ref a) (zip_look (i := 0) (by decide) rfl rfl) ?_
        refine ks_wpAny_isType_cls hD1 rfl ⟨rfl, ?_⟩
        obtain ⟨t1, hoe⟩ := exo_at I.hok ea
        refine ks_wpAny_call_super hD1 rfl hoe rfl (fun c e => by cases e) (looks_mroIn (KX.keeps hk₁) T.mro) (fun h₂ e k => ?_)
        have I2 : Inv (ncx CX P w K mg base ["self", "step", "__class__"] F fI A outer s H E) [] (startF ["self", "step", "__class__"] [V.ref a, V.int i] [some (.ref C)]) H { s with heap := h₂, toks := s.toks + 2 } := I.kept (t' := s.toks + 2) k
        have I2k : K.In h₂ := I2.kIn
        have J2 : W.InstAt h₂ a { cls := .ref C, dict := none, data := .fields #[.ref t1, .none, .none, .none, .bool false, .none] } C none := ⟨k _ _ hoe, rfl, rfl, trivial⟩
        refine kxs_getMethod kxs_ValueError e (looks_opaque I2k T.opq) (l₀ := cd.mro) (fun A Q E s k q => wpAny_bind ((looks_clsIn I2k hcd) A _ E s k (wpAny_pure q))) rfl I2k hal (J2.type.andThen (looks_subIn I2k T.vsub)) (ks_ne I2k J2 hcd) rfl ?_
        have kp : ∀ b o, h₂.get? b = some o → (h₂.push (kxs_mw "ValueError.__init__" a)).get? b = some o := fun b o e => Heap.get?_push_of_some _ e
        have hu : (h₂.push (kxs_mw "ValueError.__init__" a)).get? h₂.objs.size = some (kxs_mw "ValueError.__init__" a) := Heap.get?_push_at rfl rfl
        have I3 : Inv (ncx CX P w K mg base ["self", "step", "__class__"] F fI A outer s H E) [] (startF ["self", "step", "__class__"] [V.ref a, V.int i] [some (.ref C)]) H { s with heap := h₂.push (kxs_mw "ValueError.__init__" a), toks := s.toks + 2 + 1 } := I2.kept (t' := s.toks + 2 + 1) kp
        have I4 : Inv (ncx CX P w K mg base ["self", "step", "__class__"] F fI A outer s H E) [(h₂.objs.size, kxs_mw "ValueError.__init__" a)] (startF ["self", "step", "__class__"] [V.ref a, V.int i] [some (.ref C)]) H { s with heap := h₂.push (kxs_mw "ValueError.__init__" a), toks := s.toks + 2 + 1 } := I3.pins_of fun p hp => by
          rw [List.mem_singleton] at hp
          subst hp
          exact ⟨hu, I2.hok.fresh (Nat.le_refl _), fun z => absurd I2.lt (by rw [← z]; exact Nat.lt_irrefl _), I2.nofs (Nat.le_refl _), fun v e => by cases e⟩
        refine kxs_callWith (i := "ValueError.__init__") (x := a) rfl ?_
        have hpa : PA (ncx CX P w K mg base ["self", "step", "__class__"] F fI A outer s H E) [.BinOp (.Constant (.str m) j p3) .Add (.Call (.Name "str" p4) [.Name "step" p5] [] p6) p7] (tCons (tOp _ (tC (.str m)) (tCB _ (tCons (tVar 1) tNil))) tNil) :=
          pa_cons (pe_op op_add_str pe_str (pe_callTy call_str_int T.sct T.mstr (by first | boot_by_name | rfl | kernel_rfl) (pa_cons (pe_var (i := 1) rfl (.inl (S.par _ (by simp)))) pa_nil))) pa_nil
        refine Calls.evalArgs_plain (thn (hpa.run p8 [(h₂.objs.size, kxs_mw "ValueError.__init__" a)] _ _ H (fun vs H1 => H = H1 ∧ ∃ x, vs = [V.str x]) I4 ?_) fun us s4 hh => ?_)
        · refine ⟨_, rfl, i, rfl, ?_, m, _, rfl, rfl, ?_, rfl, _, rfl⟩
          · have h1 : i.natAbs < 2 ^ 40 := by
              have : i.natAbs ≤ 1000000000000 := by omega
              exact Nat.lt_of_le_of_lt this (by decide)
            by_cases z : i.natAbs = 0
            · rw [z]; decide
            · exact (Nat.log2_lt z).mpr (Nat.lt_of_lt_of_le h1 (Nat.pow_le_pow_right (by decide) (by decide)))
          · have := str_len (i := i) hi
            rw [sizeLine_eq]
            have h2 : (toString i : Str).length ≤ 20 := this
            omega
        · obtain ⟨vs4, H4, I5, r5, rfl, x5, rfl⟩ := hh
          obtain ⟨hp4, g4, d4, t4, os4⟩ := s4
          obtain ⟨t5, ho5⟩ := exo_at I5.hok ea
          have hu5 := (I5.pin _ (List.mem_append_right _ (List.mem_singleton.mpr rfl))).1
          refine ⟨hu5, call_mw (fun X => HandSPX.refsVE_contains X bm hbm) PySem.F.excBase_ValueError (I5.kIn _ _ hC) ho5 hu5 ?_ fun h' t6 k hx => ?_⟩
          · have : us.length = 1 := by rw [← r5.length]; rfl
            show ([] ++ us).length ≤ sizeLine
            rw [List.nil_append, this, sizeLine_eq]; decide
          · have J := I5.write (t' := t4) (x := a) (e := a) (o := exo a C none) (by rw [ea]; exact True.intro) (.inl rfl) k ⟨_, hx⟩ (exo_ok hx)
            have eu : upd H a (exo a C none) = H := by
              funext b
              by_cases hb : b = a
              · rw [hb, upd_same, ea]
              · rw [upd_ne hb]
            rw [eu] at J
            refine wpAt_of_wpAny ?_
            have ps : PSs (ncx CX P w K mg base ["self", "step", "__class__"] F fI A outer s H E) [.Assign [.Attribute (.Name "self" q1) "step" q2] (.Name "step" q3) q4] (tOst K "step" (tVar 0) (tVar 1)) :=
              pss_one (ps_ost (pe_var (i := 0) rfl (.inl (S.par _ (by simp)))) (pe_var (i := 1) rfl (.inl (S.par _ (by simp)))))
            refine wpAny_mono (ps.run _ _ _ H { nx := fun _ H' => Q .non H', rt := Q } J ⟨.int i, rfl, .ref a, rfl, a, C, rfl, T.oex, T.noF, .inl ⟨ea, hq⟩⟩) (fun fl s' hs => ?_) fun e s' hs => hs
            cases fl with
            | ret u =>
              obtain ⟨v, σ', H', J, rv, q⟩ := hs
              exact fin J rv q
            | next =>
              obtain ⟨σ', H', J, q⟩ := hs
              exact fin (v := V.non) (u := Value.none) J rfl q
            | brk =>
              obtain ⟨_, _, _, q⟩ := hs
              exact False.elim q
            | cont =>
              obtain ⟨_, _, _, q⟩ := hs
              exact False.elim q
      · show (F.scope.kind == .module && _) = false
        rw [S.kind]; rfl
      · rfl
end
end PV
set_option maxRecDepth 100000
/-! The evaluator: deep values, code by slots, outcomes. -/
namespace PV
open PySem

/-- deep values -/
inductive D where
  | non | bl (b : Bool) | int (i : Int) | str (x : Str) | tup (xs : List D) | lst (xs : List D) | rol (xs : List D) | loc (n : Nat)
instance : Inhabited D := ⟨.non⟩
/-- an object of the store -/
inductive SO where
  | lst (xs : List D) | obj (x : Str) (fs : List (Str × D))
abbrev Sto := List SO
/-- a slot: a value, or a list of the frame's own -/
inductive SV where
  | val (d : D) | own (xs : List D)
abbrev Env := List (Option SV)
inductive Out (α : Type) where
  | ok (a : α) (s : Sto) | err
def Out.bind {α β : Type} (o : Out α) (f : α → Sto → Out β) : Out β := match o with
  | .ok a s => f a s
  | .err => .err
def lift {α : Type} (o : Option α) (s : Sto) : Out α := match o with
  | some a => .ok a s
  | none => .err
abbrev LINE : Nat := 16777216

/-! ### operations on values -/
mutual
def toPy : D → PyData
  | .non => .none
  | .bl b => .bool b
  | .int i => .int i
  | .str x => .str x
  | .tup xs => .tuple (toPys xs)
  | .lst xs => .list (toPys xs)
  | .rol _ => .none
  | .loc _ => .none
def toPys : List D → List PyData
  | [] => []
  | d :: ds => toPy d :: toPys ds
end
mutual
/-- no object of the store within -/
def pure? : D → Bool
  | .tup xs => pures? xs
  | .lst xs => pures? xs
  | .rol _ => false
  | .loc _ => false
  | _ => true
def pures? : List D → Bool
  | [] => true
  | d :: ds => pure? d && pures? ds
end
mutual
/-- no list within -/
def nolst? : D → Bool
  | .tup xs => nolsts? xs
  | .lst _ => false
  | .rol _ => false
  | _ => true
def nolsts? : List D → Bool
  | [] => true
  | d :: ds => nolst? d && nolsts? ds
end
def nolstS? : Sto → Bool
  | [] => true
  | .lst xs :: r => nolsts? xs && nolstS? r
  | .obj _ fs :: r => nolsts? (fs.map (·.2)) && nolstS? r
def shp (d : D) : Bool := pure? d && SeqAt.shaped (toPy d)
def eqD (a b : D) : Option Bool := if shp a = true ∧ shp b = true then some (PyData.eqv (toPy a) (toPy b)) else none
def addD : D → D → Option D
  | .int i, .int j => some (.int (i + j))
  | .str x, .str y => if x.length + y.length ≤ LINE then some (.str (x ++ y)) else none
  | .tup xs, .tup ys => if xs.length + ys.length ≤ LINE then some (.tup (xs ++ ys)) else none
  | .lst xs, .lst ys => if xs.length + ys.length ≤ LINE then some (.lst (xs ++ ys)) else none
  | _, _ => none
def subD : D → D → Option D
  | .int i, .int j => some (.int (i - j))
  | _, _ => none
def mulD : D → D → Option D
  | .tup xs, .int k => if k = 1 then some (.tup xs) else if 2 ≤ k ∧ k ≤ 1000 ∧ xs.length ≤ 1000 ∧ xs.isEmpty = false then some (.tup (List.replicate k.toNat xs).flatten) else if k = 0 ∧ xs.isEmpty = false then some (.tup []) else none
  | .lst xs, .int k => if 0 ≤ k ∧ k ≤ 1000 ∧ xs.length ≤ 1000 then some (.lst (List.replicate k.toNat xs).flatten) else none
  | .int i, .int j => if (-18446744073709551616 < i ∧ i < 18446744073709551616) ∨ (-18446744073709551616 < j ∧ j < 18446744073709551616) then some (.int (i * j)) else if i.natAbs.log2 + j.natAbs.log2 < 1000000 then some (.int (i * j)) else none
  | _, _ => none
def modD : D → D → Option D
  | .int i, .int j => if 0 < j then some (.int (i % j)) else none
  | _, _ => none
def divD : D → D → Option D
  | .int i, .int j => if 0 < j ∧ j < 1073741824 then some (.int (i / j)) else if 0 < j ∧ j.natAbs.log2 < 9000 then some (.int (i / j)) else none
  | _, _ => none
inductive BOp where
  | add | sub | mul | mod | div
  deriving DecidableEq
def binD : BOp → D → D → Option D
  | .add => addD
  | .sub => subD
  | .mul => mulD
  | .mod => modD
  | .div => divD
def BOp.py : BOp → Operator
  | .add => .Add
  | .sub => .Sub
  | .mul => .Mult
  | .mod => .Mod
  | .div => .FloorDiv
inductive COp where
  | eq | ne | lt | le | gt | ge | is | isn | inn | nin
  deriving DecidableEq
def COp.py : COp → CmpOp
  | .eq => .Eq
  | .ne => .NotEq
  | .lt => .Lt
  | .le => .LtE
  | .gt => .Gt
  | .ge => .GtE
  | .is => .Is
  | .isn => .IsNot
  | .inn => .In
  | .nin => .NotIn
def isNonD : D → Bool
  | .non => true
  | _ => false
def isD : D → D → Option Bool
  | x, .non => some (isNonD x)
  | .bl a, .bl b => some (decide (a = b))
  | _, _ => none
def icmp (g : Int → Int → Bool) : D → D → Option Bool
  | .int i, .int j => some (g i j)
  | _, _ => none
def ltD : D → D → Option Bool
  | .int i, .int j => some (decide (i < j))
  | .str i, .str j => some (decide (i.cps.toList < j.cps.toList))
  | _, _ => none
/-- x in y: a sign or a text in a text; data in a list, a tuple -/
def inD (x : D) : D → Option Bool
  | .str z => match x with
    | .str y => some (!(Builtin.Str.occurrences z y 0 z.length 1).isEmpty)
    | _ => none
  | .lst ds => if shp x = true ∧ shp (.lst ds) = true then some ((toPys ds).any fun z => PyData.eqv z (toPy x)) else none
  | .tup ds => if shp x = true ∧ shp (.tup ds) = true then some ((toPys ds).any fun z => PyData.eqv z (toPy x)) else none
  | _ => none
def cmpD : COp → D → D → Option Bool
  | .eq => eqD
  | .ne => fun a b => (eqD a b).map (!·)
  | .lt => ltD
  | .le => icmp fun i j => decide (i ≤ j)
  | .gt => icmp fun i j => decide (j < i)
  | .ge => icmp fun i j => decide (j ≤ i)
  | .is => isD
  | .isn => fun a b => (isD a b).map (!·)
  | .inn => inD
  | .nin => fun a b => (inD a b).map (!·)
def truthD : D → Option Bool
  | .non => some false
  | .bl b => some b
  | .int i => some (i != 0)
  | .str x => if x.length ≤ LINE then some ((x.length : Int) != 0) else none
  | .tup xs => some (!xs.isEmpty)
  | .lst xs => some (!xs.isEmpty)
  | .rol _ => none
  | .loc _ => none
def idxD : D → D → Option D
  | .lst xs, .int i => L2.atI xs i
  | .tup xs, .int i => L2.atI xs i
  | .str z, .int i => if z.length ≤ LINE then (L2.atI z.cps.toList i).map fun c => .str ⟨#[c]⟩ else none
  | _, _ => none
def cut {α : Type} (xs : List α) (lo hi : Option Int) : List α := (xs.drop (HT.sIx xs.length 0 lo)).take (HT.sIx xs.length xs.length hi - HT.sIx xs.length 0 lo)
def slcD (d : D) (lo hi : Option Int) : Option D := match d with
  | .lst xs => some (.lst (cut xs lo hi))
  | .rol xs => some (.lst (cut xs lo hi))
  | .tup xs => some (.tup (cut xs lo hi))
  | .str z => if z.length ≤ LINE then some (.str (L2.cutS z lo hi)) else none
  | _ => none
def revD : D → Option D
  | .lst xs => some (.lst xs.reverse)
  | .tup xs => some (.tup xs.reverse)
  | _ => none
def upD : D → Option D
  | .str z => if z.length ≤ 5592405 then some (.str (Txt.upper z)) else none
  | _ => none
def lenD : D → Option D
  | .lst xs => some (.int xs.length)
  | .rol xs => some (.int xs.length)
  | .tup xs => some (.int xs.length)
  | .str x => if x.length ≤ LINE then some (.int x.length) else none
  | _ => none
inductive Ty where
  | int | bool | str | tup | lst
  deriving DecidableEq
def Ty.name : Ty → String
  | .int => "int"
  | .bool => "bool"
  | .str => "str"
  | .tup => "tuple"
  | .lst => "list"
def isiD : D → Ty → Option Bool
  | .non, _ => some false
  | .bl _, t => some (t == .bool || t == .int)
  | .int _, t => some (t == .int)
  | .str _, t => some (t == .str)
  | .tup _, t => some (t == .tup)
  | .lst _, t => some (t == .lst)
  | .rol _, _ => none
  | .loc _, _ => none
inductive Blt where
  | len | int | abs | max | min | sum | any | all | tup | str
  deriving DecidableEq
def Blt.name : Blt → String
  | .len => "len"
  | .int => "int"
  | .abs => "abs"
  | .max => "max"
  | .min => "min"
  | .sum => "sum"
  | .any => "any"
  | .all => "all"
  | .tup => "tuple"
  | .str => "str"
def ints? : List D → Option (List Int)
  | [] => some []
  | .int i :: r => (ints? r).map (i :: ·)
  | _ :: _ => none
def bools? : List D → Option (List Bool)
  | [] => some []
  | .bl i :: r => (bools? r).map (i :: ·)
  | _ :: _ => none
def maxI : List Int → Int
  | [] => 0
  | [x] => x
  | x :: r => max x (maxI r)
def minI : List Int → Int
  | [] => 0
  | [x] => x
  | x :: r => min x (minI r)
def fLen : List D → Option D
  | [d] => lenD d
  | _ => none
def fInt : List D → Option D
  | [.int i] => some (.int i)
  | _ => none
def fAbs : List D → Option D
  | [.int i] => some (.int (if i < 0 then -i else i))
  | _ => none
def fMax : List D → Option D
  | [.int i, .int j] => some (.int (if j > i then j else i))
  | [.lst ds] => match ints? ds with
    | some (x :: r) => some (.int (maxI (x :: r)))
    | _ => none
  | _ => none
def fMin : List D → Option D
  | [.int i, .int j] => some (.int (if j < i then j else i))
  | [.int i, .int j, .int l] => some (.int (if l < (if j < i then j else i) then l else (if j < i then j else i)))
  | [.lst ds] => match ints? ds with
    | some (x :: r) => some (.int (minI (x :: r)))
    | _ => none
  | [.tup ds] => match ints? ds with
    | some (x :: r) => some (.int (minI (x :: r)))
    | _ => none
  | _ => none
def fSum : List D → Option D
  | [.lst ds] => (ints? ds).map fun l => .int l.sum
  | [.tup ds] => (ints? ds).map fun l => .int l.sum
  | _ => none
def fAny : List D → Option D
  | [.lst ds] => (bools? ds).map fun l => .bl (l.any id)
  | _ => none
def fAll : List D → Option D
  | [.lst ds] => (bools? ds).map fun l => .bl (l.all id)
  | _ => none
def fTup : List D → Option D
  | [.lst ds] => some (.tup ds)
  | [.tup ds] => some (.tup ds)
  | _ => none
def fStr : List D → Option D
  | [.int i] => if i.natAbs.log2 < 1920 then some (.str (toString i)) else none
  | _ => none
def bltD : Blt → List D → Option D
  | .len => fLen
  | .int => fInt
  | .abs => fAbs
  | .max => fMax
  | .min => fMin
  | .sum => fSum
  | .any => fAny
  | .all => fAll
  | .tup => fTup
  | .str => fStr
def deref (s : Sto) : D → D
  | .loc n => match s[n]? with
    | some (.lst ds) => .lst ds
    | _ => .loc n
  | d => d

/-! ### code -/
mutual
inductive Tg where
  | nm (i : Nat) | tp (ts : Tgs)
inductive Tgs where
  | nil | c (t : Tg) (ts : Tgs)
end
mutual
inductive Ex where
  | var (i : Nat) | int (i : Int) | str (x : Str) | bl (b : Bool) | non | gl (k : Nat)
  | tup (es : Exs) | fz (f : Fx) | alloc (f : Fx)
  | bin (op : BOp) (a b : Ex) | neg (a : Ex) | not (a : Ex)
  | cmp (op : COp) (a b : Ex) | chn (op op' : COp) (a b c : Ex)
  | bop (and : Bool) (es : Exs) | ite (c a b : Ex)
  | idx (a i : Ex) | slc (a : Ex) (lo hi : OEx) | rev (a : Ex) | up (a : Ex)
  | call (f : Nat) (es : Exs) | blt (b : Blt) (es : Exs) | isi (e : Ex) (t : Ty)
  | popL (i : Nat) (e : OEx)
  | fld (e : Ex) (f : Str) | mth (x : Str) (e : Ex) (m : Str) (k : Nat) (es : Exs) | new (x : Str) (k : Nat) (es : Exs)
inductive Exs where
  | nil | c (e : Ex) (es : Exs)
inductive OEx where
  | n | s (e : Ex)
inductive Fx where
  | dsp (es : Exs) | cp1 (elt : Ex) (tg : Tg) (it : Src) (cond : OEx) (vs : List Nat)
  | cp2 (elt : Ex) (tg : Tg) (it : Src) (cond : OEx) (tg1 : Tg) (it1 : Src) (cond1 : OEx) (vs vs1 : List Nat)
  | lof (e : Ex) | lrg (a : Ex)
inductive Src where
  | seq (e : Ex) | rg1 (a : Ex) | rg2 (a b : Ex) | rg3 (a b c : Ex) | enm (e : Ex) | zip (a b : Ex)
end
mutual
inductive Sm where
  | asg (tg : Tg) (e : Ex) | own (i : Nat) (f : Fx) | par (is : List Nat) (ps : Pxs)
  | ite (c : Ex) (a b : Sms) | for (tg : Tg) (it : Src) (b : Sms) | whl (c : Ex) (b : Sms)
  | ret (e : Ex) | retN | pass | brk | cnt | ex (e : Ex)
  | app (i : Nat) (e : Ex) | ext (i : Nat) (e : Ex) | setV (i : Nat) (k e : Ex) | augV (i : Nat) (k : Ex) (op : BOp) (e : Ex)
  | pop (tg : Tg) (i : Nat) (e : OEx) | aug (i : Nat) (op : BOp) (e : Ex) | setF (i : Nat) (x : Str) (fs : List Str) (es : Exs) | never
  | setE (a k e : Ex) | raise (x : Str) (e : Ex) | exM (x : Str) (o : Ex) (m : Str) (k : Nat) (es : Exs) | tryR (x : Str) (f : Nat) (es : Exs)
inductive Sms where
  | nil | c (s : Sm) (ss : Sms)
inductive Pxs where
  | nil | v (e : Ex) (ps : Pxs) | o (f : Fx) (ps : Pxs)
end

/-! ### evaluation -/
def truthS (s : Sto) (d : D) : Out Bool := lift (truthD (deref s d)) s
mutual
def bindT : Tg → D → Env → Option Env
  | .nm i, d, env => some (env.set i (some (.val d)))
  | .tp ts, .tup ds, env => bindTs ts ds env
  | .tp _, _, _ => none
def bindTs : Tgs → List D → Env → Option Env
  | .nil, [], env => some env
  | .c t ts, d :: ds, env => match bindT t d env with
    | some env' => bindTs ts ds env'
    | none => none
  | _, _, _ => none
end
def noOwn (env : Env) : Env := env.map fun
  | some (.own _) => none
  | x => x
def wipeE (env : Env) : List Nat → Env
  | [] => env
  | v :: vs => (wipeE env vs).set v none
/-- the lists that f gives, one behind the other -/
def flatF (f : D → Sto → Out (List D)) : List D → Sto → Out (List D)
  | [], s => .ok [] s
  | d :: ds, s => (f d s).bind fun xs s1 => (flatF f ds s1).bind fun ys s2 => .ok (xs ++ ys) s2
def isOwn (env : Env) : Ex → Bool
  | .var i => match env[i]? with
    | some (some (.own _)) => true
    | _ => false
  | .bop _ _ => true
  | _ => false
def borrows (env : Env) : Exs → Bool
  | .nil => false
  | .c e es => isOwn env e || borrows env es
def rangeL (lo c : Int) (n : Nat) : List D := (List.range n).map fun i => D.int (lo + (i : Nat) * c)
def rng1? : D → Option (List D)
  | .int j => if -4611686018427387904 ≤ j ∧ j < 4611686018427387904 then some (rangeL 0 1 j.toNat) else none
  | _ => none
def rng2? : D → D → Option (List D)
  | .int i, .int j => if -4611686018427387904 ≤ i ∧ i < 4611686018427387904 ∧ -4611686018427387904 ≤ j ∧ j < 4611686018427387904 then some (rangeL i 1 (j - i).toNat) else none
  | _, _ => none
def rng3? : D → D → D → Option (List D)
  | .int i, .int j, .int c => if c = -1 ∧ -4611686018427387904 ≤ i ∧ i < 4611686018427387904 ∧ -4611686018427387904 ≤ j ∧ j < 4611686018427387904 then some (rangeL i (-1) (i - j).toNat) else none
  | _, _, _ => none
/-- the list of a range -/
def rngL? : D → Option (List D)
  | .int j => if -1000000 ≤ j ∧ j ≤ 1000000 then some (rangeL 0 1 j.toNat) else none
  | _ => none
def items? : D → Option (List D)
  | .lst ds => some ds
  | .tup ds => some ds
  | .str x => some (x.cps.toList.map fun c => .str ⟨#[c]⟩)
  | _ => none
def enum? : D → Option (List D)
  | .lst ds => some ((List.range ds.length).zipWith (fun (i : Nat) d => D.tup [.int i, d]) ds)
  | .tup ds => some ((List.range ds.length).zipWith (fun (i : Nat) d => D.tup [.int i, d]) ds)
  | _ => none
def zip? : D → D → Option (List D)
  | .lst xs, .lst ys => some (xs.zipWith (fun a b => D.tup [a, b]) ys)
  | .tup xs, .tup ys => some (xs.zipWith (fun a b => D.tup [a, b]) ys)
  | .tup xs, .lst ys => some (xs.zipWith (fun a b => D.tup [a, b]) ys)
  | _, _ => none
def isL (s : Sto) (n : Nat) : Bool := match s[n]? with
  | some (.lst _) => true
  | _ => false
/-- the list that slot i holds -/
def getL (env : Env) (i : Nat) (s : Sto) : Option (List D) := match env[i]? with
  | some (some (.own ds)) => some ds
  | some (some (.val (.loc n))) => (match s[n]? with
    | some (.lst ds) => some ds
    | _ => none)
  | _ => none
section
variable (cf : Nat → List D → Sto → Out D) (gs : List D)
mutual
def ev (o : Bool) : Ex → Env → Sto → Out D
  | .var i, env, s => match env[i]? with
    | some (some (.val d)) => .ok d s
    | some (some (.own ds)) => if o = true then .ok (.lst ds) s else .err
    | _ => .err
  | .int i, _, s => .ok (.int i) s
  | .str x, _, s => .ok (.str x) s
  | .bl b, _, s => .ok (.bl b) s
  | .non, _, s => .ok .non s
  | .gl k, _, s => lift gs[k]? s
  | .tup es, env, s => (evL false es env s).bind fun ds s => .ok (.tup ds) s
  | .fz f, env, s => (evF f env s).bind fun ds s => .ok (.lst ds) s
  | .alloc f, env, s => (evF f env s).bind fun ds s => .ok (.loc s.length) (s ++ [.lst ds])
  | .bin op a b, env, s => (ev true a env s).bind fun x s => (ev true b env s).bind fun y s => lift (binD op (deref s x) (deref s y)) s
  | .neg a, env, s => (ev true a env s).bind fun x s => match x with
    | .int i => .ok (.int (-i)) s
    | _ => .err
  | .not a, env, s => (ev true a env s).bind fun x s => (truthS s x).bind fun b s => .ok (.bl (!b)) s
  | .cmp op a b, env, s => (ev true a env s).bind fun x s => (ev true b env s).bind fun y s => (lift (cmpD op (deref s x) (deref s y)) s).bind fun b s => .ok (.bl b) s
  | .chn op op' a b c, env, s => (ev true a env s).bind fun x s => (ev true b env s).bind fun y s => (lift (cmpD op (deref s x) (deref s y)) s).bind fun t s =>
    if t = true then (ev true c env s).bind fun z s => (lift (cmpD op' (deref s y) (deref s z)) s).bind fun b s => .ok (.bl b) s else .ok (.bl false) s
  | .bop and es, env, s => evB o and es env s
  | .ite c a b, env, s => (ev true c env s).bind fun x s => (truthS s x).bind fun t s => if t = true then ev false a env s else ev false b env s
  | .idx a i, env, s => (ev true a env s).bind fun x s => (ev true i env s).bind fun y s => lift (idxD (deref s x) y) s
  | .slc a lo hi, env, s => (ev true a env s).bind fun x s => (evO lo env s).bind fun l s => (evO hi env s).bind fun h s => lift (slcD (deref s x) l h) s
  | .rev a, env, s => (ev true a env s).bind fun x s => lift (revD (deref s x)) s
  | .up a, env, s => (ev true a env s).bind fun x s => lift (upD x) s
  | .call f es, env, s => (evL true es env s).bind fun ds s => (cf f ds s).bind fun d s =>
    if borrows env es = true then (if nolst? d = true ∧ nolstS? s = true then .ok d s else .err) else .ok d s
  | .blt b es, env, s => (evL true es env s).bind fun ds s => lift (bltD b (ds.map (deref s))) s
  | .isi e t, env, s => (ev true e env s).bind fun x s => (lift (isiD (deref s x) t) s).bind fun b s => .ok (.bl b) s
  | .popL i e, env, s => match env[i]? with
    | some (some (.val (.loc n))) => if isL s n = false then .err else (evO e env s).bind fun k s => match s[n]? with
      | some (.lst ds) => (match k with
        | none => (match ds[ds.length - 1]? with
          | some d => .ok d (s.set n (.lst ds.dropLast))
          | none => .err)
        | some k => if -9223372036854775808 ≤ k ∧ k < 9223372036854775808 then (match L2.ixN ds.length k with
          | some j => (match ds[j]? with
            | some d => .ok d (s.set n (.lst (ds.eraseIdx j)))
            | none => .err)
          | none => .err) else .err)
      | _ => .err
    | _ => .err
  | .fld e f, env, s => (ev true e env s).bind fun x s => match x with
    | .loc n => (match s[n]? with
      | some (.obj _ fs) => lift (fs.lookup f) s
      | _ => .err)
    | _ => .err
  | .mth x e m k es, env, s => (ev true e env s).bind fun o s => match o with
    | .loc n => (match s[n]? with
      | some (.obj x' fs) => if x' = x ∧ (fs.lookup m).isNone = true then (evL false es env s).bind fun ds s => cf k (.loc n :: ds) s else .err
      | _ => .err)
    | _ => .err
  | .new x k es, env, s => (evL false es env s).bind fun ds s => (cf k (.loc s.length :: ds) (s ++ [.obj x []])).bind fun r s' => match r with
    | .non => .ok (.loc s.length) s'
    | _ => .err
def evL (o : Bool) : Exs → Env → Sto → Out (List D)
  | .nil, _, s => .ok [] s
  | .c e es, env, s => (ev o e env s).bind fun d s => (evL o es env s).bind fun ds s => .ok (d :: ds) s
def evB (o and : Bool) : Exs → Env → Sto → Out D
  | .nil, _, _ => .err
  | .c e .nil, env, s => ev o e env s
  | .c e (.c e' es), env, s => (ev o e env s).bind fun x s => (truthS s x).bind fun t s => if t = and then evB o and (.c e' es) env s else .ok x s
def evO : OEx → Env → Sto → Out (Option Int)
  | .n, _, s => .ok none s
  | .s e, env, s => (ev true e env s).bind fun x s => match x with
    | .int i => .ok (some i) s
    | _ => .err
def evC : OEx → Env → Sto → Out Bool
  | .n, _, s => .ok true s
  | .s e, env, s => (ev true e env s).bind fun x s => truthS s x
def evF : Fx → Env → Sto → Out (List D)
  | .dsp es, env, s => evL false es env s
  | .cp1 elt tg it cond vs, env, s => (evI true it env s).bind fun xs s => (flatF (fun d s => match bindT tg d (wipeE (noOwn env) vs) with
    | none => .err
    | some env1 => (evC cond env1 s).bind fun t s => if t = true then (ev false elt env1 s).bind fun y s => .ok [y] s else .ok [] s) xs s).bind fun ys s =>
      if ys.length ≤ LINE then .ok ys s else .err
  | .cp2 elt tg it cond tg1 it1 cond1 vs vs1, env, s => (evI true it env s).bind fun xs s => (flatF (fun d s => match bindT tg d (wipeE (noOwn env) vs) with
    | none => .err
    | some env1 => (evC cond env1 s).bind fun t s => if t = true then (evI false it1 env1 s).bind fun zs s => flatF (fun d s => match bindT tg1 d (wipeE env1 vs1) with
      | none => .err
      | some env2 => (evC cond1 env2 s).bind fun t s => if t = true then (ev false elt env2 s).bind fun y s => .ok [y] s else .ok [] s) zs s else .ok [] s) xs s).bind fun ys s =>
      if ys.length ≤ LINE then .ok ys s else .err
  | .lof e, env, s => (ev true e env s).bind fun x s => match deref s x with
    | .lst ds => .ok ds s
    | .tup ds => .ok ds s
    | _ => .err
  | .lrg a, env, s => (ev true a env s).bind fun x s => lift (rngL? x) s
def evI (o : Bool) : Src → Env → Sto → Out (List D)
  | .seq e, env, s => (ev o e env s).bind fun x s => lift (items? x) s
  | .rg1 a, env, s => (ev true a env s).bind fun x s => lift (rng1? x) s
  | .rg2 a b, env, s => (ev true a env s).bind fun x s => (ev true b env s).bind fun y s => lift (rng2? x y) s
  | .rg3 a b c, env, s => (ev true a env s).bind fun x s => (ev true b env s).bind fun y s => (ev true c env s).bind fun z s => lift (rng3? x y z) s
  | .enm e, env, s => (ev o e env s).bind fun x s => lift (enum? x) s
  | .zip a b, env, s => (ev o a env s).bind fun x s => (ev o b env s).bind fun y s => lift (zip? x y) s
end

/-! ### statements -/
inductive Flow where
  | nx (env : Env) | ret (d : D) | bk (env : Env) | ct (env : Env) | rs (x : Str) (d : D)
def frz : Option SV → Option SV
  | some (.own ds) => some (.val (.lst ds))
  | x => x
def frzAt (env : Env) (i : Nat) : Env := match env[i]? with
  | some (some (.own ds)) => env.set i (some (.val (.lst ds)))
  | _ => env
def frzE (env : Env) : Ex → Env
  | .var i => frzAt env i
  | _ => env
def frzI (env : Env) : Src → Env
  | .seq e => frzE env e
  | .enm e => frzE env e
  | .zip a b => frzE (frzE env a) b
  | _ => env
def frzRs : Env → Exs → Env
  | env, .nil => env
  | env, .c (.var i) es => frzRs (frzAt env i) es
  | env, .c _ es => frzRs env es
def frzR (env : Env) : Ex → Env
  | .var i => frzAt env i
  | .tup es => frzRs env es
  | _ => env
def forF (f : D → Env → Sto → Out Flow) : List D → Env → Sto → Out Flow
  | [], env, s => .ok (.nx env) s
  | d :: ds, env, s => (f d env s).bind fun fl s => match fl with
    | .nx env' => forF f ds env' s
    | .ct env' => forF f ds env' s
    | .bk env' => .ok (.nx env') s
    | .ret d => .ok (.ret d) s
    | .rs x d => .ok (.rs x d) s
def whileN (c : Env → Sto → Out Bool) (b : Env → Sto → Out Flow) : Nat → Env → Sto → Out Flow
  | 0, _, _ => .err
  | n + 1, env, s => (c env s).bind fun t s => if t = true then (b env s).bind fun fl s => (match fl with
    | .nx env' => whileN c b n env' s
    | .ct env' => whileN c b n env' s
    | .bk env' => .ok (.nx env') s
    | .ret d => .ok (.ret d) s
    | .rs x d => .ok (.rs x d) s) else .ok (.nx env) s
open Classical in
noncomputable def whileF (c : Env → Sto → Out Bool) (b : Env → Sto → Out Flow) (env : Env) (s : Sto) : Out Flow :=
  if h : ∃ n, whileN c b n env s ≠ .err then whileN c b (Classical.choose h) env s else .err
def setAll (env : Env) : List Nat → List SV → Option Env
  | [], [] => some env
  | i :: is, v :: vs => setAll (env.set i (some v)) is vs
  | _, _ => none
def evP : Pxs → Env → Sto → Out (List SV)
  | .nil, _, s => .ok [] s
  | .v e ps, env, s => (ev cf gs false e env s).bind fun d s => (evP ps env s).bind fun r s => .ok (.val d :: r) s
  | .o f ps, env, s => (evF cf gs f env s).bind fun d s => (evP ps env s).bind fun r s => .ok (.own d :: r) s
/-- a list that slot i holds changes -/
def chg (env : Env) (i : Nat) (s : Sto) (f : List D → Option (List D)) : Out Flow := match env[i]? with
  | some (some (.own ds)) => (match f ds with
    | some ds' => .ok (.nx (env.set i (some (.own ds')))) s
    | none => .err)
  | some (some (.val (.loc n))) => (match s[n]? with
    | some (.lst ds) => (match f ds with
      | some ds' => .ok (.nx env) (s.set n (.lst ds'))
      | none => .err)
    | _ => .err)
  | _ => .err
def putD (f : Str) (y : D) : List (Str × D) → List (Str × D)
  | [] => [(f, y)]
  | (g, z) :: r => if g = f then (g, y) :: r else (g, z) :: putD f y r
def putDs (fs : List (Str × D)) : List (Str × D) → List (Str × D)
  | [] => fs
  | (f, y) :: r => putDs (putD f y fs) r
/-- a def's index, where it is asked for what it raises -/
def RX : Nat := 1000000
def exC (env : Env) : Out D → Out D → Out Flow
  | .ok _ s', _ => .ok (.nx env) s'
  | .err, .ok (.tup [.str x, d]) s' => .ok (.rs x d) s'
  | .err, _ => .err
def tryC (x : Str) : Out D → Out D → Out Flow
  | .ok d s', _ => .ok (.ret d) s'
  | .err, .ok (.tup [.str y, _]) s' => if y = x then .ok (.ret .non) s' else .err
  | .err, _ => .err
def augI : BOp → Int → Int → Option Int
  | .add, a, b => some (a + b)
  | .sub, a, b => some (a - b)
  | _, _, _ => none
mutual
noncomputable def exec : Sm → Env → Sto → Out Flow
  | .asg tg e, env, s => (ev cf gs false e env s).bind fun d s => match bindT tg d env with
    | some env' => .ok (.nx env') s
    | none => .err
  | .own i f, env, s => (evF cf gs f env s).bind fun ds s => .ok (.nx (env.set i (some (.own ds)))) s
  | .par is ps, env, s => (evP cf gs ps env s).bind fun vs s => match setAll env is vs with
    | some env' => .ok (.nx env') s
    | none => .err
  | .ite c a b, env, s => (ev cf gs true c env s).bind fun x s => (truthS s x).bind fun t s => if t = true then execs a env s else execs b env s
  | .for tg it b, env, s => (evI cf gs false it (frzI env it) s).bind fun xs s => forF (fun d env s => match bindT tg d env with
    | some env1 => execs b env1 s
    | none => .err) xs (frzI env it) s
  | .whl c b, env, s => whileF (fun env s => (ev cf gs true c env s).bind fun x s => truthS s x) (fun env s => execs b env s) env s
  | .ret e, env, s => (ev cf gs false e (frzR env e) s).bind fun d s => .ok (.ret d) s
  | .retN, _, s => .ok (.ret .non) s
  | .pass, env, s => .ok (.nx env) s
  | .brk, env, s => .ok (.bk env) s
  | .cnt, env, s => .ok (.ct env) s
  | .ex e, env, s => (ev cf gs false e env s).bind fun _ s => .ok (.nx env) s
  | .app i e, env, s => if (getL env i s).isNone = true then .err else (ev cf gs false e env s).bind fun d s => chg env i s fun ds => if ds.length < LINE then some (ds ++ [d]) else none
  | .ext i e, env, s => if (getL env i s).isNone = true then .err else (ev cf gs true e env s).bind fun d s => (match d with
    | .lst zs => chg env i s fun ds => if ds.length + zs.length ≤ LINE then some (ds ++ zs) else none
    | _ => .err)
  | .setV i k e, env, s => if (getL env i s).isNone = true then .err else (ev cf gs false e env s).bind fun d s => (ev cf gs true k env s).bind fun x s => (match x with
    | .int k => chg env i s fun ds => (L2.ixN ds.length k).map fun j => ds.set j d
    | _ => .err)
  | .augV i k op e, env, s => (ev cf gs true k env s).bind fun x s => (match x with
    | .int k => (match getL env i s with
      | some ds => (match L2.atI ds k with
        | some (.int a) => (ev cf gs true e env s).bind fun y s => (match y with
          | .int b => (match augI op a b with
            | some c => chg env i s fun ds => (L2.ixN ds.length k).map fun j => ds.set j (.int c)
            | none => .err)
          | _ => .err)
        | _ => .err)
      | none => .err)
    | _ => .err)
  | .pop tg i e, env, s => .err
  | .aug i op e, env, s => (match env[i]? with
    | some (some (.val (.int a))) => (ev cf gs true e env s).bind fun y s => (match y with
      | .int b => (match augI op a b with
        | some c => .ok (.nx (env.set i (some (.val (.int c))))) s
        | none => .err)
      | _ => .err)
    | _ => .err)
  | .setF i x fs es, env, s => (evL cf gs false es env s).bind fun ds s => (match env[i]? with
    | some (some (.val (.loc n))) => (match s[n]? with
      | some (.obj x' f0) => if x' = x ∧ fs.length = ds.length ∧ f0.length + fs.length < 1000 then .ok (.nx env) (s.set n (.obj x (putDs f0 (fs.zip ds)))) else .err
      | _ => .err)
    | _ => .err)
  | .never, _, _ => .err
  | .setE a k e, env, s => (ev cf gs false e env s).bind fun d s => (ev cf gs true a env s).bind fun o s => (ev cf gs true k env s).bind fun x s => (match o, x with
    | .loc n, .int i => (match s[n]? with
      | some (.lst ds) => (match L2.ixN ds.length i with
        | some j => .ok (.nx env) (s.set n (.lst (ds.set j d)))
        | none => .err)
      | _ => .err)
    | _, _ => .err)
  | .raise x e, env, s => (ev cf gs false e env s).bind fun d s => (match d with
    | .int i => if 0 ≤ i ∧ i ≤ 1000000000000 then .ok (.rs x (.int i)) s else .err
    | _ => .err)
  | .exM x o m k es, env, s => (ev cf gs true o env s).bind fun o s => (match o with
    | .loc n => (match s[n]? with
      | some (.obj x' fs) => if x' = x ∧ (fs.lookup m).isNone = true then (evL cf gs false es env s).bind fun ds s => exC env (cf k (.loc n :: ds) s) (cf (RX + k) (.loc n :: ds) s) else .err
      | _ => .err)
    | _ => .err)
  | .tryR x f es, env, s => if borrows env es = true then .err else (evL cf gs true es env s).bind fun ds s => tryC x (cf f ds s) (cf (RX + f) ds s)
noncomputable def execs : Sms → Env → Sto → Out Flow
  | .nil, env, s => .ok (.nx env) s
  | .c st r, env, s => (exec st env s).bind fun fl s => match fl with
    | .nx env' => execs r env' s
    | .ret d => .ok (.ret d) s
    | .bk env' => .ok (.bk env') s
    | .ct env' => .ok (.ct env') s
    | .rs x d => .ok (.rs x d) s
end
end
/-- a def: the slots, the parameters, the body -/
structure Fn where
  N : List Str
  ps : List Str
  body : Sms
def startE (n : Nat) (ds : List D) : Env := ds.map (fun d => some (.val d)) ++ List.replicate (n - ds.length) none
def retOf : Out Flow → Out D
  | .ok (.ret d) s => .ok d s
  | .ok (.nx _) s => .ok .non s
  | _ => .err
def excOf : Out Flow → Out D
  | .ok (.rs x d) s => .ok (.tup [.str x, d]) s
  | _ => .err
/-- the program's defs, by levels of calls -/
noncomputable def callF (fs : List Fn) (gs : List D) : Nat → Nat → List D → Sto → Out D
  | 0, _, _, _ => .err
  | n + 1, i, ds, s => match fs[i]? with
    | some f => if ds.length = f.ps.length then retOf (execs (callF fs gs n) gs f.body (startE f.N.length ds) s) else .err
    | none => if i < RX then .err else match fs[i - RX]? with
      | some f => if ds.length = f.ps.length then excOf (execs (callF fs gs n) gs f.body (startE f.N.length ds) s) else .err
      | none => .err
end PV
set_option maxRecDepth 100000
/-! How deep values lie in the abstract heap. -/
namespace PV
open PySem PySem.Spec PyProof.Rows L2

/-- a tuple, a list of the written part -/
def KT (K : PySem.W.Frag) (a : Addr) (xs : List V) : Prop :=
  ∃ (o : Obj) (its : Array Value) (n : Nat), K.lookup a = some o ∧ o.cls = .type "tuple" ∧ o.data = .seq its n ∧ its.size ≤ sizeLine ∧ Vals xs its.toList
def KL (K : PySem.W.Frag) (a : Addr) (xs : List V) : Prop :=
  ∃ (o : Obj) (its : Array Value) (n : Nat), K.lookup a = some o ∧ o.cls = .type "list" ∧ o.dict = none ∧ o.data = .seq its n ∧ its.size ≤ sizeLine ∧ Vals xs its.toList
def Tp (K : PySem.W.Frag) (S : Addr → Prop) (H : Hp) (a : Addr) (xs : List V) : Prop := (S a ∧ H a = some (.tup xs)) ∨ KT K a xs
def Rl (K : PySem.W.Frag) (S : Addr → Prop) (H : Hp) (a : Addr) (xs : List V) : Prop := (S a ∧ Rd H a (.lst xs)) ∨ KL K a xs
mutual
inductive Rep (K : PySem.W.Frag) (S : Addr → Prop) (φ : List Addr) (H : Hp) : V → D → Prop
  | non : Rep K S φ H .non .non
  | bl (b : Bool) : Rep K S φ H (.bl b) (.bl b)
  | int (i : Int) : Rep K S φ H (.int i) (.int i)
  | str (x : Str) : Rep K S φ H (.str x) (.str x)
  | tup {a : Addr} {xs : List V} {ds : List D} : Tp K S H a xs → RepL K S φ H xs ds → Rep K S φ H (.ref a) (.tup ds)
  | lst {a : Addr} {xs : List V} {ds : List D} : S a → H a = some (.lst xs) → RepL K S φ H xs ds → Rep K S φ H (.ref a) (.lst ds)
  | rol {a : Addr} {xs : List V} {ds : List D} : Rl K S H a xs → RepL K S φ H xs ds → Rep K S φ H (.ref a) (.rol ds)
  | loc {a : Addr} {n : Nat} : φ[n]? = some a → Rep K S φ H (.ref a) (.loc n)
inductive RepL (K : PySem.W.Frag) (S : Addr → Prop) (φ : List Addr) (H : Hp) : List V → List D → Prop
  | nil : RepL K S φ H [] []
  | cons {v : V} {vs : List V} {d : D} {ds : List D} : Rep K S φ H v d → RepL K S φ H vs ds → RepL K S φ H (v :: vs) (d :: ds)
end
section
variable {K : PySem.W.Frag} {S S' S2 : Addr → Prop} {φ φ' φ2 : List Addr} {H H' H2 : Hp} {v : V} {d : D} {vs ws : List V} {ds es : List D}
theorem Tp.sq {a : Addr} (h : Tp K S H a vs) : SqT K H a vs := by
  rcases h with ⟨_, h⟩ | h
  · exact .inl (.inl h)
  · exact .inr h
theorem Rl.sq {a : Addr} (h : Rl K S H a vs) : SqL K H a vs := by
  rcases h with ⟨_, h⟩ | h
  · exact .inl h
  · exact .inr h
theorem RepL.length (h : RepL K S φ H vs ds) : vs.length = ds.length := by
  induction vs generalizing ds with
  | nil => cases h; rfl
  | cons v vs ih => cases h with
    | cons _ h2 => simp [ih h2]
theorem RepL.get {i : Nat} (h : RepL K S φ H vs ds) {d : D} (e : ds[i]? = some d) : ∃ v, vs[i]? = some v ∧ Rep K S φ H v d := by
  induction vs generalizing ds i with
  | nil => cases h; simp at e
  | cons v vs ih => cases h with
    | cons h1 h2 =>
      cases i with
      | zero => simp at e; subst e; exact ⟨v, rfl, h1⟩
      | succ i => simp at e; obtain ⟨v', e', r⟩ := ih h2 e; exact ⟨v', by simpa using e', r⟩
theorem RepL.append (h : RepL K S φ H vs ds) (h' : RepL K S φ H ws es) : RepL K S φ H (vs ++ ws) (ds ++ es) := by
  induction vs generalizing ds with
  | nil => cases h; exact h'
  | cons v vs ih => cases h with
    | cons h1 h2 => exact .cons h1 (ih h2)
theorem RepL.take (n : Nat) (h : RepL K S φ H vs ds) : RepL K S φ H (vs.take n) (ds.take n) := by
  induction vs generalizing ds n with
  | nil => cases h; simp; exact .nil
  | cons v vs ih => cases h with
    | cons h1 h2 =>
      cases n with
      | zero => exact .nil
      | succ n => exact .cons h1 (ih n h2)
theorem RepL.drop (n : Nat) (h : RepL K S φ H vs ds) : RepL K S φ H (vs.drop n) (ds.drop n) := by
  induction vs generalizing ds n with
  | nil => cases h; simp; exact .nil
  | cons v vs ih => cases h with
    | cons h1 h2 =>
      cases n with
      | zero => exact .cons h1 h2
      | succ n => exact ih n h2
theorem RepL.reverse (h : RepL K S φ H vs ds) : RepL K S φ H vs.reverse ds.reverse := by
  induction vs generalizing ds with
  | nil => cases h; exact .nil
  | cons v vs ih => cases h with
    | cons h1 h2 => simp only [List.reverse_cons]; exact (ih h2).append (.cons h1 .nil)
theorem RepL.dropLast (h : RepL K S φ H vs ds) : RepL K S φ H vs.dropLast ds.dropLast := by
  rw [List.dropLast_eq_take, List.dropLast_eq_take, h.length]; exact h.take _
theorem RepL.eraseIdx (n : Nat) (h : RepL K S φ H vs ds) : RepL K S φ H (vs.eraseIdx n) (ds.eraseIdx n) := by
  rw [List.eraseIdx_eq_take_drop_succ, List.eraseIdx_eq_take_drop_succ]; exact (h.take n).append (h.drop (n + 1))
theorem RepL.set (n : Nat) (h : RepL K S φ H vs ds) (r : Rep K S φ H v d) : RepL K S φ H (vs.set n v) (ds.set n d) := by
  induction vs generalizing ds n with
  | nil => cases h; exact .nil
  | cons v vs ih => cases h with
    | cons h1 h2 =>
      cases n with
      | zero => exact .cons r h2
      | succ n => exact .cons h1 (ih n h2)

/-- from one state to a later one: what stood stands, but the store's objects; what is stable now was so, or is new -/
structure Stp (S : Addr → Prop) (φ : List Addr) (H : Hp) (S' : Addr → Prop) (φ' : List Addr) (H' : Hp) : Prop where
  keep : ∀ a o, H a = some o → a ∉ φ → H' a = some o
  some : ∀ a, H a ≠ none → H' a ≠ none
  sub : ∀ a, S a → S' a
  new : ∀ a, S' a → S a ∨ H a = none
  phi : ∃ ψ, φ' = φ ++ ψ ∧ ∀ a ∈ ψ, H a = none
theorem Stp.refl : Stp S φ H S φ H := ⟨fun _ _ h _ => h, fun _ h => h, fun _ h => h, fun _ h => .inl h, [], by simp⟩
theorem Stp.free (x : Stp S φ H S' φ' H') {a : Addr} (h : H' a = none) : H a = none := by
  cases e : H a with
  | none => rfl
  | some o => exact absurd h (x.some a (by rw [e]; simp))
theorem Stp.trans (x : Stp S φ H S' φ' H') (y : Stp S' φ' H' S2 φ2 H2) : Stp S φ H S2 φ2 H2 := by
  obtain ⟨ψ, e, hf⟩ := x.phi
  obtain ⟨ψ2, e2, hf2⟩ := y.phi
  subst e
  refine ⟨fun a o h ha => ?_, fun a h => y.some a (x.some a h), fun a h => y.sub a (x.sub a h), fun a h => ?_, ψ ++ ψ2, by rw [e2, List.append_assoc], fun a ha => ?_⟩
  · refine y.keep a o (x.keep a o h ha) fun hm => ?_
    rcases List.mem_append.mp hm with q | q
    · exact ha q
    · have := hf a q; rw [h] at this; cases this
  · rcases y.new a h with q | q
    · exact x.new a q
    · exact .inr (x.free q)
  · rcases List.mem_append.mp ha with q | q
    · exact hf a q
    · exact x.free (hf2 a q)
/-- an object of the store: a list, an instance -/
def ORep (K : PySem.W.Frag) (S : Addr → Prop) (φ : List Addr) (H : Hp) (a : Addr) : SO → Prop
  | .lst ds => ∃ vs, H a = some (.lst vs) ∧ RepL K S φ H vs ds
  | .obj x fs => ∃ dx us, H a = some (.ins (He.ga K x) dx us) ∧ us.map (·.1) = fs.map (·.1) ∧ RepL K S φ H (us.map (·.2)) (fs.map (·.2)) ∧ Cls K (He.ga K x) ∧ ∀ q ∈ fs, NoAttr K (He.ga K x) q.1
theorem ORep.some {a : Addr} {o : SO} (h : ORep K S φ H a o) : H a ≠ none := by
  cases o with
  | lst ds => obtain ⟨vs, e, _⟩ := h; rw [e]; simp
  | obj x fs => obtain ⟨dx, us, e, _⟩ := h; rw [e]; simp
/-- a state -/
structure SI (K : PySem.W.Frag) (S : Addr → Prop) (φ : List Addr) (H : Hp) (st : Sto) : Prop where
  dom : ∀ a, S a → H a ≠ none
  dis : ∀ a ∈ φ, ¬ S a
  len : φ.length = st.length
  nd : φ.Nodup
  obj : ∀ (n : Nat) a o, φ[n]? = some a → st[n]? = some o → ORep K S φ H a o
mutual
theorem Rep.tr (hS : ∀ a, S a → H' a = H a) (sub : ∀ a, S a → S' a) (hφ : ∃ ψ, φ' = φ ++ ψ) : ∀ {v : V} {d : D}, Rep K S φ H v d → Rep K S' φ' H' v d
  | _, _, .non => .non
  | _, _, .bl b => .bl b
  | _, _, .int i => .int i
  | _, _, .str z => .str z
  | _, _, .tup h r => .tup (by
      rcases h with ⟨hs, h⟩ | h
      · exact .inl ⟨sub _ hs, (hS _ hs).trans h⟩
      · exact .inr h) (RepL.tr hS sub hφ r)
  | _, _, .lst hs h r => .lst (sub _ hs) ((hS _ hs).trans h) (RepL.tr hS sub hφ r)
  | _, _, .rol h r => .rol (by
      rcases h with ⟨hs, h | ⟨o, h⟩⟩ | h
      · exact .inl ⟨sub _ hs, .inl ((hS _ hs).trans h)⟩
      · exact .inl ⟨sub _ hs, .inr ⟨o, (hS _ hs).trans h⟩⟩
      · exact .inr h) (RepL.tr hS sub hφ r)
  | _, _, .loc h => .loc (by
      obtain ⟨ψ, e⟩ := hφ
      rw [e, List.getElem?_append_left (List.getElem?_eq_some_iff.mp h).1]; exact h)
theorem RepL.tr (hS : ∀ a, S a → H' a = H a) (sub : ∀ a, S a → S' a) (hφ : ∃ ψ, φ' = φ ++ ψ) : ∀ {vs : List V} {ds : List D}, RepL K S φ H vs ds → RepL K S' φ' H' vs ds
  | _, _, .nil => .nil
  | _, _, .cons h1 h2 => .cons (Rep.tr hS sub hφ h1) (RepL.tr hS sub hφ h2)
end
theorem ORep.tr (hS : ∀ a, S a → H' a = H a) (sub : ∀ a, S a → S' a) (hφ : ∃ ψ, φ' = φ ++ ψ) {a : Addr} {o : SO} (e : H' a = H a) (h : ORep K S φ H a o) : ORep K S' φ' H' a o := by
  cases o with
  | lst ds => obtain ⟨vs, e1, r⟩ := h; exact ⟨vs, e.trans e1, r.tr hS sub hφ⟩
  | obj x fs => obtain ⟨dx, us, e1, e2, r, c⟩ := h; exact ⟨dx, us, e.trans e1, e2, r.tr hS sub hφ, c⟩
theorem Stp.same (x : Stp S φ H S' φ' H') (dom : ∀ a, S a → H a ≠ none) (dj : ∀ a ∈ φ, ¬ S a) : ∀ a, S a → H' a = H a := fun a h => by
  cases e : H a with
  | none => exact absurd e (dom a h)
  | some o => exact x.keep a o e fun q => dj a q h
theorem Rep.mono (x : Stp S φ H S' φ' H') {st : Sto} (I : SI K S φ H st) (r : Rep K S φ H v d) : Rep K S' φ' H' v d :=
  r.tr (x.same I.dom I.dis) x.sub (let ⟨ψ, e, _⟩ := x.phi; ⟨ψ, e⟩)
theorem ORep.mono (x : Stp S φ H S' φ' H') {st : Sto} (I : SI K S φ H st) {a : Addr} {o : SO} (e : H' a = H a) (h : ORep K S φ H a o) : ORep K S' φ' H' a o :=
  h.tr (x.same I.dom I.dis) x.sub (let ⟨ψ, e, _⟩ := x.phi; ⟨ψ, e⟩) e
theorem RepL.mono (x : Stp S φ H S' φ' H') {st : Sto} (I : SI K S φ H st) (r : RepL K S φ H vs ds) : RepL K S' φ' H' vs ds :=
  r.tr (x.same I.dom I.dis) x.sub (let ⟨ψ, e, _⟩ := x.phi; ⟨ψ, e⟩)
mutual
/-- what stands in the written part alone stands everywhere -/
theorem Rep.ofK : ∀ {v : V} {d : D}, Rep K (fun _ => False) [] (fun _ => none) v d → Rep K S φ H v d
  | _, _, .non => .non
  | _, _, .bl b => .bl b
  | _, _, .int i => .int i
  | _, _, .str z => .str z
  | _, _, .tup h r => .tup (by
      rcases h with ⟨hs, _⟩ | h
      · exact hs.elim
      · exact .inr h) (RepL.ofK r)
  | _, _, .lst hs _ _ => hs.elim
  | _, _, .rol h r => .rol (by
      rcases h with ⟨hs, _⟩ | h
      · exact hs.elim
      · exact .inr h) (RepL.ofK r)
  | _, _, .loc h => by simp at h
theorem RepL.ofK : ∀ {vs : List V} {ds : List D}, RepL K (fun _ => False) [] (fun _ => none) vs ds → RepL K S φ H vs ds
  | _, _, .nil => .nil
  | _, _, .cons h1 h2 => .cons (Rep.ofK h1) (RepL.ofK h2)
end
/-- a value, or (where o) a tracked list that need not be stable -/
def RepM (o : Bool) (K : PySem.W.Frag) (S : Addr → Prop) (φ : List Addr) (H : Hp) (v : V) (d : D) : Prop :=
  Rep K S φ H v d ∨ (o = true ∧ ∃ a vs ds, v = .ref a ∧ d = .lst ds ∧ a ∉ φ ∧ H a = some (.lst vs) ∧ RepL K S φ H vs ds)
theorem RepM.of (h : Rep K S φ H v d) {o : Bool} : RepM o K S φ H v d := .inl h
theorem RepM.val (h : RepM false K S φ H v d) : Rep K S φ H v d := by
  rcases h with h | ⟨e, _⟩
  · exact h
  · cases e
theorem RepM.up {o : Bool} (h : RepM o K S φ H v d) : RepM true K S φ H v d := by
  rcases h with h | ⟨_, h⟩
  · exact .inl h
  · exact .inr ⟨rfl, h⟩
theorem RepM.mono {o : Bool} (x : Stp S φ H S' φ' H') {st : Sto} (I : SI K S φ H st) (h : RepM o K S φ H v d) : RepM o K S' φ' H' v d := by
  rcases h with h | ⟨e, a, vs, ds, e1, e2, ha, hh, r⟩
  · exact .inl (h.mono x I)
  · refine .inr ⟨e, a, vs, ds, e1, e2, fun q => ?_, x.keep a _ hh ha, r.mono x I⟩
    obtain ⟨ψ, eψ, hf⟩ := x.phi
    rw [eψ] at q
    rcases List.mem_append.mp q with q | q
    · exact ha q
    · have := hf a q; rw [hh] at this; cases this
/-- a value to be read: its lists need not be stable at the outermost -/
def RepD (K : PySem.W.Frag) (S : Addr → Prop) (φ : List Addr) (H : Hp) (v : V) (d : D) : Prop :=
  Rep K S φ H v d ∨ ∃ a vs ds, v = .ref a ∧ d = .lst ds ∧ H a = some (.lst vs) ∧ RepL K S φ H vs ds
theorem RepM.rd {o : Bool} {st : Sto} (I : SI K S φ H st) (h : RepM o K S φ H v d) : RepD K S φ H v (deref st d) := by
  rcases h with h | ⟨_, a, vs, ds, e1, e2, ha, hh, r⟩
  · cases h with
    | non => exact .inl .non
    | bl b => exact .inl (.bl b)
    | int i => exact .inl (.int i)
    | str z => exact .inl (.str z)
    | tup h r => exact .inl (.tup h r)
    | lst hs h r => exact .inl (.lst hs h r)
    | rol h r => exact .inl (.rol h r)
    | @loc a n h =>
      cases e : st[n]? with
      | none =>
        have q : deref st (.loc n) = .loc n := by simp only [deref, e]
        rw [q]; exact .inl (.loc h)
      | some o =>
        cases o with
        | lst ds =>
          have q : deref st (.loc n) = .lst ds := by simp only [deref, e]
          obtain ⟨vs, hv, r⟩ := I.obj n a (.lst ds) h e
          exact .inr ⟨a, vs, ds, rfl, q, hv, r⟩
        | obj x fs =>
          have q : deref st (.loc n) = .loc n := by simp only [deref, e]
          rw [q]; exact .inl (.loc h)
  · subst e2
    exact .inr ⟨a, vs, ds, e1, rfl, hh, r⟩
theorem RepM.rd0 {o : Bool} (h : RepM o K S φ H v d) : RepD K S φ H v d := by
  rcases h with h | ⟨_, a, vs, ds, e1, e2, ha, hh, r⟩
  · exact .inl h
  · exact .inr ⟨a, vs, ds, e1, e2, hh, r⟩
theorem RepD.int {i : Int} (h : RepD K S φ H v (.int i)) : v = .int i := by
  rcases h with h | ⟨_, _, _, _, e, _⟩
  · cases h; rfl
  · cases e
theorem RepD.bl {b : Bool} (h : RepD K S φ H v (.bl b)) : v = .bl b := by
  rcases h with h | ⟨_, _, _, _, e, _⟩
  · cases h; rfl
  · cases e
theorem RepD.str {b : Str} (h : RepD K S φ H v (.str b)) : v = .str b := by
  rcases h with h | ⟨_, _, _, _, e, _⟩
  · cases h; rfl
  · cases e
theorem RepD.non (h : RepD K S φ H v .non) : v = .non := by
  rcases h with h | ⟨_, _, _, _, e, _⟩
  · cases h; rfl
  · cases e
theorem RepD.tup (h : RepD K S φ H v (.tup ds)) : ∃ a vs, v = .ref a ∧ SqT K H a vs ∧ RepL K S φ H vs ds ∧ Rep K S φ H v (.tup ds) := by
  rcases h with h | ⟨_, _, _, _, e, _⟩
  · cases h with
    | tup h r => exact ⟨_, _, rfl, h.sq, r, .tup h r⟩
  · cases e
theorem RepD.lst (h : RepD K S φ H v (.lst ds)) : ∃ a vs, v = .ref a ∧ H a = some (.lst vs) ∧ RepL K S φ H vs ds := by
  rcases h with h | ⟨a, vs, _, e1, e, h, r⟩
  · cases h with
    | lst hs h r => exact ⟨_, _, rfl, h, r⟩
  · cases e; exact ⟨a, vs, e1, h, r⟩
theorem RepD.rol (h : RepD K S φ H v (.rol ds)) : ∃ a vs, v = .ref a ∧ SqL K H a vs ∧ RepL K S φ H vs ds := by
  rcases h with h | ⟨a, vs, _, e1, e, h, r⟩
  · cases h with
    | rol h r => exact ⟨_, _, rfl, h.sq, r⟩
  · cases e

/-! ### new objects -/
def add (S : Addr → Prop) (p : Addr) : Addr → Prop := fun a => S a ∨ a = p
section
variable {st : Sto}
theorem SI.fresh (I : SI K S φ H st) {p : Addr} (h : H p = none) : ¬ S p ∧ p ∉ φ := by
  refine ⟨fun q => I.dom p q h, fun q => ?_⟩
  obtain ⟨n, hn, e⟩ := List.getElem_of_mem q
  have hs : n < st.length := by rw [← I.len]; exact hn
  exact (I.obj n p st[n] (by rw [List.getElem?_eq_getElem hn, e]) (List.getElem?_eq_getElem hs)).some h
theorem Stp.alloc {p : Addr} {o : HO} (h : H p = none) : Stp S φ H (add S p) φ (upd H p o) := by
  refine ⟨fun a o' e _ => ?_, fun a e => ?_, fun a e => .inl e, fun a e => ?_, [], by simp⟩
  · rw [upd_ne (ne_of_none e h)]; exact e
  · by_cases q : a = p
    · rw [q, upd_same]; simp
    · rw [upd_ne q]; exact e
  · rcases e with e | e
    · exact .inl e
    · exact .inr (by rw [e]; exact h)
theorem SI.alloc (I : SI K S φ H st) {p : Addr} {o : HO} (h : H p = none) : SI K (add S p) φ (upd H p o) st := by
  have x : Stp S φ H (add S p) φ (upd H p o) := Stp.alloc h
  obtain ⟨_, hp⟩ := I.fresh h
  refine ⟨fun a e => ?_, fun a e q => ?_, I.len, I.nd, fun n a ds e1 e2 => ?_⟩
  · rcases e with e | e
    · exact x.some a (I.dom a e)
    · rw [e, upd_same]; simp
  · rcases q with q | q
    · exact I.dis a e q
    · exact hp (q ▸ e)
  · have o := I.obj n a ds e1 e2
    exact o.mono x I (upd_ne fun q => o.some (by rw [q]; exact h))
/-- .. not stable -/
theorem Stp.alloc0 {p : Addr} {o : HO} (h : H p = none) : Stp S φ H S φ (upd H p o) := by
  refine ⟨fun a o' e _ => ?_, fun a e => ?_, fun a e => e, fun a e => .inl e, [], by simp⟩
  · rw [upd_ne (ne_of_none e h)]; exact e
  · by_cases q : a = p
    · rw [q, upd_same]; simp
    · rw [upd_ne q]; exact e
theorem SI.alloc0 (I : SI K S φ H st) {p : Addr} {o : HO} (h : H p = none) : SI K S φ (upd H p o) st := by
  have x : Stp S φ H S φ (upd H p o) := Stp.alloc0 h
  refine ⟨fun a e => x.some a (I.dom a e), I.dis, I.len, I.nd, fun n a ds e1 e2 => ?_⟩
  have o := I.obj n a ds e1 e2
  exact o.mono x I (upd_ne fun q => o.some (by rw [q]; exact h))
/-- a new tuple, a new list as a value -/
theorem rep_tup {p : Addr} {vs : List V} (I : SI K S φ H st) (h : H p = none) (r : RepL K S φ H vs ds) : Rep K (add S p) φ (upd H p (.tup vs)) (.ref p) (.tup ds) :=
  .tup (.inl ⟨.inr rfl, upd_same⟩) (r.mono (Stp.alloc h) I)
theorem rep_lst {p : Addr} {vs : List V} (I : SI K S φ H st) (h : H p = none) (r : RepL K S φ H vs ds) : Rep K (add S p) φ (upd H p (.lst vs)) (.ref p) (.lst ds) :=
  .lst (.inr rfl) upd_same (r.mono (Stp.alloc h) I)
end

/-! ### the frame -/
structure EI (K : PySem.W.Frag) (S : Addr → Prop) (φ : List Addr) (H : Hp) (σ : L2.St) (env : Env) : Prop where
  len : env.length = σ.length
  val : ∀ (i : Nat) d, env[i]? = some (some (.val d)) → ∃ v, σ[i]? = some (some v) ∧ Rep K S φ H v d
  own : ∀ (i : Nat) ds, env[i]? = some (some (.own ds)) → ∃ a vs, σ[i]? = some (some (.ref a)) ∧ H a = some (.lst vs) ∧ ¬ S a ∧ a ∉ φ ∧ RepL K S φ H vs ds
  inj : ∀ (i j : Nat) ds es a, env[i]? = some (some (.own ds)) → env[j]? = some (some (.own es)) → σ[i]? = some (some (.ref a)) → σ[j]? = some (some (.ref a)) → i = j
theorem EI.mono {σ : L2.St} {env : Env} (E : EI K S φ H σ env) (x : Stp S φ H S' φ' H') {st : Sto} (I : SI K S φ H st) : EI K S' φ' H' σ env := by
  refine ⟨E.len, fun i d e => ?_, fun i ds e => ?_, E.inj⟩
  · obtain ⟨v, h1, h2⟩ := E.val i d e
    exact ⟨v, h1, h2.mono x I⟩
  · obtain ⟨a, vs, h1, h2, h3, h4, h5⟩ := E.own i ds e
    refine ⟨a, vs, h1, x.keep a _ h2 h4, fun q => ?_, fun q => ?_, h5.mono x I⟩
    · rcases x.new a q with q | q
      · exact h3 q
      · rw [h2] at q; cases q
    · obtain ⟨ψ, eψ, hf⟩ := x.phi
      rw [eψ] at q
      rcases List.mem_append.mp q with q | q
      · exact h4 q
      · have := hf a q; rw [h2] at this; cases this
end

/-! ### outcomes -/
def FinE (K : PySem.W.Frag) (o : Bool) (S : Addr → Prop) (φ : List Addr) (H : Hp) (Q : VK) : Out D → Prop
  | .ok d st' => ∀ v H' S' φ', Stp S φ H S' φ' H' → SI K S' φ' H' st' → RepM o K S' φ' H' v d → Q v H'
  | .err => False
def FinL (K : PySem.W.Frag) (o : Bool) (S : Addr → Prop) (φ : List Addr) (H : Hp) (Q : List V → Hp → Prop) : Out (List D) → Prop
  | .ok ds st' => ∀ vs H' S' φ', Stp S φ H S' φ' H' → SI K S' φ' H' st' → Paired (RepM o K S' φ' H') vs ds → Q vs H'
  | .err => False
def FinB {α : Type} (K : PySem.W.Frag) (S : Addr → Prop) (φ : List Addr) (H : Hp) (Q : α → Hp → Prop) : Out α → Prop
  | .ok b st' => ∀ H' S' φ', Stp S φ H S' φ' H' → SI K S' φ' H' st' → Q b H'
  | .err => False
section
variable {K : PySem.W.Frag} {S S' : Addr → Prop} {φ φ' : List Addr} {H H' : Hp}
theorem FinE.mono {o : Bool} {Q Q' : VK} {m : Out D} (h : FinE K o S φ H Q m) (hq : ∀ v H, Q v H → Q' v H) : FinE K o S φ H Q' m := by
  cases m with
  | ok d st => exact fun v H' S' φ' a b c => hq v H' (h v H' S' φ' a b c)
  | err => exact h
theorem FinE.stp {o : Bool} {Q : VK} {m : Out D} (x : Stp S φ H S' φ' H') (h : FinE K o S φ H Q m) : FinE K o S' φ' H' Q m := by
  cases m with
  | ok d st => exact fun v H2 S2 φ2 a b c => h v H2 S2 φ2 (x.trans a) b c
  | err => exact h
theorem FinL.stp {o : Bool} {Q : List V → Hp → Prop} {m : Out (List D)} (x : Stp S φ H S' φ' H') (h : FinL K o S φ H Q m) : FinL K o S' φ' H' Q m := by
  cases m with
  | ok d st => exact fun v H2 S2 φ2 a b c => h v H2 S2 φ2 (x.trans a) b c
  | err => exact h
theorem FinB.stp {α : Type} {Q : α → Hp → Prop} {m : Out α} (x : Stp S φ H S' φ' H') (h : FinB K S φ H Q m) : FinB K S' φ' H' Q m := by
  cases m with
  | ok d st => exact fun H2 S2 φ2 a b => h H2 S2 φ2 (x.trans a) b
  | err => exact h
end
end PV
set_option maxRecDepth 100000
set_option maxHeartbeats 4000000
/-! enumerate of a tuple; what a for walks where a list or a tuple may come. -/
namespace PV
open PySem PySem.Spec PyProof.Rows L2
open PySem.AutoSeq1 (wpAny_loadPart')
theorem meets_enumerate_newT (l : Addr) (items : Array Value) (n : Nat) (dct : Option Addr) (sl : Array (Option Value)) :
    Meets (Builtin.«enumerate.__new__» ⟨[.type "enumerate", .ref l], []⟩) (fun _ R s => s.heap.get? l = some { cls := .type "tuple", dict := dct, data := .seq items n, slots := sl } ∧
      R (.ok (.ret (.ref (s.heap.push { cls := .type "tuple_iterator", data := .fields #[.ref l, .int 0 0] }).objs.size)))
        { s with heap := (s.heap.push { cls := .type "tuple_iterator", data := .fields #[.ref l, .int 0 0] }).push { cls := .type "enumerate", data := .fields #[.none, .bool false, .ref s.heap.objs.size, rawInt 0, .none, .none] } }) :=
  .of_wp fun prog w A R s h => by
    obtain ⟨hp, g, d, tk, os⟩ := s; obtain ⟨hl, h⟩ := h
    have hsub := sub_enumerate
    have hL : Heap.IsTuple (Shared.heap ⟨hp, g, d, tk, os⟩) l items := ⟨_, hl, rfl, n, rfl⟩
    wp_walk using wpAny_loadPart' hl
    refine wpAny_stack_any fun st => wpAny_pure ?_
    split
    · rename_i c _ _ _ _ _
      cases (c == Value.type "enumerate")
      · wp_walk using wpAny_loadPart' hl, wpAny_pyIter_tuple hL
        exact ⟨_, rfl, h⟩
      · wp_walk using wpAny_loadPart' hl, wpAny_pyIter_tuple hL
        exact ⟨_, rfl, h⟩
    · wp_walk using wpAny_loadPart' hl, wpAny_pyIter_tuple hL
      exact ⟨_, rfl, h⟩
section
variable {prog : Program} {w : World} {A : Around} {E : Value → Shared → Prop} {s : Shared}
theorem call_enumerate_tuple {l : Addr} {items : Array Value} {Q : Value → Shared → Prop} (hL : s.heap.IsTuple l items)
    (h : ∀ h', IsEnum h' (s.heap.objs.size + 1) s.heap.objs.size 0 .none → h'.IsTupleIter s.heap.objs.size l 0 → h'.objs.size = s.heap.objs.size + 2 →
      (∀ b o, s.heap.get? b = some o → h'.get? b = some o) → Q (.ref (s.heap.objs.size + 1)) { s with heap := h' }) :
    wpAny (model prog w) A (call (.type "enumerate") [.ref l]) Q E s := by
  obtain ⟨⟨c, dct, dt, sl⟩, hl, hc, n, hd⟩ := hL
  replace hc : c = .type "tuple" := hc
  replace hd : dt = .seq items n := hd
  subst hc hd
  refine callType_new F.called_enumerate (by decide) (F.typeCall_enumerate_1 _) (F.newCall_enumerate_1 _) (fun obj => F.args_object_init_2 obj _) F.entry_enumerate_new
    (meets_enumerate_newT l items n dct sl) ⟨hl, ?_⟩
  have hz : (s.heap.push { cls := .type "tuple_iterator", data := .fields #[.ref l, .int 0 0] }).objs.size = s.heap.objs.size + 1 := Heap.size_push ..
  show _ ∧ _
  rw [hz]
  have he : IsEnum ((s.heap.push { cls := .type "tuple_iterator", data := .fields #[.ref l, .int 0 0] }).push
      { cls := .type "enumerate", data := .fields #[.none, .bool false, .ref s.heap.objs.size, rawInt 0, .none, .none] }) (s.heap.objs.size + 1) s.heap.objs.size 0 .none := by
    have := Heap.get?_push_size (s.heap.push { cls := .type "tuple_iterator", data := .fields #[.ref l, .int 0 0] })
      (o := { cls := .type "enumerate", data := .fields #[.none, .bool false, .ref s.heap.objs.size, rawInt 0, .none, .none] }) rfl
    rw [hz] at this; exact this
  refine ⟨⟨_, he, rfl⟩, h _ he ⟨_, Heap.get?_push_of_some _ (Heap.get?_push_size _ rfl), rfl, rfl⟩ (by rw [Heap.size_push, hz]) fun b o x => Heap.get?_push_of_some _ (Heap.get?_push_of_some _ x)⟩
theorem draws_tuple (hh : A.handled = none) (it l : Addr) (items : Array Value) (hne : it ≠ l) : Draws prog w A.in1 it [it, l] items.size (fun i x => items[i]? = some x) (fun i h => h.IsTupleIter it l i ∧ h.IsTuple l items) where
  live := fun i h st => let ⟨⟨o, e, _⟩, _⟩ := st; ⟨o, e⟩
  frame := fun i h h' st k => ⟨st.1.at fun o e => k it (by simp) o e, let ⟨o, e, r⟩ := st.2; ⟨o, k l (by simp) o e, r⟩⟩
  item := fun i s Q E hi st h => by
    refine RZ.nextOf_tuple_item (x := items[i]) st.1 st.2 (by simp [hi]) fun h' it' sb => ?_
    exact h items[i] h' s.toks (by simp [hi]) ⟨it', let ⟨o, e, r⟩ := st.2; ⟨o, (sb.2 l (Ne.symm hne)).trans e, r⟩⟩ sb
  done := fun s Q E st h => RZ.nextOf_tuple_end hh st.1 st.2 (by simp) h
end
/-- the tuple at a, each item in a new pair -/
def IteT (K : PySem.W.Frag) (a : Addr) : It :=
  ⟨fun i H => ∃ (xs : List V) (x : V), SqT K H a xs ∧ xs[i]? = some x, fun i H v H' => ∃ T x, v = .ref T ∧ H T = none ∧ H' = upd H T (.tup [.int (i : Nat), x]) ∧ ∀ xs, SqT K H a xs → xs[i]? = some x, fun i H => ∃ xs : List V, SqT K H a xs ∧ xs.length = i⟩
theorem turn_enumT {P : Program} {w : World} {K : PySem.W.Frag} {elts : List Expr} {kk : Nat} {tpos : Pos} (a e it : Addr) :
    Turn P w K (.Tuple elts kk tpos) (IteT K a) [e, it] e (fun i h => (∃ old, IsEnum h e it ((i : Nat) : Int) old) ∧ h.IsTupleIter it a i ∧ e ≠ it ∧ e ≠ a ∧ it ≠ a) where
  mem := by simp
  obj := fun i h st b hb => by
    obtain ⟨⟨old, he⟩, ⟨o, ho, hc, hd⟩, _⟩ := st
    have e' : b = e ∨ b = it := by simpa using hb
    rcases e' with z | z
    · rw [z]; exact ⟨_, he, fun v q => nomatch q⟩
    · rw [z]; exact ⟨o, ho, fun v q => by rw [hd] at q; cases q⟩
  keep := fun i h h' st k => let ⟨⟨old, he⟩, hi, hne⟩ := st; ⟨⟨old, k e (by simp) _ he⟩, hi.at fun o q => k it (by simp) o q, hne⟩
  item := by
    intro X hP hw hK hc i pins s σ H E I hf st hg
    subst hP hw hK
    obtain ⟨⟨old, he⟩, hit, hne, hea, hia⟩ := st
    obtain ⟨xs, x, hq, hx⟩ := hg
    obtain ⟨its, rv, p, hz⟩ := I.tuple hq
    obtain ⟨u, hu, ru⟩ := rv.get hx
    have hel : e < s.heap.objs.size := Heap.lt_size he
    have hil : it < s.heap.objs.size := by obtain ⟨_, q, _⟩ := hit; exact Heap.lt_size q
    have hlt : i < its.toArray.size := by
      have := (List.getElem?_eq_some_iff.mp hu).1
      simpa using this
    refine wpAny_pyNext_enum_itemD (draws_tuple (I.ok.hd hc) it a its.toArray hia) he ⟨hit, p⟩ hlt hne (by simp [hne, hea]) fun y h' tk hP ho hs' hT hsz hk => ?_
    have ey : y = u := by
      have q : its.toArray[i]? = some u := by simpa using hu
      rw [q] at hP; exact (Option.some.inj hP).symm
    subst ey
    refine ⟨_, rfl, wpAny_letOwnedTupleGo_enum (s := { s with heap := h', toks := tk + 1 }) ho fun h'' he' sb => ?_⟩
    have hT2 : h''.get? s.heap.objs.size = some { cls := .type "tuple", data := .seq #[.int i tk, y] } := (sb.2 _ (Nat.ne_of_gt hel)).trans hT
    have new : ObjOk X.prog X.w (upd H s.heap.objs.size (.tup [.int (i : Nat), x])) h'' s.heap.objs.size (.tup [.int (i : Nat), x]) :=
      ⟨by show 2 ≤ sizeLine; decide, [.int i tk, y], .cons ⟨_, rfl⟩ (.cons ru .nil), ⟨_, hT2, rfl, _, rfl⟩⟩
    have I1 : Inv X pins σ (upd H s.heap.objs.size (.tup [.int (i : Nat), x])) { s with heap := h'', toks := tk + 1 } :=
      I.turnedNew (ch := [e, it]) (fun b ob hb q => (sb.2 b (fun z => hb (by simp [z]))).trans (hk b ob (fun z => hb (by simp [z])) (fun z => hb (by simp [z])) q)) hf (Nat.le_refl _) new
    refine ⟨.ref s.heap.objs.size, _, I1, rfl, ⟨_, x, rfl, I.hok.fresh (Nat.le_refl _), rfl, fun ys hy => by rw [I.tuple_inj hy hq]; exact hx⟩, ⟨⟨y, ?_⟩, hs'.1.at fun o q => (sb.2 it (Ne.symm hne)).trans q, hne, hea, hia⟩, fun b hb => ?_⟩
    · have e1 : ((i + 1 : Nat) : Int) = (i : Int) + 1 := by omega
      rw [e1]; exact he'
    · have hb' : b < s.heap.objs.size := by
        have e' : b = e ∨ b = it := by simpa using hb
        rcases e' with z | z
        · rw [z]; exact hel
        · rw [z]; exact hil
      rw [upd_ne (Nat.ne_of_lt hb')]
      exact (hf b hb).1
  done := by
    intro X hP hw hK hc i pins s σ H E I hf st hg
    subst hP hw hK
    obtain ⟨⟨old, he⟩, hit, hne, hea, hia⟩ := st
    obtain ⟨xs, hq, hx⟩ := hg
    obtain ⟨its, rv, p, hz⟩ := I.tuple hq
    obtain ⟨f0, f1, f2, f3, f4, f5⟩ := hf it (by simp)
    have hl := rv.length
    have hi : its.toArray.size = i := by simp; omega
    subst hi
    exact wpAny_pyNext_enum_endD (draws_tuple (I.ok.hd hc) it a its.toArray hia) he ⟨hit, p⟩ fun h' eb => ⟨rfl, I.turned (t' := s.toks) (fun b o hb q => eb b o hb q) f0 f1 f3 f4 f5⟩
  self := fun A i s Q E st h => let ⟨⟨_, he⟩, _⟩ := st; wpAny_pyIter_enum he h
section
variable {X : Cx}
def iEnumA (K : PySem.W.Frag) (ta : TA) : TI := fun σ H R => ta σ H fun vs H1 => ∃ a xs, vs = [.ref a] ∧ ((SqL K H1 a xs ∧ R (Ite K a) H1) ∨ (SqT K H1 a xs ∧ R (IteT K a) H1))
theorem pi_enumA {e : Expr} {ta : TA} {p pos tpos : Pos} {elts : List Expr} {kk : Nat} (hg : Gl X "enumerate") (hm : X.mg "enumerate" = none) (ha : PA X [e] ta) (hs : starEach [e] X.env = [(false, eval e X.env)] := by rfl) :
    PI X (.Tuple elts kk tpos) (.Call (.Name "enumerate" p) [e] [] pos) (iEnumA X.K ta) := by
  refine ⟨fun pins s σ H R I h => ?_⟩
  refine Call_ (ld_blt I hg hm boot_enumerate (PyProof.Rows.callWith_type1 (thn (ha.run pos pins s σ H _ I h) fun us s1 ⟨vs, H1, I1, r1, q1⟩ => ?_) hs rfl))
  obtain ⟨a, xs, ex, q⟩ := q1
  subst ex
  cases r1 with
  | cons r rr =>
    cases rr
    cases r
    have fr : ∀ b ∈ [s1.heap.objs.size + 1, s1.heap.objs.size], FpOk X pins H1 b := fun b hb => by
      have e' : b = s1.heap.objs.size + 1 ∨ b = s1.heap.objs.size := by simpa using hb
      have hle : s1.heap.objs.size ≤ b := by
        rcases e' with z | z
        · rw [z]; exact Nat.le_add_right _ _
        · rw [z]; exact Nat.le_refl _
      exact I1.fpOk hle (I1.hok.fresh hle)
    rcases q with ⟨hq, q⟩ | ⟨hq, q⟩
    · obtain ⟨its, rv, p', hz⟩ := I1.list hq
      refine call_enumerate_list p'.isList fun h' he hit hsz hk => wpAny_pyIter_enum he ?_
      have I2 : Inv X pins σ H1 { s1 with heap := h' } := I1.kept (t' := s1.toks) hk
      exact ⟨s1.heap.objs.size + 1, [s1.heap.objs.size + 1, s1.heap.objs.size], _, _, H1, rfl, I2, turn_enum a (s1.heap.objs.size + 1) s1.heap.objs.size, ⟨⟨.none, he⟩, hit, Nat.succ_ne_self _⟩, fr, q⟩
    · obtain ⟨its, rv, p', hz⟩ := I1.tuple hq
      have hal : a < s1.heap.objs.size := p'.lt
      refine call_enumerate_tuple (show s1.heap.IsTuple a its.toArray from p') fun h' he hit hsz hk => wpAny_pyIter_enum he ?_
      have I2 : Inv X pins σ H1 { s1 with heap := h' } := I1.kept (t' := s1.toks) hk
      exact ⟨s1.heap.objs.size + 1, [s1.heap.objs.size + 1, s1.heap.objs.size], _, _, H1, rfl, I2, turn_enumT a (s1.heap.objs.size + 1) s1.heap.objs.size, ⟨⟨.none, he⟩, hit, Nat.succ_ne_self _, Nat.ne_of_gt (Nat.lt_succ_of_lt hal), Nat.ne_of_gt hal⟩, fr, q⟩
/-- a list, a tuple or a text walked -/
def iSeq (K : PySem.W.Frag) (tl : TE) : TI := fun σ H R => tl σ H fun x H1 => (∃ a, x = .ref a ∧ ((∃ xs, SqL K H1 a xs ∧ R (Itl K a) H1) ∨ (∃ xs, SqT K H1 a xs ∧ R (Itt K a) H1))) ∨ ∃ z, x = .str z ∧ R (Its z) H1
theorem pi_seq {tg l : Expr} {tl : TE} (hl : PE X l tl) : PI X tg l (iSeq X.K tl) := by
  refine ⟨fun pins s σ H R I h => ?_⟩
  refine thn (hl.run pins s σ H _ I h) fun v s1 ⟨x, H1, I1, r1, q1⟩ => ?_
  rcases q1 with ⟨a, e, ⟨xs, hq, q⟩ | ⟨xs, hq, q⟩⟩ | ⟨z, e, q⟩
  · subst e
    cases r1
    obtain ⟨its, rv, p, hz⟩ := I1.list hq
    refine wpAny_pyIter_list p.isList ?_
    refine ⟨s1.heap.objs.size, [s1.heap.objs.size], _, _, H1, rfl, I1.kept (t' := s1.toks) fun b o e => Heap.get?_push_of_some _ e, turn_list a _, ⟨_, Heap.get?_push_size _ rfl, rfl, rfl⟩, fun b hb => ?_, q⟩
    have e : b = s1.heap.objs.size := by simpa using hb
    subst e
    exact I1.fpOk (Nat.le_refl _) (I1.hok.fresh (Nat.le_refl _))
  · subst e
    cases r1
    obtain ⟨its, rv, p, hz⟩ := I1.tuple hq
    refine wpAny_pyIter_tuple (show s1.heap.IsTuple a its.toArray from p) ?_
    refine ⟨s1.heap.objs.size, [s1.heap.objs.size], _, _, H1, rfl, I1.kept (t' := s1.toks) fun b o e => Heap.get?_push_of_some _ e, turn_tuple a _, ⟨_, Heap.get?_push_size _ rfl, rfl, rfl⟩, fun b hb => ?_, q⟩
    have e : b = s1.heap.objs.size := by simpa using hb
    subst e
    exact I1.fpOk (Nat.le_refl _) (I1.hok.fresh (Nat.le_refl _))
  · subst e
    have r2 : RelV (.str z) v := r1
    obtain ⟨t, rfl⟩ := r2
    cases ha : z.cps.all (· < 128)
    · exact wpAny_pyIter_wide ha (pi_one (tk := s1.toks) I1 _ (turn_str _ z t "str_iterator" (.inr rfl)) ⟨_, Heap.get?_push_size _ rfl, rfl, rfl⟩ q)
    · exact wpAny_pyIter_ascii ha (pi_one (tk := s1.toks) I1 _ (turn_str _ z t "str_ascii_iterator" (.inl rfl)) ⟨_, Heap.get?_push_size _ rfl, rfl, rfl⟩ q)
end
end PV
set_option maxRecDepth 100000
set_option maxHeartbeats 4000000
/-! tuple * 1; x in a tuple of data; a list's item, by values. -/
namespace PV
open PySem PySem.Spec PyProof.Rows L2
theorem tuple_mul1 (l : Addr) (items : Array Value) (n : Nat) (dd : Option Addr) (sl : Array (Option Value)) (u : Tok) :
    Meets (Builtin.«tuple.__mul__» ⟨[.ref l, .int 1 u], []⟩) (fun _ R s => s.heap.get? l = some { cls := .type "tuple", dict := dd, data := .seq items n, slots := sl } ∧ R (.ok (.ret (Value.ref l))) s) :=
  .of_wp fun prog w A R s h => by
    obtain ⟨hp, g, d, tk, os⟩ := s
    obtain ⟨hl, h⟩ := h
    have f1 := AutoSeq1.idx_int
    have c1 : (items.isEmpty || (1 : Int) == 1) = true := by simp
    wp_walk using wpAny_loadPart' hl
    exact ⟨_, rfl, h⟩
def rRepT1 (K : PySem.W.Frag) : R2 := fun x y H Q => ∃ l xs, x = .ref l ∧ y = .int 1 ∧ SqT K H l xs ∧ Q (.ref l) H
section
variable {X : Cx}
theorem op_repT1 : OpR X (binaryOp .Mult) (rRepT1 X.K) := by
  intro pins s σ H x y v u Q I rx ry h
  obtain ⟨l, xs, rfl, rfl, hT, q⟩ := h
  cases rx
  obtain ⟨t, rfl⟩ := ry
  obtain ⟨its, r, ⟨⟨cls, dd, data, sl⟩, ho, hc, n, hd⟩, hs⟩ := I.tuple hT
  simp only at hc hd
  subst hc hd
  refine wpAny_binaryOp_repeat_ref (T := "tuple") (U := "int") (by decide) ⟨_, ho, rfl⟩ (fun s' => typeIs_int s' 1 t) noFill_tuple_mul F.fills_int_mul F.slot_int_rmul repeat_tuple F.slot_int_index.lookup
    (call_meets F.slot_int_rmul (typeIs_int s 1 t) F.entry_int_rmul (F.args_int_rmul_2 _ _) (int_rmul_tuple 1 t l its.toArray n dd sl)
      ⟨ho, rfl, ⟨_, ho, rfl⟩, call_meets F.slot_tuple_mul ⟨_, ho, rfl⟩ F.entry_tuple_mul (F.args_tuple_mul_2 _ _) (tuple_mul1 l its.toArray n dd sl t) ⟨ho, ?_⟩⟩)
  exact ⟨.ref l, H, I, rfl, q⟩
def rInDT (K : PySem.W.Frag) : R2 := fun x y H Q => ∃ d ds, Dp K H x d ∧ Dp K H y (.tuple ds) ∧ SeqAt.shaped d = true ∧ SeqAt.shaped (.tuple ds) = true ∧ Q (.bl (ds.any fun z => PyData.eqv z d)) H
def rNotInDT (K : PySem.W.Frag) : R2 := fun x y H Q => ∃ d ds, Dp K H x d ∧ Dp K H y (.tuple ds) ∧ SeqAt.shaped d = true ∧ SeqAt.shaped (.tuple ds) = true ∧ Q (.bl (!ds.any fun z => PyData.eqv z d)) H
theorem op_inDT (hu : X.A.units + 65 < cLine) : OpR X (compareOp .In) (rInDT X.K) := by
  intro pins s σ H x y v u Q I rx ry h
  obtain ⟨d, ds, hd, he, sd, se, q⟩ := h
  obtain ⟨as, r1⟩ := Dp.reads I d x v hd rx
  obtain ⟨bs, r2⟩ := Dp.reads I (.tuple ds) y u he ry
  exact SeqAt.in_tuple_reads r2 r1 (SeqAt.canLay_of_shaped se) (SeqAt.canLay_of_shaped sd) (room_in_shaped sd hu) ⟨.bl _, H, I, rfl, q⟩
theorem op_notInDT (hu : X.A.units + 65 < cLine) : OpR X (compareOp .NotIn) (rNotInDT X.K) := by
  intro pins s σ H x y v u Q I rx ry h
  obtain ⟨d, ds, hd, he, sd, se, q⟩ := h
  obtain ⟨as, r1⟩ := Dp.reads I d x v hd rx
  obtain ⟨bs, r2⟩ := Dp.reads I (.tuple ds) y u he ry
  exact SeqAt.notIn_tuple_reads r2 r1 (SeqAt.canLay_of_shaped se) (SeqAt.canLay_of_shaped sd) (room_in_shaped sd hu) ⟨.bl _, H, I, rfl, q⟩
def rGetL : V → V → Hp → VK → Prop := fun o i H Q => ∃ p xs k y, o = .ref p ∧ i = .int k ∧ H p = some (.lst xs) ∧ atI xs k = some y ∧ Q y H
theorem get_list : PGet X rGetL := by
  intro pins s σ H o i ov iv Q I ro ri h
  obtain ⟨p, xs, k, z, rfl, rfl, hq, he, q⟩ := h
  cases ro
  obtain ⟨t, rfl⟩ := ri
  obtain ⟨its, r, pl, hz⟩ := I.list (xs := xs) (a := p) (.inl (.inl hq))
  obtain ⟨j, h1, h2, h3, h4, h5⟩ := atI_get he
  obtain ⟨w, ew, rw'⟩ := r.get h2
  have hl := r.length
  have hn := line63
  have fin : EP X pins σ Q w s := ⟨z, H, I, rw', q⟩
  by_cases h0 : 0 ≤ k
  · have hj : k.toNat = j := by
      rw [seqIndex_of h0 h5] at h1
      exact Option.some.inj h1
    exact wpAny_getItem_list pl.isList h0 (by omega) (by rw [hj]; simpa using ew) fin
  · have hj : (k + (its.toArray.size : Int)).toNat = j := by
      rw [seqIndex_neg (by omega) h4] at h1
      rw [List.size_toArray, ← hl]
      exact Option.some.inj h1
    exact wpAny_getItem_list_neg pl.isList (by omega) (by rw [List.size_toArray] <;> omega) (by omega) (by rw [hj]; simpa using ew) fin
end
end PV
set_option maxRecDepth 100000
set_option maxHeartbeats 4000000
/-! min of a tuple of ints; tuples the other way round; a tuple times nought, by values. -/
namespace PV
open PySem PySem.Spec PyProof.Rows L2
section
variable {prog : Program} {w : World} {A : Around} {E : Value → Shared → Prop} {s : Shared} {l : Addr} {xs : Array (Int × Tok)}
theorem iter_intTup {Q : Value → Shared → Prop} (hl : s.heap.IsTuple l (intItems xs))
    (h : ∀ s₂ : Shared, s₂ = { s with heap := s.heap.push { cls := .type "tuple_iterator", data := .fields #[.ref l, .int 0 0] } } →
      (s₂.heap.IsTupleIter s.heap.objs.size l 0 ∧ s₂.heap.IsTuple l (intItems xs)) → (∀ b ∈ [s.heap.objs.size, l], b < s₂.heap.objs.size) → l ≠ s.heap.objs.size → Q (.ref s.heap.objs.size) s₂) :
    wpAny (model prog w) A (pyIter (.ref l)) Q E s := by
  have hlt : l < s.heap.objs.size := by obtain ⟨_, e, _⟩ := hl; exact Heap.lt_size e
  refine wpAny_pyIter_tuple hl (h _ rfl ⟨⟨_, Heap.get?_push_size _ rfl, rfl, rfl⟩, hl.push _⟩ (fun b hb => ?_) (Nat.ne_of_lt hlt))
  show b < (s.heap.push _).objs.size
  rw [Heap.size_push]
  rcases List.mem_cons.mp hb with rfl | hb
  · exact Nat.lt_succ_self _
  · rcases List.mem_cons.mp hb with rfl | hb
    · exact Nat.lt_succ_of_lt hlt
    · cases hb
theorem old_keptT {h' : Heap} (hk : ∀ b o, b ∉ [s.heap.objs.size] → (s.heap.push { cls := .type "tuple_iterator", data := .fields #[.ref l, .int 0 0] }).get? b = some o → h'.get? b = some o) :
    ∀ b o, s.heap.get? b = some o → h'.get? b = some o := fun b o e => by
  refine hk b o (fun hm => ?_) (Heap.get?_push_of_some _ e)
  rcases List.mem_cons.mp hm with e1 | hm
  · exact absurd (e1 ▸ Heap.lt_size e) (Nat.lt_irrefl _)
  · cases hm
theorem min_intTup {Q : Value → Shared → Prop} (hh : A.handled = none) (hl : s.heap.IsTuple l (intItems xs)) (hne : 0 < xs.size)
    (h : ∀ v h' tk, (intItems xs)[argBest (fun i j => decide (numAt xs i < numAt xs j)) (xs.size - 1)]? = some v → (∀ b o, s.heap.get? b = some o → h'.get? b = some o) → Q v { s with heap := h', toks := tk }) :
    wpAny (model prog w) A (call (.builtin "min") [.ref l]) Q E s := by
  refine call_min_walk (iter_intTup hl fun s₂ e st hfp hlI => ?_)
  subst e
  refine ⟨_, _, _, _, _, _, _, rfl, Walks.tuple (A := A.in1) hh _ l hlI (intItems xs), st, hfp, by simpa [intItems] using hne, CmpOf.ints_lt (numAt xs) (fun _ _ => intItems_at), fun v h' tk hP hk => ?_⟩
  exact h v h' tk (by simpa [intItems] using hP) (old_keptT hk)
theorem min_rawT {its : List Value} {ns : List Int} {Q : Value → Shared → Prop} (hh : A.handled = none) (hl : s.heap.IsTuple l its.toArray) (hi : IntsAre its ns) (hne : 0 < ns.length)
    (h : ∀ h' tk M t', (∀ b o, s.heap.get? b = some o → h'.get? b = some o) → M ∈ ns → (∀ a, a ∈ ns → M ≤ a) → Q (.int M t') { s with heap := h', toks := tk }) : wpAny (model prog w) A (call (.builtin "min") [.ref l]) Q E s := by
  obtain ⟨xs, e⟩ := hi.allInts.items
  have hn : numsOf (intItems xs).toList = ns := by rw [← e]; exact hi.numsOf
  rw [nums_intItems] at hn
  subst hn
  rw [e] at hl
  have hsz : 0 < xs.size := by simpa using hne
  refine min_intTup hh hl hsz fun v h' tk hv hk => ?_
  obtain ⟨t, rfl⟩ := intItems_at hv
  obtain ⟨h1, h2⟩ := argBest_lt (numAt xs) (xs.size - 1)
  refine h h' tk _ t hk ?_ fun a ha => ?_
  · rw [numAt_eq]; exact PySem.getD_mem (by rw [List.length_map, Array.length_toList]; omega)
  · obtain ⟨j, hj, rfl⟩ := mem_getD ha
    rw [List.length_map, Array.length_toList] at hj
    rw [← numAt_eq]; exact h2 j (by omega)
end
def rMinT (K : PySem.W.Frag) : List V → Hp → VK → Prop := fun vs H Q => ∃ (a : Addr) (ns : List Int), vs = [V.ref a] ∧ SqT K H a (ns.map V.int) ∧ 0 < ns.length ∧ ∀ m, m ∈ ns → (∀ y, y ∈ ns → m ≤ y) → Q (.int m) H
section
variable {X : Cx}
theorem cr_minT (hc : X.calm = true) : CallR X (.builtin "min") (rMinT X.K) := by
  intro pins s σ H vs us Q I r h
  obtain ⟨a, ns, rfl, hs, hne, q⟩ := h
  obtain ⟨its, rv, hl, _⟩ := I.tuple hs
  rw [Vals.ref1 r]
  exact min_rawT (I.ok.hd hc) hl rv.ints hne fun h' tk m t' hk h1 h2 => ⟨.int _, H, I.kept hk, ⟨_, rfl⟩, q m h1 h2⟩
end
/-! ### sum of a tuple of ints -/
section
variable {prog : Program} {w : World} {A : Around} {E : Value → Shared → Prop} {s : Shared} {l : Addr} {xs : Array (Int × Tok)}
theorem sum_intTup {Q : Value → Shared → Prop} (hh : A.handled = none) (hl : s.heap.IsTuple l (intItems xs))
    (h : ∀ h' tk t', (∀ b o, s.heap.get? b = some o → h'.get? b = some o) → Q (.int (preSum (numAt xs) xs.size) t') { s with heap := h', toks := tk }) :
    wpAny (model prog w) A (call (.builtin "sum") [.ref l]) Q E s := by
  refine call_sum_walkG (iter_intTup hl fun s₂ e st hfp hlI => ?_)
  subst e
  refine ⟨_, _, _, _, _, _, numAt xs, rfl, Walks.tuple (A := A.in1) hh _ l hlI (intItems xs), st, hfp, (fun _ _ => intItems_at), fun h' tk t' hk => ?_⟩
  have := h h' tk t' (old_keptT hk)
  simpa [intItems] using this
theorem sum_rawT {its : List Value} {ns : List Int} {Q : Value → Shared → Prop} (hh : A.handled = none) (hl : s.heap.IsTuple l its.toArray) (hi : IntsAre its ns)
    (h : ∀ h' tk t', (∀ b o, s.heap.get? b = some o → h'.get? b = some o) → Q (.int ns.sum t') { s with heap := h', toks := tk }) : wpAny (model prog w) A (call (.builtin "sum") [.ref l]) Q E s := by
  obtain ⟨xs, e⟩ := hi.allInts.items
  have hn : numsOf (intItems xs).toList = ns := by rw [← e]; exact hi.numsOf
  rw [nums_intItems] at hn
  rw [e] at hl
  refine sum_intTup hh hl fun h' tk t' hk => ?_
  have := h h' tk t' hk
  rw [preSum_eq, List.take_of_length_le (by simp), hn]; exact this
end
def rSumT (K : PySem.W.Frag) : List V → Hp → VK → Prop := fun vs H Q => ∃ (a : Addr) (ns : List Int), vs = [V.ref a] ∧ SqT K H a (ns.map V.int) ∧ Q (.int ns.sum) H
section
variable {X : Cx}
theorem cr_sumT (hc : X.calm = true) : CallR X (.builtin "sum") (rSumT X.K) := by
  intro pins s σ H vs us Q I r h
  obtain ⟨a, ns, rfl, hs, q⟩ := h
  obtain ⟨its, rv, hl, _⟩ := I.tuple hs
  rw [Vals.ref1 r]
  exact sum_rawT (I.ok.hd hc) hl rv.ints fun h' tk t' hk => ⟨.int _, H, I.kept hk, ⟨_, rfl⟩, q⟩
end
/-! ### t[::-1] -/
section
variable {prog : Program} {w : World} {A : Around} {E : Value → Shared → Prop} {s : Shared}
theorem sliceApplied_rev {sl : Addr} {vl vu vs : Value} {n : Nat} {Q : Int × Int × Nat → Shared → Prop} (hs : s.heap.IsSliceOf sl vl vu vs) (pl : IsPart vl none) (pu : IsPart vu none) (ps : IsPart vs (some (-1)))
    (h : Q ((n : Int) - 1, -1, n) s) : wpAny (model prog w) A (Builtin.Slice.sliceApplied (.ref sl) (pure (n : Int))) Q E s := by
  obtain ⟨os, hos, hcs, hds⟩ := id hs
  unfold Builtin.Slice.sliceApplied Builtin.Slice.sliceFields
  refine wpAny_bind (wpAny_bind (wpAny_field hos hds (x := vl) rfl (wpAny_bind (wpAny_field hos hds (x := vu) rfl (wpAny_bind (wpAny_field hos hds (x := vs) rfl (wpAny_pure ?_)))))))
  refine wpAny_bind (HT.slicePart_ ps ?_)
  show wpAny _ _ (if ((-1 : Int) == 0) = true then _ else _) _ _ s
  rw [if_neg (by decide)]
  refine wpAny_bind (HT.slicePart_ pl (wpAny_bind (HT.slicePart_ pu (wpAny_bind (wpAny_pure ?_)))))
  have e : Builtin.Slice.sliceAdjust none none (-1) (n : Int) = ((n : Int) - 1, -1) := rfl
  show wpAny _ _ (match Builtin.Slice.sliceAdjust none none (-1) (n : Int) with | (lo, hi) => pure (lo, (-1 : Int), Builtin.Slice.slicePlaces lo hi (-1))) _ _ s
  rw [e]
  have e2 : Builtin.Slice.slicePlaces ((n : Int) - 1) (-1) (-1) = n := by
    unfold Builtin.Slice.slicePlaces
    rw [if_neg (by omega)]
    by_cases c : (n : Int) - 1 > -1
    · rw [if_pos c]
      have : ((n : Int) - 1 - -1 - 1) / (- -1) + 1 = n := by
        rw [show (- -1 : Int) = 1 by decide, Int.ediv_one]; omega
      rw [this]; omega
    · rw [if_neg c]; omega
  show wpAny _ _ (pure ((n : Int) - 1, (-1 : Int), Builtin.Slice.slicePlaces ((n : Int) - 1) (-1) (-1))) _ _ s
  rw [e2]
  exact wpAny_pure h
theorem fm_congr {α β : Type} {f g : α → Option β} : ∀ {l : List α}, (∀ x ∈ l, f x = g x) → l.filterMap f = l.filterMap g
  | [], _ => rfl
  | x :: l, h => by
    have h1 := h x List.mem_cons_self
    have h2 := fm_congr (l := l) fun y hy => h y (List.mem_cons_of_mem _ hy)
    rw [List.filterMap_cons, List.filterMap_cons, h1, h2]
theorem pick_rev (xs : Array Value) : ((List.range xs.size).filterMap fun (m : Nat) => xs[(((xs.size : Nat) : Int) - 1 + (m : Int) * (-1)).toNat]?).toArray = xs.toList.reverse.toArray := by
  congr 1
  have e1 : ((List.range xs.size).filterMap fun (m : Nat) => xs[(((xs.size : Nat) : Int) - 1 + (m : Int) * (-1)).toNat]?) = ((List.range xs.size).map fun k => xs.size - 1 - k).filterMap (xs[·]?) := by
    rw [List.filterMap_map]
    refine fm_congr fun m hm => ?_
    have hm := List.mem_range.mp hm
    have e : (((xs.size : Nat) : Int) - 1 + (m : Int) * (-1)).toNat = xs.size - 1 - m := by omega
    show xs[(((xs.size : Nat) : Int) - 1 + (m : Int) * (-1)).toNat]? = xs[xs.size - 1 - m]?
    rw [e]
  rw [e1, PySem.W.krv_range, List.filterMap_reverse, PySem.W.krv_all]
theorem getItem_tuple_rev {t sl : Addr} {items : Array Value} {vl vu vs : Value} {Q : Value → Shared → Prop} (ht : IsTup s.heap t items) (hs : s.heap.IsSliceOf sl vl vu vs) (pl : IsPart vl none) (pu : IsPart vu none) (ps : IsPart vs (some (-1)))
    (h : Q (.ref s.heap.objs.size) { s with heap := s.heap.push { cls := .type "tuple", data := .seq items.toList.reverse.toArray } })
    (hsz : items.size ≤ sizeLine) : wpAny (model prog w) A (getItem (.ref t) (.ref sl)) Q E s := by
  have htake : sizeOk (.seq items.toList.reverse.toArray) := by
    show (items.toList.reverse.toArray).size ≤ sizeLine
    rw [List.size_toArray, List.length_reverse, Array.length_toList]
    exact hsz
  obtain ⟨os, hos, hcs, hds⟩ := id hs
  have hTs : s.TypeIs (.ref sl) "slice" := ⟨os, hos, hcs⟩
  unfold getItem
  try with_reducible refine wpAny_holding ?_
  first | refine wpAny_bind (wpAny_pure ?_) | skip
  refine wpAny_bind (wpAny_sequenceKey ht.typeIs (by decide) ?_)
  refine wpAny_bind (wpAny_callSpecial?_slot (name := Str.ofString "__getitem__") ht.typeIs PyProof.Rows.slot_tuple_getitem
    (wpAny_call_entry PyProof.Rows.slot_tuple_getitem ht.typeIs entry_tuple_getitem ?_ (args_tuple_getitem _ _)))
  show wpAny _ _ (Builtin.Tuple.tupleItemsOf (.ref t) >>= _) _ _ s
  refine wpAny_bind (tupleItemsOf_ ht ?_)
  refine wpAny_bind (wpAny_typeOf hTs ?_)
  rw [if_pos (by decide)]
  refine wpAny_bind (sliceApplied_rev hs pl pu ps ?_)
  have hno : ¬ (((((items.size : Nat) : Int) - 1) == 0 && (-1 : Int) == 1 && items.size == items.size) = true) := by
    intro q
    rw [Bool.and_eq_true, Bool.and_eq_true] at q
    exact absurd q.1.2 (by decide)
  show wpAny _ _ (if ((((items.size : Nat) : Int) - 1) == 0 && (-1 : Int) == 1 && items.size == items.size) = true then _ else _) _ _ s
  rw [if_neg hno, pick_rev]
  first
    | exact wpAny_bind (m := Builtin.Tuple.tupleExact _) (wpAny_newObj_type (wpAny_pure ⟨_, rfl, wpAny_pure h⟩) htake)
    | exact wpAny_bind (m := Builtin.Tuple.tupleExact _) (wpAny_newObj_type (wpAny_bind (wpAny_pure (wpAny_pure ⟨_, rfl, wpAny_pure h⟩))) htake)
    | exact wpAny_bind (wpAny_bind (m := Builtin.Tuple.tupleExact _) (wpAny_newObj_type (wpAny_pure (wpAny_pure ⟨_, rfl, wpAny_pure h⟩)) htake))
    | exact wpAny_bind (wpAny_bind (m := Builtin.Tuple.tupleExact _) (wpAny_newObj_type (wpAny_pure ⟨_, rfl, wpAny_pure h⟩) htake))
end
/-- xs[::-1], a list or a tuple -/
def tRevB (K : PySem.W.Frag) (te : TE) : TE := fun σ H Q => te σ H fun x H1 => (∃ a xs, x = .ref a ∧ SqL K H1 a xs ∧ ∀ p, H1 p = none → Q (.ref p) (upd H1 p (.lst xs.reverse))) ∨ (∃ a xs, x = .ref a ∧ SqT K H1 a xs ∧ ∀ p, H1 p = none → Q (.ref p) (upd H1 p (.tup xs.reverse)))
section
variable {X : Cx}
theorem pe_revB {e : Expr} {te : TE} {k : Nat} {p1 p2 p3 pos : Pos} (he : PE X e te) : PE X (.Subscript e (.Slice none none (some (.UnaryOp .USub (.Constant (.int 1) k p1) p2)) p3) pos) (tRevB X.K te) := by
  refine ⟨fun pins s σ H Q I h => ?_⟩
  refine Subscript_ (thn (he.run pins s σ H _ I h) fun v s1 ⟨x, H1, I1, r1, q1⟩ => ?_)
  have hst : PO X (some (.UnaryOp .USub (.Constant (.int 1) k p1) p2)) (tPart (tUn (rU fun i => .int (-i)) (tC (.int 1)))) := po_some (pe_un un_neg pe_int)
  refine wpAny_Slice (thn (po_none.run pins s1 σ H1 (fun o H2 => o = none ∧ H2 = H1) I1 ⟨rfl, rfl⟩) fun vl s2 ⟨l, H2, I2, pl, el, e2⟩ => ?_)
  subst el e2
  refine thn (po_none.run pins s2 σ H2 (fun o H3 => o = none ∧ H3 = H2) I2 ⟨rfl, rfl⟩) fun vu s3 ⟨u, H3, I3, pu, eu, e3⟩ => ?_
  subst eu e3
  refine thn (hst.run pins s3 σ H3 (fun o H4 => o = some (-1) ∧ H4 = H3) I3 ⟨1, rfl, -1, rfl, rfl, rfl⟩) fun vs s4 ⟨o, H4, I4, ps, eo, e4⟩ => ?_
  subst eo e4
  have I5 : Inv X pins σ H4 { s4 with heap := s4.heap.push { cls := .type "slice", data := .fields #[vl, vu, vs] } } := I4.kept (t' := s4.toks) fun b ob q => Heap.get?_push_of_some _ q
  rcases q1 with ⟨a, xs, ex, hx, q⟩ | ⟨a, xs, ex, hx, q⟩
  · subst ex
    cases r1
    obtain ⟨its, r, ht, hz⟩ := I5.list hx
    have hlen := r.length
    show wpAny (model X.prog X.w) X.A (subscriptTail e (.Slice none none (some (.UnaryOp .USub (.Constant (.int 1) k p1) p2)) p3) (.ref a) (.ref s4.heap.objs.size)) (EP X pins σ Q) X.xe { s4 with heap := s4.heap.push { cls := .type "slice", data := .fields #[vl, vu, vs] } }
    refine tail_any (ops := [.ref a, .ref s4.heap.objs.size]) ht.isList.typeIs (PySem.slot_list_getitem.lookup) ?_ (by with_unfolding_all rfl)
    refine wpAny_getItem_list_slice ht.isList (Heap.IsSliceOf.new _ vl vu vs) pl pu ps (by decide) ?_ (by rw [List.size_toArray]; omega)
    rw [PySem.W.krv_pick]
    refine ⟨.ref _, _, I5.laid (t' := s4.toks) (o := .lst xs.reverse) (fun b ob q => Heap.get?_push_of_some _ q) (Nat.le_refl _) ?_, rfl, q _ (I5.hok.fresh (Nat.le_refl _))⟩
    exact ⟨by rw [List.length_reverse]; exact hz, _, 0, r.reverse, Heap.get?_push_size _ rfl⟩
  · subst ex
    cases r1
    obtain ⟨its, r, ht, hz⟩ := I5.tuple hx
    have hlen := r.length
    show wpAny (model X.prog X.w) X.A (subscriptTail e (.Slice none none (some (.UnaryOp .USub (.Constant (.int 1) k p1) p2)) p3) (.ref a) (.ref s4.heap.objs.size)) (EP X pins σ Q) X.xe { s4 with heap := s4.heap.push { cls := .type "slice", data := .fields #[vl, vu, vs] } }
    refine tail_any (ops := [.ref a, .ref s4.heap.objs.size]) ht.typeIs (PyProof.Rows.slot_tuple_getitem.lookup) ?_ (by with_unfolding_all rfl)
    refine getItem_tuple_rev ht (Heap.IsSliceOf.new _ vl vu vs) pl pu ps ?_ (by rw [List.size_toArray]; omega)
    refine ⟨.ref _, _, I5.laid (t' := s4.toks) (o := .tup xs.reverse) (fun b ob q => Heap.get?_push_of_some _ q) (Nat.le_refl _) ?_, rfl, q _ (I5.hok.fresh (Nat.le_refl _))⟩
    exact ⟨by rw [List.length_reverse]; exact hz, _, r.reverse, IsTup.new _ _⟩
/-! ### t * 0 -/
end
theorem tuple_mul0 (l : Addr) (items : Array Value) (n : Nat) (dd : Option Addr) (sl : Array (Option Value)) (u : Tok) (hi : items.isEmpty = false) :
    Meets (Builtin.«tuple.__mul__» ⟨[.ref l, .int 0 u], []⟩) (fun _ R s => s.heap.get? l = some { cls := .type "tuple", dict := dd, data := .seq items n, slots := sl } ∧
      R (.ok (.ret (Value.ref s.heap.objs.size))) { s with heap := s.heap.push { cls := Value.type "tuple", data := Data.seq #[] }, toks := s.toks }) :=
  .of_wp fun prog w A R s h => by
    obtain ⟨hp, g, d, tk, os⟩ := s
    obtain ⟨hl, h⟩ := h
    have f1 := AutoSeq1.idx_int
    have c1 : (items.isEmpty || (0 : Int) == 1) = false := by rw [hi]; rfl
    have c2 : (decide ((0 : Int) ≤ 0) || items.isEmpty) = true := rfl
    wp_walk using wpAny_loadPart' hl
    repeat (first
      | (refine wpAny_ite_false (decide_eq_false (by rw [c1]; exact Bool.false_ne_true)) ?_; wp_walk using wpAny_loadPart' hl)
      | (refine wpAny_ite_true (decide_eq_true c2) ?_; wp_walk using wpAny_loadPart' hl))
    exact ⟨_, rfl, h⟩
def rRepT0 (K : PySem.W.Frag) : R2 := fun x y H Q => ∃ l xs, x = .ref l ∧ y = .int 0 ∧ SqT K H l xs ∧ xs ≠ [] ∧ ∀ p, H p = none → Q (.ref p) (upd H p (.tup []))
section
variable {X : Cx}
theorem op_repT0 : OpR X (binaryOp .Mult) (rRepT0 X.K) := by
  intro pins s σ H x y v u Q I rx ry h
  obtain ⟨l, xs, rfl, rfl, hT, hne, q⟩ := h
  cases rx
  obtain ⟨t, rfl⟩ := ry
  obtain ⟨its, r, ⟨⟨cls, dd, data, sl⟩, ho, hc, n, hd⟩, hs⟩ := I.tuple hT
  simp only at hc hd
  subst hc hd
  have hi : its.toArray.isEmpty = false := by
    cases r with
    | nil => exact absurd rfl hne
    | cons a b => rfl
  refine wpAny_binaryOp_repeat_ref (T := "tuple") (U := "int") (by decide) ⟨_, ho, rfl⟩ (fun s' => typeIs_int s' 0 t) noFill_tuple_mul F.fills_int_mul F.slot_int_rmul repeat_tuple F.slot_int_index.lookup
    (call_meets F.slot_int_rmul (typeIs_int s 0 t) F.entry_int_rmul (F.args_int_rmul_2 _ _) (int_rmul_tuple 0 t l its.toArray n dd sl)
      ⟨ho, rfl, ⟨_, ho, rfl⟩, call_meets F.slot_tuple_mul ⟨_, ho, rfl⟩ F.entry_tuple_mul (F.args_tuple_mul_2 _ _) (tuple_mul0 l its.toArray n dd sl t hi) ⟨ho, ?_⟩⟩)
  exact ⟨.ref _, _, I.laid (t' := s.toks) (o := .tup []) (fun b ob q => Heap.get?_push_of_some _ q) (Nat.le_refl _) ⟨Nat.zero_le _, [], .nil, IsTup.new _ _⟩, rfl, q _ (I.hok.fresh (Nat.le_refl _))⟩
end
end PV
set_option maxRecDepth 100000
set_option maxHeartbeats 4000000
/-! The operations by deep values. -/
namespace PV
open PySem PySem.Spec PyProof.Rows L2
theorem line_eq : (sizeLine : Nat) = LINE := sizeLine_eq
section
variable {K : PySem.W.Frag} {S S' : Addr → Prop} {φ φ' : List Addr} {H H' : Hp} {v : V} {d : D} {vs : List V} {ds : List D}
mutual
theorem Rep.dp : ∀ {v : V} {d : D}, Rep K S φ H v d → pure? d = true → Dp K H v (toPy d)
  | _, _, .non, _ => .non
  | _, _, .bl b, _ => .bl b
  | _, _, .int i, _ => .int i
  | _, _, .str z, _ => .str z
  | _, _, .tup h r, p => .tup h.sq (RepL.dp r p)
  | _, _, .lst _ h r, p => .lst (.inl (.inl h)) (RepL.dp r p)
  | _, _, .rol _ _, p => by cases p
  | _, _, .loc _, p => by cases p
theorem RepL.dp : ∀ {vs : List V} {ds : List D}, RepL K S φ H vs ds → pures? ds = true → DpAll K H vs (toPys ds)
  | _, _, .nil, _ => .nil
  | _, _, .cons h1 h2, p => by
    have p' := Bool.and_eq_true_iff.mp (show (pure? _ && pures? _) = true from p)
    exact .cons (Rep.dp h1 p'.1) (RepL.dp h2 p'.2)
end
theorem RepD.dp (h : RepD K S φ H v d) (p : pure? d = true) : Dp K H v (toPy d) := by
  rcases h with h | ⟨a, vs, ds, e1, e2, h, r⟩
  · exact h.dp p
  · subst e1 e2
    exact .lst (.inl (.inl h)) (r.dp p)

/-- a reading of a two-place operation answers as f does -/
def OpS (K : PySem.W.Frag) (r : R2) (f : D → D → Option D) : Prop :=
  ∀ (S : Addr → Prop) (φ : List Addr) (H : Hp) (st : Sto) (x y : V) (dx dy d : D) (Q : VK), SI K S φ H st → RepD K S φ H x dx → RepD K S φ H y dy → f dx dy = some d →
    (∀ v H' S', Stp S φ H S' φ H' → SI K S' φ H' st → Rep K S' φ H' v d → Q v H') → r x y H Q
/-- what the rules ask of the surroundings -/
structure Rm (X : Cx) : Prop where
  calm : X.calm = true
  un : X.A.units + 150 < cLine
def rAdd (K : PySem.W.Frag) : R2 := fun x y H Q => rI0 (fun i j => .int (i + j)) x y H Q ∨ (∃ i j, x = .str i ∧ y = .str j ∧ i.length + j.length ≤ sizeLine ∧ Q (.str (i ++ j)) H) ∨ rCatA K x y H Q ∨ rCat x y H Q
theorem or_add {X : Cx} : OpR X (binaryOp .Add) (rAdd X.K) := op_add.or (op_add_str.or (op_catA.or op_cat))
theorem os_add : OpS K (rAdd K) addD := by
  intro S φ H st x y dx dy d Q I rx ry e q
  cases dx with
  | int i => cases dy with
    | int j => cases e; cases rx.int; cases ry.int; exact .inl ⟨i, j, rfl, rfl, q _ _ _ .refl I (.int _)⟩
    | _ => cases e
  | str i => cases dy with
    | str j =>
      have e' : (if i.length + j.length ≤ LINE then some (D.str (i ++ j)) else none) = some d := e
      split at e'
      · cases e'; cases rx.str; cases ry.str
        rename_i h
        exact .inr (.inl ⟨i, j, rfl, rfl, by rw [line_eq]; exact h, q _ _ _ .refl I (.str _)⟩)
      · cases e'
    | _ => cases e
  | tup xs => cases dy with
    | tup ys =>
      have e' : (if xs.length + ys.length ≤ LINE then some (D.tup (xs ++ ys)) else none) = some d := e
      split at e'
      · cases e'
        rename_i h
        obtain ⟨a, us, rfl, ha, ra, pa⟩ := rx.tup
        obtain ⟨b, ws, rfl, hb, rb, pb⟩ := ry.tup
        refine .inr (.inr (.inl ⟨a, b, us, ws, rfl, rfl, ha, hb, by rw [line_eq, ra.length, rb.length]; exact h, fun z => ?_, fun _ z => ?_, fun _ _ p hp => ?_⟩))
        · subst z; cases ra; exact q _ _ _ .refl I pb
        · subst z; cases rb; rw [List.append_nil] at q; exact q _ _ _ .refl I pa
        · exact q _ _ _ (Stp.alloc hp) (I.alloc hp) (rep_tup I hp (ra.append rb))
      · cases e'
    | _ => cases e
  | lst xs => cases dy with
    | lst ys =>
      have e' : (if xs.length + ys.length ≤ LINE then some (D.lst (xs ++ ys)) else none) = some d := e
      split at e'
      · cases e'
        rename_i h
        obtain ⟨a, us, rfl, ha, ra⟩ := rx.lst
        obtain ⟨b, ws, rfl, hb, rb⟩ := ry.lst
        exact .inr (.inr (.inr ⟨a, b, us, ws, rfl, rfl, ha, hb, by rw [line_eq, ra.length, rb.length]; exact h, fun p hp => q _ _ _ (Stp.alloc hp) (I.alloc hp) (rep_lst I hp (ra.append rb))⟩))
      · cases e'
    | _ => cases e
  | _ => cases e
theorem os_int {g : Int → Int → Int} {C : Int → Int → Prop} {f : D → D → Option D} (h : ∀ dx dy d, f dx dy = some d → ∃ i j, dx = .int i ∧ dy = .int j ∧ C i j ∧ d = .int (g i j)) : OpS K (rI C fun i j => .int (g i j)) f := by
  intro S φ H st x y dx dy d Q I rx ry e q
  obtain ⟨i, j, rfl, rfl, c, rfl⟩ := h dx dy d e
  cases rx.int; cases ry.int
  exact ⟨i, j, rfl, rfl, c, q _ _ _ .refl I (.int _)⟩
theorem or_sub {X : Cx} : OpR X (binaryOp .Sub) (rI (fun _ _ => True) fun i j => .int (i - j)) := fun pins s σ H x y v u Q I rx ry ⟨i, j, a, b, _, q⟩ => op_sub pins s σ H x y v u Q I rx ry ⟨i, j, a, b, q⟩
theorem os_sub : OpS K (rI (fun _ _ => True) fun i j => .int (i - j)) subD := os_int fun dx dy d e => by
  unfold subD at e
  split at e
  · cases e; exact ⟨_, _, rfl, rfl, trivial, rfl⟩
  · cases e
def rMulA (K : PySem.W.Frag) : R2 := fun x y H Q => (rI CMul fun i j => .int (i * j)) x y H Q ∨ (rRepT K x y H Q ∨ (rRepT1 K x y H Q ∨ (rRepT0 K x y H Q ∨ (rRep x y H Q ∨ (rI CMulW fun i j => .int (i * j)) x y H Q))))
theorem or_mul {X : Cx} : OpR X (binaryOp .Mult) (rMulA X.K) := op_mul.or (op_repT.or (op_repT1.or (op_repT0.or (op_rep.or op_mulW))))
theorem RepL.rep (n : Nat) {vs : List V} {ds : List D} (h : RepL K S φ H vs ds) : RepL K S φ H (List.replicate n vs).flatten (List.replicate n ds).flatten := by
  induction n with
  | zero => exact .nil
  | succ n ih => rw [List.replicate_succ, List.replicate_succ, List.flatten_cons, List.flatten_cons]; exact h.append ih
theorem os_mul : OpS K (rMulA K) mulD := by
  intro S φ H st x y dx dy d Q I rx ry e q
  unfold mulD at e
  split at e
  · rename_i xs k
    obtain ⟨a, vs, rfl, h1, r, rv⟩ := rx.tup
    cases ry.int
    by_cases hk : k = 1
    · rw [if_pos hk] at e; cases e; subst hk
      exact .inr (.inr (.inl ⟨a, vs, rfl, rfl, h1, q _ H S .refl I rv⟩))
    · rw [if_neg hk] at e
      split at e
      · cases e
        rename_i h
        refine .inr (.inl ⟨a, k, vs, rfl, rfl, h1, ?_, h.1, h.2.1, by rw [r.length]; exact h.2.2.1, fun p hp => q _ _ _ (Stp.alloc hp) (I.alloc hp) (rep_tup I hp (r.rep k.toNat))⟩)
        intro e
        subst e
        cases r
        cases h.2.2.2
      · split at e
        · cases e
          rename_i h
          obtain ⟨rfl, hx⟩ := h
          refine .inr (.inr (.inr (.inl ⟨a, vs, rfl, rfl, h1, ?_, fun p hp => q _ _ _ (Stp.alloc hp) (I.alloc hp) (rep_tup I hp .nil)⟩)))
          intro z
          subst z
          cases r
          cases hx
        · cases e
  · rename_i xs k
    obtain ⟨a, vs, rfl, h1, r⟩ := rx.lst
    cases ry.int
    split at e
    · cases e
      rename_i h
      refine .inr (.inr (.inr (.inr (.inl ⟨a, k, vs, rfl, rfl, h1, by omega, by omega, ?_, fun p hp => q _ _ _ (Stp.alloc hp) (I.alloc hp) (rep_lst I hp (r.rep k.toNat))⟩))))
      rw [r.length]
      have h2 : k.toNat ≤ 1000 := by omega
      have := Nat.mul_le_mul h.2.2 h2
      rw [line_eq]
      show _ ≤ 16777216
      omega
    · cases e
  · split at e
    · cases e; rename_i h
      cases rx.int; cases ry.int
      exact .inl ⟨_, _, rfl, rfl, by unfold CMul; omega, q _ H S .refl I (.int _)⟩
    · split at e
      · cases e; rename_i h
        cases rx.int; cases ry.int
        exact .inr (.inr (.inr (.inr (.inr ⟨_, _, rfl, rfl, h, q _ H S .refl I (.int _)⟩))))
      · cases e
  · cases e
theorem os_mod : OpS K (rI (fun _ j => 0 < j) fun i j => .int (i % j)) modD := os_int fun dx dy d e => by
  unfold modD at e
  split at e
  · split at e
    · cases e; rename_i h; exact ⟨_, _, rfl, rfl, h, rfl⟩
    · cases e
  · cases e
def CDivA (i j : Int) : Prop := CDiv i j ∨ CDivW i j
theorem op_fdivA {X : Cx} : OpR X (binaryOp .FloorDiv) (rI CDivA fun i j => .int (i / j)) := fun pins s σ H x y v u Q I rx ry ⟨i, j, a, b, c, q⟩ => by
  rcases c with c | c
  · exact op_fdiv pins s σ H x y v u Q I rx ry ⟨i, j, a, b, c, q⟩
  · exact op_fdivW pins s σ H x y v u Q I rx ry ⟨i, j, a, b, c, q⟩
theorem os_div : OpS K (rI CDivA fun i j => .int (i / j)) divD := os_int fun dx dy d e => by
  unfold divD at e
  split at e
  · split at e
    · cases e; rename_i h; exact ⟨_, _, rfl, rfl, .inl h, rfl⟩
    · split at e
      · cases e; rename_i h; exact ⟨_, _, rfl, rfl, .inr h, rfl⟩
      · cases e
  · cases e
/-- each operator has a rule -/
theorem bin_rule (op : BOp) (K : PySem.W.Frag) : ∃ r : R2, (∀ X : Cx, X.K = K → Rm X → OpR X (binaryOp op.py) r) ∧ OpS K r (binD op) := by
  cases op with
  | add => exact ⟨rAdd K, fun X e _ => by subst e; exact or_add, os_add⟩
  | sub => exact ⟨_, fun X e _ => or_sub, os_sub⟩
  | mul => exact ⟨rMulA K, fun X e _ => by subst e; exact or_mul, os_mul⟩
  | mod => exact ⟨_, fun X e _ => op_mod, os_mod⟩
  | div => exact ⟨_, fun X e _ => op_fdivA, os_div⟩

/-! ### comparisons: a bool -/
def CmS (K : PySem.W.Frag) (r : R2) (f : D → D → Option Bool) : Prop :=
  ∀ (S : Addr → Prop) (φ : List Addr) (H : Hp) (x y : V) (dx dy : D) (b : Bool) (Q : VK), RepD K S φ H x dx → RepD K S φ H y dy → f dx dy = some b → Q (.bl b) H → r x y H Q
theorem cs_int {g : Int → Int → Bool} {f : D → D → Option Bool} (h : ∀ dx dy b, f dx dy = some b → ∃ i j, dx = .int i ∧ dy = .int j ∧ b = g i j) : CmS K (rI0 fun i j => .bl (g i j)) f := by
  intro S φ H x y dx dy b Q rx ry e q
  obtain ⟨i, j, rfl, rfl, rfl⟩ := h dx dy b e
  cases rx.int; cases ry.int
  exact ⟨i, j, rfl, rfl, q⟩
theorem cs_eq : CmS K (rEqD K) eqD := by
  intro S φ H x y dx dy b Q rx ry e q
  unfold eqD at e
  split at e
  · rename_i h
    cases e
    obtain ⟨h1, h2⟩ := h
    unfold shp at h1 h2
    obtain ⟨p1, s1⟩ := Bool.and_eq_true_iff.mp h1
    obtain ⟨p2, s2⟩ := Bool.and_eq_true_iff.mp h2
    exact ⟨_, _, rx.dp p1, ry.dp p2, s1, s2, q⟩
  · cases e
theorem cs_ne : CmS K (rNeD K) (cmpD .ne) := by
  intro S φ H x y dx dy b Q rx ry e q
  have e' : (eqD dx dy).map (!·) = some b := e
  unfold eqD at e'
  split at e'
  · rename_i h
    cases e'
    obtain ⟨h1, h2⟩ := h
    unfold shp at h1 h2
    obtain ⟨p1, s1⟩ := Bool.and_eq_true_iff.mp h1
    obtain ⟨p2, s2⟩ := Bool.and_eq_true_iff.mp h2
    exact ⟨_, _, rx.dp p1, ry.dp p2, s1, s2, q⟩
  · cases e'
theorem isNon_of (h : RepD K S φ H v d) : decide (v = .non) = isNonD d := by
  rcases h with h | ⟨a, vs, ds, e1, e2, h, r⟩
  · cases h <;> simp [isNonD]
  · subst e1 e2; simp [isNonD]
def rIs : R2 := fun x y H Q => (y = .non ∧ Q (.bl (decide (x = .non))) H) ∨ rIsB x y H Q
def rIsn : R2 := fun x y H Q => (y = .non ∧ Q (.bl (!decide (x = .non))) H) ∨ rNotB x y H Q
theorem isD_cases {dx dy : D} {b : Bool} (h : isD dx dy = some b) : (dy = .non ∧ b = isNonD dx) ∨ ∃ p q, dx = .bl p ∧ dy = .bl q ∧ b = decide (p = q) := by
  unfold isD at h
  split at h
  · cases h; exact .inl ⟨rfl, rfl⟩
  · cases h; exact .inr ⟨_, _, rfl, rfl, rfl⟩
  · cases h
theorem cs_is : CmS K rIs (cmpD .is) := by
  intro S φ H x y dx dy b Q rx ry e q
  rcases isD_cases (show isD dx dy = some b from e) with ⟨rfl, rfl⟩ | ⟨p, r, rfl, rfl, rfl⟩
  · cases ry.non; exact .inl ⟨rfl, by rw [isNon_of rx]; exact q⟩
  · cases rx.bl; cases ry.bl; exact .inr ⟨p, r, rfl, rfl, q⟩
theorem cs_isn : CmS K rIsn (cmpD .isn) := by
  intro S φ H x y dx dy b Q rx ry e q
  have e' : (isD dx dy).map (!·) = some b := e
  cases h : isD dx dy with
  | none => rw [h] at e'; cases e'
  | some c =>
    rw [h] at e'
    cases e'
    rcases isD_cases h with ⟨rfl, rfl⟩ | ⟨p, r, rfl, rfl, rfl⟩
    · cases ry.non; exact .inl ⟨rfl, by rw [isNon_of rx]; exact q⟩
    · cases rx.bl; cases ry.bl; exact .inr ⟨p, r, rfl, rfl, q⟩
theorem cs_icmp {g : Int → Int → Bool} : CmS K (rI0 fun i j => .bl (g i j)) (icmp g) := cs_int fun dx dy b e => by
  unfold icmp at e
  split at e
  · cases e; exact ⟨_, _, rfl, rfl, rfl⟩
  · cases e
def rLtS : R2 := fun x y H Q => ∃ i j, x = .str i ∧ y = .str j ∧ Q (.bl (decide (i.cps.toList < j.cps.toList))) H
def rLtA : R2 := fun x y H Q => (rI0 fun i j => .bl (decide (i < j))) x y H Q ∨ rLtS x y H Q
theorem or_lt {X : Cx} : OpR X (compareOp .Lt) rLtA := op_lt.or op_lt_str
theorem cs_lt : CmS K rLtA ltD := by
  intro S φ H x y dx dy b Q rx ry e q
  unfold ltD at e
  split at e
  · cases e; cases rx.int; cases ry.int; exact .inl ⟨_, _, rfl, rfl, q⟩
  · cases e; cases rx.str; cases ry.str; exact .inr ⟨_, _, rfl, rfl, q⟩
  · cases e
def rInS1 : R2 := fun x y H Q => ∃ i j, x = .str i ∧ y = .str j ∧ Q (.bl (!(Builtin.Str.occurrences j i 0 j.length 1).isEmpty)) H
def rInA (K : PySem.W.Frag) : R2 := fun x y H Q => rInS1 x y H Q ∨ (rInD K x y H Q ∨ rInDT K x y H Q)
theorem or_in {X : Cx} (hu : X.A.units + 65 < cLine) : OpR X (compareOp .In) (rInA X.K) := op_in_str.or ((op_inD hu).or (op_inDT hu))
theorem cs_in : CmS K (rInA K) inD := by
  intro S φ H x y dx dy b Q rx ry e q
  unfold inD at e
  split at e
  · split at e
    · cases e; cases rx.str; cases ry.str; exact .inl ⟨_, _, rfl, rfl, q⟩
    · cases e
  · split at e
    · rename_i h
      cases e
      obtain ⟨h1, h2⟩ := h
      unfold shp at h1 h2
      obtain ⟨p1, s1⟩ := Bool.and_eq_true_iff.mp h1
      obtain ⟨p2, s2⟩ := Bool.and_eq_true_iff.mp h2
      exact .inr (.inl ⟨_, _, rx.dp p1, ry.dp p2, s1, s2, q⟩)
    · cases e
  · split at e
    · rename_i h
      cases e
      obtain ⟨h1, h2⟩ := h
      unfold shp at h1 h2
      obtain ⟨p1, s1⟩ := Bool.and_eq_true_iff.mp h1
      obtain ⟨p2, s2⟩ := Bool.and_eq_true_iff.mp h2
      exact .inr (.inr ⟨_, _, rx.dp p1, ry.dp p2, s1, s2, q⟩)
    · cases e
  · cases e
def rNinS1 : R2 := fun x y H Q => ∃ i j, x = .str i ∧ y = .str j ∧ Q (.bl (!(!(Builtin.Str.occurrences j i 0 j.length 1).isEmpty))) H
def rNinA (K : PySem.W.Frag) : R2 := fun x y H Q => rNinS1 x y H Q ∨ (rNotInD K x y H Q ∨ rNotInDT K x y H Q)
theorem or_nin {X : Cx} (hu : X.A.units + 65 < cLine) : OpR X (compareOp .NotIn) (rNinA X.K) := op_notin_str.or ((op_notInD hu).or (op_notInDT hu))
theorem cs_nin : CmS K (rNinA K) (cmpD .nin) := by
  intro S φ H x y dx dy b Q rx ry e q
  have e' : (inD dx dy).map (!·) = some b := e
  unfold inD at e'
  split at e'
  · split at e'
    · cases e'; cases rx.str; cases ry.str; exact .inl ⟨_, _, rfl, rfl, q⟩
    · cases e'
  · split at e'
    · rename_i h
      cases e'
      obtain ⟨h1, h2⟩ := h
      unfold shp at h1 h2
      obtain ⟨p1, s1⟩ := Bool.and_eq_true_iff.mp h1
      obtain ⟨p2, s2⟩ := Bool.and_eq_true_iff.mp h2
      exact .inr (.inl ⟨_, _, rx.dp p1, ry.dp p2, s1, s2, q⟩)
    · cases e'
  · split at e'
    · rename_i h
      cases e'
      obtain ⟨h1, h2⟩ := h
      unfold shp at h1 h2
      obtain ⟨p1, s1⟩ := Bool.and_eq_true_iff.mp h1
      obtain ⟨p2, s2⟩ := Bool.and_eq_true_iff.mp h2
      exact .inr (.inr ⟨_, _, rx.dp p1, ry.dp p2, s1, s2, q⟩)
    · cases e'
  · cases e'
theorem cmp_rule (op : COp) (K : PySem.W.Frag) : ∃ r : R2, (∀ X : Cx, X.K = K → Rm X → OpR X (compareOp op.py) r) ∧ CmS K r (cmpD op) := by
  cases op with
  | eq => exact ⟨rEqD K, fun X e m => by subst e; exact op_eqD (by have := m.un; omega), cs_eq⟩
  | ne => exact ⟨rNeD K, fun X e m => by subst e; exact op_neD (by have := m.un; omega), cs_ne⟩
  | lt => exact ⟨rLtA, fun X e m => or_lt, cs_lt⟩
  | le => exact ⟨_, fun X e m => op_le, cs_icmp⟩
  | gt => exact ⟨_, fun X e m => op_gt, cs_icmp⟩
  | ge => exact ⟨_, fun X e m => op_ge, cs_icmp⟩
  | is => exact ⟨rIs, fun X e m => op_isN.or op_isBl, cs_is⟩
  | isn => exact ⟨rIsn, fun X e m => op_notN.or op_notBl, cs_isn⟩
  | inn => exact ⟨rInA K, fun X e m => by subst e; exact or_in (by have := m.un; omega), cs_in⟩
  | nin => exact ⟨rNinA K, fun X e m => by subst e; exact or_nin (by have := m.un; omega), cs_nin⟩

/-! ### truth -/
theorem truV {k : Bool} (h : RepD K S φ H v d) (e : truthD d = some k) : TruV K v H k := by
  cases d with
  | non => cases h.non; cases e; exact rfl
  | bl b => cases h.bl; cases e; exact rfl
  | int i => cases h.int; cases e; exact rfl
  | str x =>
    cases h.str
    have e' : (if x.length ≤ LINE then some ((x.length : Int) != 0) else none) = some k := e
    split at e'
    · cases e'; rename_i z; exact ⟨by rw [line_eq]; exact z, rfl⟩
    · cases e'
  | tup xs =>
    obtain ⟨a, vs, rfl, h1, r, _⟩ := h.tup
    cases e
    refine .inr (.inl ⟨vs, h1, ?_⟩)
    cases r <;> rfl
  | lst xs =>
    obtain ⟨a, vs, rfl, h1, r⟩ := h.lst
    cases e
    refine .inl ⟨vs, .inl (.inl h1), ?_⟩
    cases r <;> rfl
  | rol xs => cases e
  | loc n => cases e

/-! ### subscripts -/
theorem RepL.atI {i : Int} (r : RepL K S φ H vs ds) (e : L2.atI ds i = some d) : ∃ v, L2.atI vs i = some v ∧ Rep K S φ H v d := by
  unfold L2.atI at e ⊢
  rw [r.length]
  cases q : ixN ds.length i with
  | none => rw [q] at e; cases e
  | some j =>
    rw [q] at e
    exact r.get (show ds[j]? = some d from e)
def IxS (K : PySem.W.Frag) (r : R2) : Prop :=
  ∀ (S : Addr → Prop) (φ : List Addr) (H : Hp) (x y : V) (dx dy d : D) (Q : VK), RepD K S φ H x dx → RepD K S φ H y dy → idxD dx dy = some d → (∀ v, Rep K S φ H v d → Q v H) → r x y H Q
theorem is_idx : IxS K (rIx K) := by
  intro S φ H x y dx dy d Q rx ry e q
  unfold idxD at e
  split at e
  · obtain ⟨a, vs, rfl, h1, r⟩ := rx.lst
    cases ry.int
    obtain ⟨v, hv, rv⟩ := r.atI e
    exact .inl ⟨a, vs, _, v, rfl, rfl, .inl (.inl h1), hv, q v rv⟩
  · obtain ⟨a, vs, rfl, h1, r, _⟩ := rx.tup
    cases ry.int
    obtain ⟨v, hv, rv⟩ := r.atI e
    exact .inr (.inl ⟨a, vs, _, v, rfl, rfl, h1, hv, q v rv⟩)
  · cases rx.str
    cases ry.int
    split at e
    · rename_i z i hz
      cases hc : L2.atI z.cps.toList i with
      | none => rw [hc] at e; cases e
      | some c => rw [hc] at e; cases e; exact .inr (.inr ⟨z, i, c, rfl, rfl, by rw [line_eq]; exact hz, hc, q _ (.str _)⟩)
    · cases e
  · cases e
def rSl (K : PySem.W.Frag) : V → Option Int → Option Int → Hp → VK → Prop := fun x lo hi H Q => rSlL K x lo hi H Q ∨ (rSlA K x lo hi H Q ∨ rSlS x lo hi H Q)
theorem RepL.cut {lo hi : Option Int} (r : RepL K S φ H vs ds) : RepL K S φ H (cutV vs lo hi) (PV.cut ds lo hi) := by
  unfold cutV PV.cut
  rw [r.length]
  exact (r.drop _).take _
theorem cut_whole {α : Type} {xs : List α} {lo hi : Option Int} (h : HT.sIx xs.length 0 lo = 0 ∧ HT.sIx xs.length xs.length hi = xs.length) : PV.cut xs lo hi = xs := by
  unfold PV.cut
  rw [h.1, h.2]
  simp
def SlS (K : PySem.W.Frag) (r : V → Option Int → Option Int → Hp → VK → Prop) : Prop :=
  ∀ (S : Addr → Prop) (φ : List Addr) (H : Hp) (st : Sto) (x : V) (dx d : D) (lo hi : Option Int) (Q : VK), SI K S φ H st → RepD K S φ H x dx → slcD dx lo hi = some d →
    (∀ v H' S', Stp S φ H S' φ H' → SI K S' φ H' st → Rep K S' φ H' v d → Q v H') → r x lo hi H Q
theorem ss_slc : SlS K (rSl K) := by
  intro S φ H st x dx d lo hi Q I rx e q
  unfold slcD at e
  split at e
  · cases e
    obtain ⟨a, vs, rfl, h1, r⟩ := rx.lst
    exact .inl ⟨a, vs, rfl, .inl (.inl h1), fun p hp => q _ _ _ (Stp.alloc hp) (I.alloc hp) (rep_lst I hp r.cut)⟩
  · cases e
    obtain ⟨a, vs, rfl, h1, r⟩ := rx.rol
    exact .inl ⟨a, vs, rfl, h1, fun p hp => q _ _ _ (Stp.alloc hp) (I.alloc hp) (rep_lst I hp r.cut)⟩
  · cases e
    obtain ⟨a, vs, rfl, h1, r, rr⟩ := rx.tup
    refine .inr (.inl ⟨a, vs, rfl, h1, fun z => ?_, fun _ p hp => q _ _ _ (Stp.alloc hp) (I.alloc hp) (rep_tup I hp r.cut)⟩)
    rw [r.length] at z
    rw [cut_whole z] at q
    exact q _ _ _ .refl I rr
  · rename_i z
    split at e
    · cases e
      rename_i h
      cases rx.str
      exact .inr (.inr ⟨z, rfl, by rw [line_eq]; exact h, q _ _ _ .refl I (.str _)⟩)
    · cases e
  · cases e

/-! ### built-ins -/
theorem ints_of : ∀ {vs : List V} {ds : List D} {l : List Int}, RepL K S φ H vs ds → ints? ds = some l → vs = l.map V.int
  | _, _, _, .nil, e => by cases e; rfl
  | _, _, _, .cons (d := d) h1 h2, e => by
    cases d with
    | int i =>
      cases h1
      have e' : (ints? _).map (i :: ·) = some _ := e
      cases q : ints? _ with
      | none => rw [q] at e'; cases e'
      | some l => rw [q] at e'; cases e'; rw [ints_of h2 q]; rfl
    | _ => cases e
theorem bools_of : ∀ {vs : List V} {ds : List D} {l : List Bool}, RepL K S φ H vs ds → bools? ds = some l → vs = l.map V.bl
  | _, _, _, .nil, e => by cases e; rfl
  | _, _, _, .cons (d := d) h1 h2, e => by
    cases d with
    | bl i =>
      cases h1
      have e' : (bools? _).map (i :: ·) = some _ := e
      cases q : bools? _ with
      | none => rw [q] at e'; cases e'
      | some l => rw [q] at e'; cases e'; rw [bools_of h2 q]; rfl
    | _ => cases e
theorem maxI_spec : ∀ (l : List Int), l ≠ [] → maxI l ∈ l ∧ ∀ y ∈ l, y ≤ maxI l
  | [], h => absurd rfl h
  | [x], _ => by simp [maxI]
  | x :: y :: r, _ => by
    obtain ⟨h1, h2⟩ := maxI_spec (y :: r) (by simp)
    have e : maxI (x :: y :: r) = max x (maxI (y :: r)) := rfl
    rw [e]
    refine ⟨?_, fun z hz => ?_⟩
    · by_cases hx : x ≤ maxI (y :: r)
      · rw [Int.max_eq_right hx]; exact List.mem_cons_of_mem _ h1
      · rw [Int.max_eq_left (by omega)]; exact List.mem_cons_self
    · rcases List.mem_cons.mp hz with q | q
      · subst q; exact Int.le_max_left _ _
      · exact Int.le_trans (h2 z q) (Int.le_max_right _ _)
theorem minI_spec : ∀ (l : List Int), l ≠ [] → minI l ∈ l ∧ ∀ y ∈ l, minI l ≤ y
  | [], h => absurd rfl h
  | [x], _ => by simp [minI]
  | x :: y :: r, _ => by
    obtain ⟨h1, h2⟩ := minI_spec (y :: r) (by simp)
    have e : minI (x :: y :: r) = min x (minI (y :: r)) := rfl
    rw [e]
    refine ⟨?_, fun z hz => ?_⟩
    · by_cases hx : x ≤ minI (y :: r)
      · rw [Int.min_eq_left hx]; exact List.mem_cons_self
      · rw [Int.min_eq_right (by omega)]; exact List.mem_cons_of_mem _ h1
    · rcases List.mem_cons.mp hz with q | q
      · subst q; exact Int.min_le_left _ _
      · exact Int.le_trans (Int.min_le_right _ _) (h2 z q)
theorem CallR.or {X : Cx} {f : Value} {r r' : List V → Hp → VK → Prop} (h : CallR X f r) (h' : CallR X f r') : CallR X f fun xs H Q => r xs H Q ∨ r' xs H Q := by
  intro pins s σ H xs us Q I rx q
  rcases q with q | q
  · exact h pins s σ H xs us Q I rx q
  · exact h' pins s σ H xs us Q I rx q
def ClS (K : PySem.W.Frag) (r : List V → Hp → VK → Prop) (f : List D → Option D) : Prop :=
  ∀ (S : Addr → Prop) (φ : List Addr) (H : Hp) (st : Sto) (xs : List V) (ds : List D) (d : D) (Q : VK), SI K S φ H st → Paired (RepD K S φ H) xs ds → f ds = some d →
    (∀ v H' S', Stp S φ H S' φ H' → SI K S' φ H' st → Rep K S' φ H' v d → Q v H') → r xs H Q
theorem pd1 {R : V → D → Prop} {xs : List V} {d : D} (h : Paired R xs [d]) : ∃ x, xs = [x] ∧ R x d := by
  cases h with
  | cons a b => cases b; exact ⟨_, rfl, a⟩
theorem pd2 {R : V → D → Prop} {xs : List V} {d d' : D} (h : Paired R xs [d, d']) : ∃ x y, xs = [x, y] ∧ R x d ∧ R y d' := by
  cases h with
  | cons a b =>
    cases b with
    | cons c e => cases e; exact ⟨_, _, rfl, a, c⟩
theorem cl_len : ClS K (rLen K) fLen := by
  intro S φ H st xs ds d Q I r e q
  unfold fLen at e
  split at e
  · rename_i d0
    obtain ⟨x, rfl, rx⟩ := pd1 r
    unfold lenD at e
    split at e
    · cases e; obtain ⟨a, vs, rfl, h1, rr⟩ := rx.lst
      exact ⟨_, vs.length, rfl, .inl ⟨vs, .inl (.inl h1), rfl⟩, by rw [rr.length]; exact q _ _ _ .refl I (.int _)⟩
    · cases e; obtain ⟨a, vs, rfl, h1, rr⟩ := rx.rol
      exact ⟨_, vs.length, rfl, .inl ⟨vs, h1, rfl⟩, by rw [rr.length]; exact q _ _ _ .refl I (.int _)⟩
    · cases e; obtain ⟨a, vs, rfl, h1, rr, _⟩ := rx.tup
      exact ⟨_, vs.length, rfl, .inr ⟨vs, h1, rfl⟩, by rw [rr.length]; exact q _ _ _ .refl I (.int _)⟩
    · split at e
      · cases e; cases rx.str; rename_i z hz; exact ⟨_, _, rfl, ⟨by rw [line_eq]; exact hz, rfl⟩, q _ _ _ .refl I (.int _)⟩
      · cases e
    · cases e
  · cases e
def rInt : List V → Hp → VK → Prop := fun xs H Q => (∃ i, xs = [.int i] ∧ Q (.int i) H) ∨ ∃ k, xs = [.bl k] ∧ Q (.int (if k then 1 else 0)) H
theorem cl_int : ClS K rInt fInt := by
  intro S φ H st xs ds d Q I r e q
  unfold fInt at e
  split at e
  · cases e; obtain ⟨x, rfl, rx⟩ := pd1 r; cases rx.int; exact .inl ⟨_, rfl, q _ _ _ .refl I (.int _)⟩
  · cases e
theorem cl_abs : ClS K (fun xs H Q => ∃ i, xs = [.int i] ∧ Q (.int (if i < 0 then -i else i)) H) fAbs := by
  intro S φ H st xs ds d Q I r e q
  unfold fAbs at e
  split at e
  · cases e; obtain ⟨x, rfl, rx⟩ := pd1 r; cases rx.int; exact ⟨_, rfl, q _ _ _ .refl I (.int _)⟩
  · cases e
theorem nuMin3_int {i j l : Int} : nuMin3 (.int i) (.int j) (.int l) = some (.int (if l < (if j < i then j else i) then l else (if j < i then j else i))) := by
  by_cases h : j < i
  · by_cases h2 : l < j <;> simp [nuMin3, nuMin2, nuLt, nuCB, h, h2]
  · by_cases h2 : l < i <;> simp [nuMin3, nuMin2, nuLt, nuCB, h, h2]
def rMaxA (K : PySem.W.Frag) : List V → Hp → VK → Prop := fun xs H Q => (∃ i j, xs = [.int i, .int j] ∧ Q (.int (if j > i then j else i)) H) ∨ rMax K xs H Q
def rMinA (K : PySem.W.Frag) : List V → Hp → VK → Prop := fun xs H Q => (∃ i j, xs = [.int i, .int j] ∧ Q (.int (if j < i then j else i)) H) ∨ (rMin K xs H Q ∨ (rNuC3 nuMin3 xs H Q ∨ rMinT K xs H Q))
theorem cl_max : ClS K (rMaxA K) fMax := by
  intro S φ H st xs ds d Q I r e q
  unfold fMax at e
  split at e
  · cases e; obtain ⟨x, y, rfl, rx, ry⟩ := pd2 r; cases rx.int; cases ry.int; exact .inl ⟨_, _, rfl, q _ _ _ .refl I (.int _)⟩
  · split at e
    · rename_i x l hl
      cases e
      obtain ⟨v, rfl, rx⟩ := pd1 r
      obtain ⟨a, vs, rfl, h1, rr⟩ := rx.lst
      cases ints_of rr hl
      obtain ⟨h2, h3⟩ := maxI_spec (x :: l) (by simp)
      refine .inr ⟨a, x :: l, rfl, .inl (.inl h1), by simp, fun m hm hle => ?_⟩
      have : m = maxI (x :: l) := Int.le_antisymm (h3 m hm) (hle _ h2)
      rw [this]; exact q _ _ _ .refl I (.int _)
    · cases e
  · cases e
theorem pd3 {K : PySem.W.Frag} {S : Addr → Prop} {φ : List Addr} {H : Hp} {xs : List V} {a b c : D} (r : Paired (RepD K S φ H) xs [a, b, c]) : ∃ x y z, xs = [x, y, z] ∧ RepD K S φ H x a ∧ RepD K S φ H y b ∧ RepD K S φ H z c := by
  cases r with
  | cons r1 r2 =>
    obtain ⟨y, z, rfl, r3, r4⟩ := pd2 r2
    exact ⟨_, y, z, rfl, r1, r3, r4⟩
theorem cl_min : ClS K (rMinA K) fMin := by
  intro S φ H st xs ds d Q I r e q
  unfold fMin at e
  split at e
  · cases e; obtain ⟨x, y, rfl, rx, ry⟩ := pd2 r; cases rx.int; cases ry.int; exact .inl ⟨_, _, rfl, q _ _ _ .refl I (.int _)⟩
  · rename_i i j l
    cases e
    obtain ⟨x, y, z, rfl, rx, ry, rz⟩ := pd3 r
    cases rx.int; cases ry.int; cases rz.int
    exact .inr (.inr (.inl ⟨_, _, _, _, rfl, nuMin3_int, q _ _ _ .refl I (.int _)⟩))
  · split at e
    · rename_i x l hl
      cases e
      obtain ⟨v, rfl, rx⟩ := pd1 r
      obtain ⟨a, vs, rfl, h1, rr⟩ := rx.lst
      cases ints_of rr hl
      obtain ⟨h2, h3⟩ := minI_spec (x :: l) (by simp)
      refine .inr (.inl ⟨a, x :: l, rfl, .inl (.inl h1), by simp, fun m hm hle => ?_⟩)
      have : m = minI (x :: l) := Int.le_antisymm (hle _ h2) (h3 m hm)
      rw [this]; exact q _ _ _ .refl I (.int _)
    · cases e
  · split at e
    · rename_i x l hl
      cases e
      obtain ⟨v, rfl, rx⟩ := pd1 r
      obtain ⟨a, vs, rfl, h1, rr, _⟩ := rx.tup
      cases ints_of rr hl
      obtain ⟨h2, h3⟩ := minI_spec (x :: l) (by simp)
      refine .inr (.inr (.inr ⟨a, x :: l, rfl, h1, by simp, fun m hm hle => ?_⟩))
      have : m = minI (x :: l) := Int.le_antisymm (hle _ h2) (h3 m hm)
      rw [this]; exact q _ _ _ .refl I (.int _)
    · cases e
  · cases e
def rSumA (K : PySem.W.Frag) : List V → Hp → VK → Prop := fun vs H Q => rSum K vs H Q ∨ rSumT K vs H Q
theorem cl_sum : ClS K (rSumA K) fSum := by
  intro S φ H st xs ds d Q I r e q
  unfold fSum at e
  split at e
  · rename_i ds
    cases hl : ints? ds with
    | none => rw [hl] at e; cases e
    | some l =>
      rw [hl] at e
      cases e
      obtain ⟨v, rfl, rx⟩ := pd1 r
      obtain ⟨a, vs, rfl, h1, rr⟩ := rx.lst
      cases ints_of rr hl
      exact .inl ⟨a, l, rfl, .inl (.inl h1), q _ _ _ .refl I (.int _)⟩
  · rename_i ds
    cases hl : ints? ds with
    | none => rw [hl] at e; cases e
    | some l =>
      rw [hl] at e
      cases e
      obtain ⟨v, rfl, rx⟩ := pd1 r
      obtain ⟨a, vs, rfl, h1, rr, _⟩ := rx.tup
      cases ints_of rr hl
      exact .inr ⟨a, l, rfl, h1, q _ _ _ .refl I (.int _)⟩
  · cases e
theorem cl_any : ClS K (rAny K) fAny := by
  intro S φ H st xs ds d Q I r e q
  unfold fAny at e
  split at e
  · rename_i ds
    cases hl : bools? ds with
    | none => rw [hl] at e; cases e
    | some l =>
      rw [hl] at e
      cases e
      obtain ⟨v, rfl, rx⟩ := pd1 r
      obtain ⟨a, vs, rfl, h1, rr⟩ := rx.lst
      cases bools_of rr hl
      exact ⟨a, l, rfl, .inl (.inl h1), q _ _ _ .refl I (.bl _)⟩
  · cases e
theorem cl_all : ClS K (rAll K) fAll := by
  intro S φ H st xs ds d Q I r e q
  unfold fAll at e
  split at e
  · rename_i ds
    cases hl : bools? ds with
    | none => rw [hl] at e; cases e
    | some l =>
      rw [hl] at e
      cases e
      obtain ⟨v, rfl, rx⟩ := pd1 r
      obtain ⟨a, vs, rfl, h1, rr⟩ := rx.lst
      cases bools_of rr hl
      exact ⟨a, l, rfl, .inl (.inl h1), q _ _ _ .refl I (.bl _)⟩
  · cases e
def rTupO (K : PySem.W.Frag) : List V → Hp → VK → Prop := fun xs H Q => ∃ p ys, xs = [.ref p] ∧ ((SqL K H p ys ∧ ∀ l, H l = none → Q (.ref l) (upd H l (.tup ys))) ∨ (SqT K H p ys ∧ Q (.ref p) H))
theorem cl_tup : ClS K (rTupO K) fTup := by
  intro S φ H st xs ds d Q I r e q
  unfold fTup at e
  split at e
  · cases e
    obtain ⟨v, rfl, rx⟩ := pd1 r
    obtain ⟨a, vs, rfl, h1, rr⟩ := rx.lst
    exact ⟨a, vs, rfl, .inl ⟨.inl (.inl h1), fun p hp => q _ _ _ (Stp.alloc hp) (I.alloc hp) (rep_tup I hp rr)⟩⟩
  · cases e
    obtain ⟨v, rfl, rx⟩ := pd1 r
    obtain ⟨a, vs, rfl, h1, rr, p⟩ := rx.tup
    exact ⟨a, vs, rfl, .inr ⟨h1, q _ _ _ .refl I p⟩⟩
  · cases e
theorem cl_str : ClS K (fun xs H Q => ∃ i, xs = [.int i] ∧ i.natAbs.log2 < 1920 ∧ Q (.str (toString i)) H) fStr := by
  intro S φ H st xs ds d Q I r e q
  unfold fStr at e
  split at e
  · split at e
    · cases e
      rename_i h
      obtain ⟨x, rfl, rx⟩ := pd1 r
      cases rx.int
      exact ⟨_, rfl, h, q _ _ _ .refl I (.str _)⟩
    · cases e
  · cases e
/-- what a built-in's name stands for -/
def Blt.val : Blt → Value
  | .str => .type "str"
  | .int => .type "int"
  | .tup => .type "tuple"
  | b => .builtin b.name
theorem Blt.boot (b : Blt) : bootBuiltins (Str.ofString b.name) = some b.val := by
  cases b <;> decide +kernel
theorem blt_rule (b : Blt) (K : PySem.W.Frag) : ∃ r, (∀ X : Cx, X.K = K → Rm X → CallR X b.val r) ∧ ClS K r (bltD b) := by
  cases b with
  | len => exact ⟨rLen K, fun X e m => by subst e; exact call_len, cl_len⟩
  | int => exact ⟨rInt, fun X e m => call_int1, cl_int⟩
  | abs => exact ⟨_, fun X e m => call_abs, cl_abs⟩
  | max => exact ⟨rMaxA K, fun X e m => by subst e; exact CallR.or (call_max2 m.calm) (cr_max m.calm), cl_max⟩
  | min => exact ⟨rMinA K, fun X e m => by subst e; exact CallR.or (call_min2 m.calm) (CallR.or (cr_min m.calm) (CallR.or (call_min3Nu m.calm) (cr_minT m.calm))), cl_min⟩
  | sum => exact ⟨rSumA K, fun X e m => by subst e; exact CallR.or (cr_sum m.calm) (cr_sumT m.calm), cl_sum⟩
  | any => exact ⟨rAny K, fun X e m => by subst e; exact cr_any m.calm, cl_any⟩
  | all => exact ⟨rAll K, fun X e m => by subst e; exact cr_all m.calm, cl_all⟩
  | tup => exact ⟨rTupO K, fun X e m => by subst e; exact call_tuple_of, cl_tup⟩
  | str => exact ⟨_, fun X e m => call_str_int, cl_str⟩

/-! ### isinstance -/
def tyOfD : D → Option String
  | .non => some "NoneType"
  | .bl _ => some "bool"
  | .int _ => some "int"
  | .str _ => some "str"
  | .tup _ => some "tuple"
  | .lst _ => some "list"
  | _ => none
theorem tyX_of {n : String} (h : RepD K S φ H v d) (e : tyOfD d = some n) : TyX K H v (.type n) := by
  rcases h with h | ⟨a, vs, ds, rfl, rfl, h, r⟩
  · cases h with
    | non => cases e; exact .base .non
    | bl b => cases e; exact .base (.bl b)
    | int i => cases e; exact .base (.int i)
    | str x => cases e; exact .base (.str x)
    | tup h r =>
      cases e
      rcases h with ⟨_, h⟩ | ⟨o, its, n, hk, hc, _⟩
      · exact .base (.tup h)
      · exact .kTuple hk hc
    | lst _ h r => cases e; exact .base (.lst h)
    | rol _ _ => cases e
    | loc _ => cases e
  · cases e; exact .base (.lst h)
theorem kit_all : ∀ (n : String) (t : Ty) (b : Bool), (n, t, b) ∈ ([("NoneType", .int, false), ("NoneType", .bool, false), ("NoneType", .str, false), ("NoneType", .tup, false), ("NoneType", .lst, false),
    ("bool", .int, true), ("bool", .bool, true), ("bool", .str, false), ("bool", .tup, false), ("bool", .lst, false),
    ("int", .int, true), ("int", .bool, false), ("int", .str, false), ("int", .tup, false), ("int", .lst, false),
    ("str", .int, false), ("str", .bool, false), ("str", .str, true), ("str", .tup, false), ("str", .lst, false),
    ("tuple", .int, false), ("tuple", .bool, false), ("tuple", .str, false), ("tuple", .tup, true), ("tuple", .lst, false),
    ("list", .int, false), ("list", .bool, false), ("list", .str, false), ("list", .tup, false), ("list", .lst, true)] : List (String × Ty × Bool)) → kitB n t.name = some b := by
  intro n t b h
  have : ([("NoneType", .int, false), ("NoneType", .bool, false), ("NoneType", .str, false), ("NoneType", .tup, false), ("NoneType", .lst, false),
    ("bool", .int, true), ("bool", .bool, true), ("bool", .str, false), ("bool", .tup, false), ("bool", .lst, false),
    ("int", .int, true), ("int", .bool, false), ("int", .str, false), ("int", .tup, false), ("int", .lst, false),
    ("str", .int, false), ("str", .bool, false), ("str", .str, true), ("str", .tup, false), ("str", .lst, false),
    ("tuple", .int, false), ("tuple", .bool, false), ("tuple", .str, false), ("tuple", .tup, true), ("tuple", .lst, false),
    ("list", .int, false), ("list", .bool, false), ("list", .str, false), ("list", .tup, false), ("list", .lst, true)] : List (String × Ty × Bool)).all (fun p => decide (kitB p.1 p.2.1.name = some p.2.2)) = true := by decide +kernel
  have q := List.all_eq_true.mp this _ h
  exact of_decide_eq_true q
theorem isi_ok {t : Ty} {b : Bool} (h : RepD K S φ H v d) (e : isiD d t = some b) : ∃ n, TyX K H v (.type n) ∧ PySem.W.kitOne K (.type n) (.type t.name) = some b := by
  have go : ∀ n, tyOfD d = some n → kitB n t.name = some b → ∃ n, TyX K H v (.type n) ∧ PySem.W.kitOne K (.type n) (.type t.name) = some b := fun n e1 e2 => ⟨n, tyX_of h e1, kit_ty e2⟩
  cases d with
  | non => cases e; exact go _ rfl (kit_all _ _ _ (by cases t <;> simp))
  | bl x => cases e; exact go _ rfl (kit_all _ _ _ (by cases t <;> simp))
  | int x => cases e; exact go _ rfl (kit_all _ _ _ (by cases t <;> simp))
  | str x => cases e; exact go _ rfl (kit_all _ _ _ (by cases t <;> simp))
  | tup x => cases e; exact go _ rfl (kit_all _ _ _ (by cases t <;> simp))
  | lst x => cases e; exact go _ rfl (kit_all _ _ _ (by cases t <;> simp))
  | rol x => cases e
  | loc x => cases e
theorem Ty.boot (t : Ty) : bootBuiltins (Str.ofString t.name) = some (.type t.name) := by
  cases t <;> decide +kernel
end
end PV
set_option maxRecDepth 100000
/-! The row's trees against the code. -/
namespace PV
open PySem L2
/-- a def's names: slots; the program's: defs with their arity, constants, built-ins that stand as they are -/
structure MC where
  N : List Str
  fs : List (Str × Nat)
  gn : List Str
  fr : List Str
  /-- methods: class, name, def, arity (without self) -/
  ms : List (Str × Str × Nat × Nat) := []
  /-- classes made: name, the def of __init__, arity -/
  cl : List (Str × Nat × Nat) := []
  /-- names that are no attributes of a class -/
  na : List (Str × Str) := []
  /-- own exceptions that are raised -/
  xs : List Str := []
def visB (sc : Scope) (x : Str) : Bool := match sc.names.lookup x with
  | some .local => true
  | some .cell => true
  | some .free => true
  | _ => false
def locB (sc : Scope) (x : Str) : Bool := match sc.names.lookup x with
  | some .local => true
  | some .cell => true
  | _ => false
def glB (sc : Scope) (x : Str) : Bool := match sc.names.lookup x with
  | some .globalImplicit => true
  | _ => false
def okN (x : Str) : Bool := !(x == ("__debug__" : Str)) && !(x == ("__classdict__" : Str)) && !(x == ("__name__" : Str))
def Exs.len : Exs → Nat
  | .nil => 0
  | .c _ es => es.len + 1
mutual
/-- what may stand as a test -/
def tstB : Ex → Bool
  | .ite _ _ _ => false
  | .fz _ => false
  | .alloc _ => false
  | .tup _ => false
  | .not a => tstB a
  | .bop _ es => tstsB es
  | _ => true
def tstsB : Exs → Bool
  | .nil => true
  | .c e es => tstB e && tstsB es
end
mutual
def tgIn (vs : List Nat) : Tg → Bool
  | .nm i => vs.contains i
  | .tp ts => tgsIn vs ts
def tgsIn (vs : List Nat) : Tgs → Bool
  | .nil => true
  | .c t ts => tgIn vs t && tgsIn vs ts
end
def ownOf (N : List Str) (vs : List Nat) : List (Str × Nat) := vs.filterMap fun i => N[i]?.map fun x => (x, i)
section
variable (m : MC)
mutual
def mT (fb : Str → Bool) (sc : Scope) : Tg → Expr → Bool
  | .nm i, e => match e with
    | .Name x _ => decide (m.N[i]? = some x) && locB sc x && (fb x || decide (sc.names.lookup x = some .local))
    | _ => false
  | .tp ts, e => match e with
    | .Tuple xs _ _ => mTs fb sc ts xs
    | _ => false
def mTs (fb : Str → Bool) (sc : Scope) : Tgs → List Expr → Bool
  | .nil, xs => match xs with
    | [] => true
    | _ => false
  | .c t ts, xs => match xs with
    | x :: xs => mT fb sc t x && mTs fb sc ts xs
    | _ => false
end
def fbC (scope : Scope) : Str → Bool := fun x => scope.names.lookup x == some .cell
def bopOf : Bool → PySem.BoolOp
  | true => .And
  | false => .Or
def isNameE : Expr → Bool
  | .Name _ _ => true
  | _ => false
def isTupE : Expr → Bool
  | .Tuple _ _ _ => true
  | _ => false
mutual
def mE : Ex → Scope → Expr → Bool
  | .var i, sc, e => match e with
    | .Name x _ => decide (m.N[i]? = some x) && visB sc x && okN x
    | _ => false
  | .int i, _, e => match e with
    | .Constant (.int j) _ _ => decide (i = j)
    | _ => false
  | .str x, _, e => match e with
    | .Constant (.str y) _ _ => decide (x = y)
    | _ => false
  | .bl b, _, e => match e with
    | .Constant (.bool c) _ _ => decide (b = c)
    | _ => false
  | .non, _, e => match e with
    | .Constant .none _ _ => true
    | _ => false
  | .gl k, sc, e => match e with
    | .Name x _ => decide (m.gn[k]? = some x) && glB sc x && okN x
    | _ => false
  | .tup es, sc, e => match e with
    | .Tuple xs _ _ => mEs es sc xs && decide (es.len ≤ 1000)
    | _ => false
  | .fz f, sc, e => mF f sc e
  | .alloc f, sc, e => mF f sc e
  | .bin op a b, sc, e => match e with
    | .BinOp x p y _ => decide (op.py = p) && mE a sc x && mE b sc y
    | _ => false
  | .neg a, sc, e => match e with
    | .UnaryOp .USub x _ => mE a sc x
    | _ => false
  | .not a, sc, e => match e with
    | .UnaryOp .Not x _ => mE a sc x
    | _ => false
  | .cmp op a b, sc, e => match e with
    | .Compare x [p] [y] _ => decide (op.py = p) && !(behindInMarks op.py y) && mE a sc x && mE b sc y
    | _ => false
  | .chn op op' a b c, sc, e => match e with
    | .Compare x [p, q] [y, z] _ => decide (op.py = p) && decide (op'.py = q) && !(behindInMarks op'.py z) && mE a sc x && mE b sc y && mE c sc z
    | _ => false
  | .bop and es, sc, e => match e with
    | .BoolOp op xs _ => decide (op = bopOf and) && mEs es sc xs
    | _ => false
  | .ite c a b, sc, e => match e with
    | .IfExp t x y _ => mE c sc t && tstB c && mE a sc x && mE b sc y
    | _ => false
  | .idx a i, sc, e => match e with
    | .Subscript x y _ => mE a sc x && mE i sc y
    | _ => false
  | .slc a lo hi, sc, e => match e with
    | .Subscript x (.Slice l h none _) _ => mE a sc x && mO lo sc l && mO hi sc h
    | _ => false
  | .rev a, sc, e => match e with
    | .Subscript x (.Slice none none (some (.UnaryOp .USub (.Constant (.int 1) _ _) _)) _) _ => mE a sc x
    | _ => false
  | .up a, sc, e => match e with
    | .Call (.Attribute x g apos) [] [] cpos => decide (g = ("upper" : Str)) && (apos.endLine == cpos.line) && isNameE x && mE a sc x
    | _ => false
  | .call f es, sc, e => match e with
    | .Call (.Name x _) xs [] _ => decide (m.fs[f]? = some (x, xs.length)) && glB sc x && okN x && mEs es sc xs
    | _ => false
  | .blt b es, sc, e => match e with
    | .Call (.Name x _) (y :: ys) [] _ => decide (x = Str.ofString b.name) && decide (x ∈ m.fr) && glB sc x && okN x && mEs es sc (y :: ys)
    | _ => false
  | .isi a t, sc, e => match e with
    | .Call (.Name x _) [y, .Name z _] [] _ => decide (x = ("isinstance" : Str)) && decide (x ∈ m.fr) && glB sc x && okN x && decide (z = Str.ofString t.name) && decide (z ∈ m.fr) && glB sc z && okN z && mE a sc y
    | _ => false
  | .popL i oe, sc, e => match e with
    | .Call (.Attribute (.Name x _) a apos) xs [] cpos => decide (m.N[i]? = some x) && visB sc x && okN x && decide (a = ("pop" : Str)) && (apos.endLine == cpos.line) && (match xs with
      | [] => mO oe sc none
      | [y] => mO oe sc (some y)
      | _ => false)
    | _ => false
  | .fld a f, sc, e => match e with
    | .Attribute x g _ => decide (f = g) && isNameE x && mE a sc x
    | _ => false
  | .mth x a f k es, sc, e => match e with
    | .Call (.Attribute o g apos) xs [] cpos => decide (f = g) && decide ((x, f, k, xs.length) ∈ m.ms) && isNameE o && (apos.endLine == cpos.line) && decide (xs.length < 30) && mE a sc o && mEs es sc xs
    | _ => false
  | .new x k es, sc, e => match e with
    | .Call (.Name y _) (z :: zs) [] _ => decide (x = y) && decide ((x, k, zs.length + 1) ∈ m.cl) && glB sc x && okN x && mEs es sc (z :: zs)
    | _ => false
def mEs : Exs → Scope → List Expr → Bool
  | .nil, _, xs => match xs with
    | [] => true
    | _ => false
  | .c e es, sc, xs => match xs with
    | x :: xs => mE e sc x && mEs es sc xs
    | _ => false
def mO : OEx → Scope → Option Expr → Bool
  | .n, _, e => match e with
    | none => true
    | _ => false
  | .s c, sc, e => match e with
    | some x => mE c sc x
    | _ => false
def mC : OEx → Scope → List Expr → Bool
  | .n, _, es => match es with
    | [] => true
    | _ => false
  | .s c, sc, es => match es with
    | [x] => mE c sc x && tstB c
    | _ => false
def mF : Fx → Scope → Expr → Bool
  | .dsp es, sc, e => match e with
    | .List xs _ => mEs es sc xs && decide (es.len ≤ 1000)
    | _ => false
  | .cp1 elt tg it cond vs, sc, e => match e with
    | .ListComp x [⟨t, i, ifs, a⟩] scope _ => decide (a = 0) && mI it sc t i && blkC m.N sc scope (ownOf m.N vs) && decide ((ownOf m.N vs).map (·.2) = vs) && tgIn vs tg && mT m (fbC scope) (relS scope sc) tg t && mC cond (relS scope sc) ifs && mE elt (relS scope sc) x
    | _ => false
  | .cp2 elt tg it cond tg1 it1 cond1 vs vs1, sc, e => match e with
    | .ListComp x [⟨t, i, ifs, a⟩, ⟨t1, i1, ifs1, a1⟩] scope _ => decide (a = 0) && decide (a1 = 0) && mI it sc t i && blkC m.N sc scope (ownOf m.N vs) && decide ((ownOf m.N vs).map (·.2) = vs) && vs1.all (fun j => vs.contains j) && tgIn vs tg && tgIn vs1 tg1
        && mT m (fbC scope) (relS scope sc) tg t && mC cond (relS scope sc) ifs && mI it1 (relS scope sc) t1 i1 && mT m (fbC scope) (relS scope sc) tg1 t1 && mC cond1 (relS scope sc) ifs1 && mE elt (relS scope sc) x
    | _ => false
  | .lrg a, sc, e => match e with
    | .Call (.Name x _) [.Call (.Name y _) [z] [] _] [] _ => decide (x = ("list" : Str)) && decide (x ∈ m.fr) && glB sc x && okN x && decide (y = ("range" : Str)) && decide (y ∈ m.fr) && glB sc y && okN y && mE a sc z
    | _ => false
  | .lof a, sc, e => match e with
    | .Call (.Name x _) [y] [] _ => decide (x = ("list" : Str)) && decide (x ∈ m.fr) && glB sc x && okN x && mE a sc y
    | _ => false
def mI : Src → Scope → Expr → Expr → Bool
  | .seq a, sc, _, e => mE a sc e
  | .rg1 a, sc, _, e => match e with
    | .Call (.Name x _) [y] [] _ => decide (x = ("range" : Str)) && decide (x ∈ m.fr) && glB sc x && okN x && mE a sc y
    | _ => false
  | .rg2 a b, sc, _, e => match e with
    | .Call (.Name x _) [y, z] [] _ => decide (x = ("range" : Str)) && decide (x ∈ m.fr) && glB sc x && okN x && mE a sc y && mE b sc z
    | _ => false
  | .rg3 a b c, sc, _, e => match e with
    | .Call (.Name x _) [y, z, z2] [] _ => decide (x = ("range" : Str)) && decide (x ∈ m.fr) && glB sc x && okN x && mE a sc y && mE b sc z && mE c sc z2
    | _ => false
  | .enm a, sc, t, e => match e with
    | .Call (.Name x _) [y] [] _ => isTupE t && decide (x = ("enumerate" : Str)) && decide (x ∈ m.fr) && glB sc x && okN x && mE a sc y
    | _ => false
  | .zip a b, sc, t, e => match e with
    | .Call (.Name x _) [y, z] [] _ => isTupE t && decide (x = ("zip" : Str)) && decide (x ∈ m.fr) && glB sc x && okN x && mE a sc y && mE b sc z
    | _ => false
end
end
end PV
set_option maxRecDepth 100000
set_option maxHeartbeats 4000000
/-! Expressions: what matches is read as the evaluator evaluates. -/
namespace PV
open PySem PySem.Spec PyProof.Rows L2
structure Ctx where
  P : Program
  w : World
  K : PySem.W.Frag
  mg : Str → Option Value
  base : Heap
  k : Nat
  cf : Nat → List D → Sto → Out D
  gs : List D
  m : MC
/-- the promise of the def f -/
def FinR (K : PySem.W.Frag) (S : Addr → Prop) (φ : List Addr) (H : Hp) (E : XK) : Out D → Prop
  | .ok (.tup [.str x, d]) st' => ∀ H' S' φ' q v, Stp S φ H S' φ' H' → SI K S' φ' H' st' → H' q = some (.xd [("step", v)]) → Rep K S' φ' H' v d → E (.ref (He.ga K x)) (some q) H'
  | _ => False
def spF (K : PySem.W.Frag) (cf : Nat → List D → Sto → Out D) (f : Nat) : Sp := fun vs H Q E => ∃ S φ st ds, SI K S φ H st ∧ RepL K S φ H vs ds ∧ (FinE K false S φ H Q (cf f ds st) ∨ (cf f ds st = .err ∧ FinR K S φ H E (cf (RX + f) ds st)))
/-- an own exception that is raised -/
structure XOk (P : Program) (w : World) (K : PySem.W.Frag) (mg : Str → Option Value) (base : Heap) (x : Str) : Prop where
  g : mg x = some (.ref (He.ga K x))
  oex : OexC K (He.ga K x)
  make : ∃ fI fd, PySem.W.findIn K (.ref (He.ga K x)) "__init__" = some (some (.ref fI)) ∧ PySem.W.typeIn K (.ref fI) = some (.type "function") ∧ FnOk P w K mg base (L2.CX P w) 1 fI fd ["self", "step"] (spX K (He.ga K x)) ∧ Binds K fd ["self", "step"] []
  exm : PySem.W.exmOne K (.ref (He.ga K x)) (.ref (He.ga K x)) = some true
structure CtxOk (Γ : Ctx) : Prop where
  kk : 1 ≤ Γ.k
  xs : ∀ x ∈ Γ.m.xs, XOk Γ.P Γ.w Γ.K Γ.mg Γ.base x
  nd : Γ.m.N.Nodup
  fn : ∀ f x n, Γ.m.fs[f]? = some (x, n) → ∃ a fd ps, Γ.mg x = some (.ref a) ∧ PySem.W.keepIn Γ.K (.ref a) = true ∧ Binds Γ.K fd ps [] ∧ FnOk Γ.P Γ.w Γ.K Γ.mg Γ.base (L2.CX Γ.P Γ.w) Γ.k a fd ps (spF Γ.K Γ.cf f)
  gl : ∀ (k : Nat) x d, Γ.m.gn[k]? = some x → Γ.gs[k]? = some d → ∃ v u, Γ.mg x = some u ∧ RelV v u ∧ Rep Γ.K (fun _ => False) [] (fun _ => none) v d
  fr : ∀ x ∈ Γ.m.fr, Γ.mg x = none
  ms : ∀ x f k n, (x, f, k, n) ∈ Γ.m.ms → ∃ a fd ps, Cls Γ.K (He.ga Γ.K x) ∧ Meth Γ.K (He.ga Γ.K x) f a ∧ Binds Γ.K fd ps [] ∧ FnOk Γ.P Γ.w Γ.K Γ.mg Γ.base (L2.CX Γ.P Γ.w) Γ.k a fd ps (spF Γ.K Γ.cf k)
  cl : ∀ x k n, (x, k, n) ∈ Γ.m.cl → Γ.mg x = some (.ref (He.ga Γ.K x)) ∧ Cls Γ.K (He.ga Γ.K x) ∧ ∃ a fd ps, Mk Γ.K (He.ga Γ.K x) a ∧ Binds Γ.K fd ps [] ∧ FnOk Γ.P Γ.w Γ.K Γ.mg Γ.base (L2.CX Γ.P Γ.w) Γ.k a fd ps (spF Γ.K Γ.cf k)
  na : ∀ x f, (x, f) ∈ Γ.m.na → NoAttr Γ.K (He.ga Γ.K x) f
/-- where an expression stands: its scope, the names whose cells were made at the entry -/
structure LC where
  sc : Scope
  fb : Str → Bool
  xk : XK
structure Good (Γ : Ctx) (L : LC) (X : Cx) : Prop where
  prog : X.prog = Γ.P
  w : X.w = Γ.w
  K : X.K = Γ.K
  mg : X.mg = Γ.mg
  base : X.base = Γ.base
  N : X.N = Γ.m.N
  calm : X.calm = true
  room : Room (Γ.k + 1) X.A
  sc : X.env.scope = L.sc
  fn : X.fn = L.fb
theorem Good.rm {Γ : Ctx} {L : LC} {X : Cx} (g : Good Γ L X) : Rm X := ⟨g.calm, by have := g.room.un; omega⟩
def SE (Γ : Ctx) (L : LC) (o : Bool) (e : Expr) (m : Env → Sto → Out D) : Prop :=
  ∃ t : TE, (∀ X, Good Γ L X → PE X e t) ∧ ∀ σ H env st S φ Q, EI Γ.K S φ H σ env → SI Γ.K S φ H st → FinE Γ.K o S φ H Q (m env st) → t σ H Q
def ST (Γ : Ctx) (L : LC) (e : Expr) (m : Env → Sto → Out Bool) : Prop :=
  ∃ t : TT, (∀ X, Good Γ L X → PT X e t) ∧ ∀ σ H env st S φ Q, EI Γ.K S φ H σ env → SI Γ.K S φ H st → FinB Γ.K S φ H Q (m env st) → t σ H Q
def SL (Γ : Ctx) (L : LC) (o : Bool) (es : List Expr) (m : Env → Sto → Out (List D)) : Prop :=
  ∃ t : TA, (∀ X, Good Γ L X → PA X es t) ∧ ∀ σ H env st S φ Q, EI Γ.K S φ H σ env → SI Γ.K S φ H st → FinL Γ.K o S φ H Q (m env st) → t σ H Q
def SO' (Γ : Ctx) (L : LC) (e : Option Expr) (m : Env → Sto → Out (Option Int)) : Prop :=
  ∃ t : TO, (∀ X, Good Γ L X → PO X e t) ∧ ∀ σ H env st S φ Q, EI Γ.K S φ H σ env → SI Γ.K S φ H st → FinB Γ.K S φ H Q (m env st) → t σ H Q
def SC (Γ : Ctx) (L : LC) (es : List Expr) (m : Env → Sto → Out Bool) : Prop :=
  ∃ t : TT, (∀ X, Good Γ L X → PTs X es t) ∧ ∀ σ H env st S φ Q, EI Γ.K S φ H σ env → SI Γ.K S φ H st → FinB Γ.K S φ H Q (m env st) → t σ H Q
/-- a new list of one's own -/
def FinF (K : PySem.W.Frag) (S : Addr → Prop) (φ : List Addr) (H : Hp) (Q : VK) : Out (List D) → Prop
  | .ok ds st' => ∀ a vs H' S' φ', Stp S φ H S' φ' H' → SI K S' φ' H' st' → H a = none → ¬ S' a → a ∉ φ' → H' a = some (.lst vs) → RepL K S' φ' H' vs ds → Q (.ref a) H'
  | .err => False
def SF (Γ : Ctx) (L : LC) (e : Expr) (m : Env → Sto → Out (List D)) : Prop :=
  ∃ t : TE, (∀ X, Good Γ L X → PE X e t) ∧ ∀ σ H env st S φ Q, EI Γ.K S φ H σ env → SI Γ.K S φ H st → FinF Γ.K S φ H Q (m env st) → t σ H Q
/-- an iterator that gives ds, while what it leans on stands -/
def JOk (K : PySem.W.Frag) (o : Bool) (S : Addr → Prop) (φ : List Addr) (H : Hp) (J : It) (ds : List D) : Prop :=
  ∃ wt : List Addr, (∀ a ∈ wt, H a ≠ none ∧ a ∉ φ ∧ (o = false → S a)) ∧
    ∀ S2 φ2 H2, (∀ a ∈ wt, H2 a = H a) → (∀ a, S a → H2 a = H a) → (∀ a, S a → S2 a) → (∃ ψ, φ2 = φ ++ ψ) →
      (∀ i, i < ds.length → J.go i H2) ∧ J.stop ds.length H2 ∧ ∀ (i : Nat) d x H3, ds[i]? = some d → J.yld i H2 x H3 → ∀ st2, SI K S2 φ2 H2 st2 →
        ∃ S3, Stp S2 φ2 H2 S3 φ2 H3 ∧ SI K S3 φ2 H3 st2 ∧ Rep K S3 φ2 H3 x d
def FinS (K : PySem.W.Frag) (o : Bool) (S : Addr → Prop) (φ : List Addr) (H : Hp) (R : It → Hp → Prop) : Out (List D) → Prop
  | .ok ds st' => ∀ J H' S' φ', Stp S φ H S' φ' H' → SI K S' φ' H' st' → JOk K o S' φ' H' J ds → R J H'
  | .err => False
def SS (Γ : Ctx) (L : LC) (o : Bool) (tg e : Expr) (m : Env → Sto → Out (List D)) : Prop :=
  ∃ t : TI, (∀ X, Good Γ L X → PI X tg e t) ∧ ∀ σ H env st S φ R, EI Γ.K S φ H σ env → SI Γ.K S φ H st → FinS Γ.K o S φ H R (m env st) → t σ H R
/-- the lists of one's own stand where they stood -/
def Kept (env : Env) (σ : L2.St) (env' : Env) (σ' : L2.St) : Prop := ∀ (i : Nat) ds, env'[i]? = some (some (.own ds)) → env[i]? = some (some (.own ds)) ∧ σ'[i]? = σ[i]?
theorem Kept.trans {env env1 env2 : Env} {σ σ1 σ2 : L2.St} (h : Kept env σ env1 σ1) (k : Kept env1 σ1 env2 σ2) : Kept env σ env2 σ2 := fun i ds e =>
  let ⟨a, b⟩ := k i ds e
  let ⟨c, d⟩ := h i ds a
  ⟨c, b.trans d⟩
def SG (Γ : Ctx) (L : LC) (tg : Expr) (c : Tg) : Prop :=
  ∃ g : TG, (∀ X, Good Γ L X → PG X tg g) ∧ ∀ v d σ H env env' S φ st (Q : L2.St → Hp → Prop), EI Γ.K S φ H σ env → SI Γ.K S φ H st → Rep Γ.K S φ H v d → bindT c d env = some env' →
    (∀ σ', ((∀ vs, tgIn vs c = true → wipe σ' vs = wipe σ vs) ∧ Kept env σ env' σ') → EI Γ.K S φ H σ' env' → Q σ' H) → g v σ H Q
section
variable {Γ : Ctx} {L : LC} {o : Bool} {e a b : Expr}
/-! ### outcomes in a row -/
theorem FinE.bind {α : Type} {K : PySem.W.Frag} {S : Addr → Prop} {φ : List Addr} {H : Hp} {Q : VK} {m : Out α} {f : α → Sto → Out D} (h : FinE K o S φ H Q (m.bind f)) : ∃ x st, m = .ok x st ∧ FinE K o S φ H Q (f x st) := by
  cases m with
  | ok x st => exact ⟨x, st, rfl, h⟩
  | err => exact h.elim
theorem FinL.bind {α : Type} {K : PySem.W.Frag} {S : Addr → Prop} {φ : List Addr} {H : Hp} {Q : List V → Hp → Prop} {m : Out α} {f : α → Sto → Out (List D)} (h : FinL K o S φ H Q (m.bind f)) : ∃ x st, m = .ok x st ∧ FinL K o S φ H Q (f x st) := by
  cases m with
  | ok x st => exact ⟨x, st, rfl, h⟩
  | err => exact h.elim
theorem FinB.bind {α β : Type} {K : PySem.W.Frag} {S : Addr → Prop} {φ : List Addr} {H : Hp} {Q : β → Hp → Prop} {m : Out α} {f : α → Sto → Out β} (h : FinB K S φ H Q (m.bind f)) : ∃ x st, m = .ok x st ∧ FinB K S φ H Q (f x st) := by
  cases m with
  | ok x st => exact ⟨x, st, rfl, h⟩
  | err => exact h.elim
theorem FinF.bind {α : Type} {K : PySem.W.Frag} {S : Addr → Prop} {φ : List Addr} {H : Hp} {Q : VK} {m : Out α} {f : α → Sto → Out (List D)} (h : FinF K S φ H Q (m.bind f)) : ∃ x st, m = .ok x st ∧ FinF K S φ H Q (f x st) := by
  cases m with
  | ok x st => exact ⟨x, st, rfl, h⟩
  | err => exact h.elim
theorem FinS.bind {α : Type} {K : PySem.W.Frag} {S : Addr → Prop} {φ : List Addr} {H : Hp} {R : It → Hp → Prop} {m : Out α} {f : α → Sto → Out (List D)} (h : FinS K o S φ H R (m.bind f)) : ∃ x st, m = .ok x st ∧ FinS K o S φ H R (f x st) := by
  cases m with
  | ok x st => exact ⟨x, st, rfl, h⟩
  | err => exact h.elim
theorem FinF.stp {K : PySem.W.Frag} {S S' : Addr → Prop} {φ φ' : List Addr} {H H' : Hp} {Q : VK} {m : Out (List D)} (x : Stp S φ H S' φ' H') (h : FinF K S φ H Q m) : FinF K S' φ' H' Q m := by
  cases m with
  | ok d st => exact fun a vs H2 S2 φ2 p q r => h a vs H2 S2 φ2 (x.trans p) q (x.free r)
  | err => exact h
theorem FinS.stp {K : PySem.W.Frag} {S S' : Addr → Prop} {φ φ' : List Addr} {H H' : Hp} {R : It → Hp → Prop} {m : Out (List D)} (x : Stp S φ H S' φ' H') (h : FinS K o S φ H R m) : FinS K o S' φ' H' R m := by
  cases m with
  | ok d st => exact fun J H2 S2 φ2 p q => h J H2 S2 φ2 (x.trans p) q
  | err => exact h
theorem lift_ok {α : Type} {x : Option α} {s : Sto} {a : α} {s' : Sto} (h : lift x s = .ok a s') : x = some a ∧ s' = s := by
  cases x with
  | none => cases h
  | some y => cases h; exact ⟨rfl, rfl⟩
theorem FinE.lift {K : PySem.W.Frag} {S : Addr → Prop} {φ : List Addr} {H : Hp} {Q : VK} {x : Option D} {s : Sto} (h : FinE K o S φ H Q (lift x s)) : ∃ d, x = some d ∧ FinE K o S φ H Q (.ok d s) := by
  cases x with
  | none => exact h.elim
  | some y => exact ⟨y, rfl, h⟩
theorem FinB.lift {α : Type} {K : PySem.W.Frag} {S : Addr → Prop} {φ : List Addr} {H : Hp} {Q : α → Hp → Prop} {x : Option α} {s : Sto} (h : FinB K S φ H Q (lift x s)) : ∃ d, x = some d ∧ FinB K S φ H Q (.ok d s) := by
  cases x with
  | none => exact h.elim
  | some y => exact ⟨y, rfl, h⟩
/-- a part evaluated: then the rest from where it came to -/
theorem SE.use {t : TE} {m : Env → Sto → Out D} (h : ∀ σ H env st S φ Q, EI Γ.K S φ H σ env → SI Γ.K S φ H st → FinE Γ.K o S φ H Q (m env st) → t σ H Q)
    {σ : L2.St} {H : Hp} {env : Env} {st st' : Sto} {S : Addr → Prop} {φ : List Addr} {Q : VK} {d : D} (E : EI Γ.K S φ H σ env) (I : SI Γ.K S φ H st) (em : m env st = .ok d st')
    (q : ∀ v H' S' φ', Stp S φ H S' φ' H' → EI Γ.K S' φ' H' σ env → SI Γ.K S' φ' H' st' → RepM o Γ.K S' φ' H' v d → Q v H') : t σ H Q :=
  h σ H env st S φ Q E I (by rw [em]; exact fun v H' S' φ' x I' r => q v H' S' φ' x (E.mono x I) I' r)
theorem SB.use {α : Type} {t : L2.St → Hp → (α → Hp → Prop) → Prop} {m : Env → Sto → Out α} (h : ∀ σ H env st S φ Q, EI Γ.K S φ H σ env → SI Γ.K S φ H st → FinB Γ.K S φ H Q (m env st) → t σ H Q)
    {σ : L2.St} {H : Hp} {env : Env} {st st' : Sto} {S : Addr → Prop} {φ : List Addr} {Q : α → Hp → Prop} {d : α} (E : EI Γ.K S φ H σ env) (I : SI Γ.K S φ H st) (em : m env st = .ok d st')
    (q : ∀ H' S' φ', Stp S φ H S' φ' H' → EI Γ.K S' φ' H' σ env → SI Γ.K S' φ' H' st' → Q d H') : t σ H Q :=
  h σ H env st S φ Q E I (by rw [em]; exact fun H' S' φ' x I' => q H' S' φ' x (E.mono x I) I')
theorem SLL.use {t : TA} {m : Env → Sto → Out (List D)} (h : ∀ σ H env st S φ Q, EI Γ.K S φ H σ env → SI Γ.K S φ H st → FinL Γ.K o S φ H Q (m env st) → t σ H Q)
    {σ : L2.St} {H : Hp} {env : Env} {st st' : Sto} {S : Addr → Prop} {φ : List Addr} {Q : List V → Hp → Prop} {d : List D} (E : EI Γ.K S φ H σ env) (I : SI Γ.K S φ H st) (em : m env st = .ok d st')
    (q : ∀ vs H' S' φ', Stp S φ H S' φ' H' → EI Γ.K S' φ' H' σ env → SI Γ.K S' φ' H' st' → Paired (RepM o Γ.K S' φ' H') vs d → Q vs H') : t σ H Q :=
  h σ H env st S φ Q E I (by rw [em]; exact fun v H' S' φ' x I' r => q v H' S' φ' x (E.mono x I) I' r)

/-! ### names, constants -/
theorem okN_of {x : Str} (h : okN x = true) : (x == ("__debug__" : Str)) = false ∧ (x == ("__classdict__" : Str)) = false ∧ x ≠ "__name__" := by
  unfold okN at h
  simp only [Bool.and_eq_true, Bool.not_eq_true'] at h
  exact ⟨h.1.1, h.1.2, fun e => by have := h.2; rw [e] at this; simp at this⟩
theorem vis_of {sc : Scope} {x : Str} (h : visB sc x = true) : Vis sc x := by
  unfold visB at h
  split at h
  · rename_i e; exact .inl e
  · rename_i e; exact .inr (.inl e)
  · rename_i e; exact .inr (.inr e)
  · cases h
theorem loc_of {sc : Scope} {x : Str} (h : locB sc x = true) : Loc sc x := by
  unfold locB at h
  split at h
  · rename_i e; exact .inl e
  · rename_i e; exact .inr e
  · cases h
theorem gl_of {sc : Scope} {x : Str} (h : glB sc x = true) : sc.names.lookup x = some .globalImplicit := by
  unfold glB at h
  split at h
  · assumption
  · cases h
theorem Good.gl {X : Cx} (g : Good Γ L X) {x : Str} (h : glB L.sc x = true) : Gl X x := by
  show X.env.scope.names.lookup x = _
  rw [g.sc]; exact gl_of h
theorem se_var {i : Nat} (cf gs) (h : mE Γ.m (.var i) L.sc e = true) : SE Γ L o e (ev cf gs o (.var i)) := by
  unfold mE at h
  split at h
  · rename_i x pos
    simp only [Bool.and_eq_true, decide_eq_true_eq] at h
    obtain ⟨⟨h1, h2⟩, h3⟩ := h
    obtain ⟨n1, n2, _⟩ := okN_of h3
    refine ⟨tVar i, fun X g => pe_var (by rw [g.N]; exact h1) (by rw [g.sc]; exact vis_of h2) n1 n2, fun σ H env st S φ Q E I f => ?_⟩
    unfold ev at f
    split at f
    · rename_i d he
      obtain ⟨v, e1, r⟩ := E.val i d he
      exact ⟨v, e1, f v H S φ .refl I (.inl r)⟩
    · rename_i ds he
      split at f
      · rename_i ho
        obtain ⟨a, vs, e1, e2, _, e4, r⟩ := E.own i ds he
        exact ⟨_, e1, f _ H S φ .refl I (.inr ⟨ho, a, vs, ds, rfl, rfl, e4, e2, r⟩)⟩
      · exact f.elim
    · exact f.elim
  · cases h
theorem se_const {v : V} {d : D} {m : Env → Sto → Out D} (hp : ∀ X : Cx, PE X e (tC v)) (hm : ∀ env s, m env s = .ok d s) (r : ∀ K S φ H, Rep K S φ H v d) : SE Γ L o e m :=
  ⟨tC v, fun X _ => hp X, fun σ H env st S φ Q E I f => by rw [hm] at f; exact f v H S φ .refl I (.inl (r _ _ _ _))⟩
theorem se_gl (Γok : CtxOk Γ) {k : Nat} (h : mE Γ.m (.gl k) L.sc e = true) : SE Γ L o e (ev Γ.cf Γ.gs o (.gl k)) := by
  unfold mE at h
  split at h
  · rename_i x pos
    simp only [Bool.and_eq_true, decide_eq_true_eq] at h
    obtain ⟨⟨h1, h2⟩, h3⟩ := h
    obtain ⟨n1, n2, _⟩ := okN_of h3
    cases hg : Γ.gs[k]? with
    | none => exact ⟨fun _ _ _ => False, fun X g => ⟨fun _ _ _ _ _ _ q => q.elim⟩, fun σ H env st S φ Q E I f => by unfold ev at f; rw [hg] at f; exact f⟩
    | some d =>
      obtain ⟨v, u, e1, e2, r⟩ := Γok.gl k x d h1 hg
      refine ⟨tC v, fun X g => pe_glob (g.gl h2) (by rw [g.mg]; exact e1) e2 n1, fun σ H env st S φ Q E I f => ?_⟩
      unfold ev at f
      rw [hg] at f
      exact f v H S φ .refl I (.inl r.ofK)
  · cases h

/-! ### lists of expressions -/
theorem star_of {m : MC} {c : Ex} {sc : Scope} {es : List Expr} {env : PySem.Env} (h : mE m c sc e = true) : starEach (e :: es) env = (false, eval e env) :: starEach es env := by
  cases e with
  | Starred x p =>
    exfalso
    cases c with
    | fz f => unfold mE at h; cases f <;> simp [mF] at h
    | alloc f => unfold mE at h; cases f <;> simp [mF] at h
    | _ => simp [mE] at h
  | _ => rfl
theorem sl_nil {cf gs} : SL Γ L o [] (evL cf gs o .nil) :=
  ⟨tNil, fun X _ => pa_nil, fun σ H env st S φ Q E I f => by unfold evL at f; exact f [] H S φ .refl I .nil⟩
theorem sl_cons {c : Ex} {cs : Exs} {es : List Expr} {cf gs} (hs : ∀ env, starEach (e :: es) env = (false, eval e env) :: starEach es env) (h1 : SE Γ L o e (ev cf gs o c)) (h2 : SL Γ L o es (evL cf gs o cs)) : SL Γ L o (e :: es) (evL cf gs o (.c c cs)) := by
  obtain ⟨t1, p1, q1⟩ := h1
  obtain ⟨t2, p2, q2⟩ := h2
  refine ⟨tCons t1 t2, fun X g => pa_cons (p1 X g) (p2 X g) (hs _), fun σ H env st S φ Q E I f => ?_⟩
  unfold evL at f
  obtain ⟨d, s1, e1, f⟩ := f.bind
  obtain ⟨ds, s2, e2, f⟩ := f.bind
  refine SE.use q1 E I e1 fun v H1 S1 φ1 x1 E1 I1 r1 => ?_
  refine SLL.use q2 E1 I1 e2 fun vs H2 S2 φ2 x2 E2 I2 r2 => ?_
  exact f _ H2 S2 φ2 (x1.trans x2) I2 (.cons (r1.mono x2 I1) r2)
theorem reps_of {K : PySem.W.Frag} {S : Addr → Prop} {φ : List Addr} {H : Hp} : ∀ {vs : List V} {ds : List D}, Paired (RepM false K S φ H) vs ds → RepL K S φ H vs ds
  | _, _, .nil => .nil
  | _, _, .cons a b => .cons a.val (reps_of b)
theorem evL_len {cf gs} : ∀ {es : Exs} {env : Env} {st st' : Sto} {ds : List D}, evL cf gs o es env st = .ok ds st' → ds.length = es.len
  | .nil, _, _, _, _, h => by unfold evL at h; cases h; rfl
  | .c e es, env, st, _, ds, h => by
    unfold evL at h
    cases h1 : ev cf gs o e env st with
    | err => rw [h1] at h; cases h
    | ok d s1 =>
      rw [h1] at h
      cases h2 : evL cf gs o es env s1 with
      | err => simp only [Out.bind, h2] at h; cases h
      | ok r s2 =>
        simp only [Out.bind, h2] at h
        cases h
        simp only [List.length_cons, Exs.len, evL_len h2]
theorem se_tup {es : Exs} {xs : List Expr} {k : Nat} {pos : Pos} {cf gs} (hz : es.len ≤ 1000) (h : SL Γ L false xs (evL cf gs false es)) : SE Γ L o (.Tuple xs k pos) (ev cf gs o (.tup es)) := by
  obtain ⟨t, p, q⟩ := h
  refine ⟨tTup t, fun X g => pe_tup (p X g), fun σ H env st S φ Q E I f => ?_⟩
  unfold ev at f
  obtain ⟨ds, s1, e1, f⟩ := f.bind
  refine SLL.use q E I e1 fun vs H1 S1 φ1 x1 E1 I1 r1 => ?_
  have r := reps_of r1
  refine ⟨by rw [line_eq, r.length, evL_len e1]; show _ ≤ 16777216; omega, fun a ha => ?_⟩
  exact f _ _ _ _ (x1.trans (Stp.alloc ha)) (I1.alloc ha) (.inl (rep_tup I1 ha r))

/-! ### operators -/
theorem RepM.rdm {o : Bool} {K : PySem.W.Frag} {S : Addr → Prop} {φ : List Addr} {H : Hp} {st : Sto} {v : V} {d : D} (h : RepM o K S φ H v d) (I : SI K S φ H st) : RepD K S φ H v (deref st d) := h.rd I
theorem se_bin {op : BOp} {ca cb : Ex} {cf gs} {pos : Pos} (h1 : SE Γ L true a (ev cf gs true ca)) (h2 : SE Γ L true b (ev cf gs true cb)) : SE Γ L o (.BinOp a op.py b pos) (ev cf gs o (.bin op ca cb)) := by
  obtain ⟨t1, p1, q1⟩ := h1
  obtain ⟨t2, p2, q2⟩ := h2
  obtain ⟨r, hr, hs⟩ := bin_rule op Γ.K
  refine ⟨tOp r t1 t2, fun X g => pe_op (hr X g.K g.rm) (p1 X g) (p2 X g), fun σ H env st S φ Q E I f => ?_⟩
  unfold ev at f
  obtain ⟨d1, s1, e1, f⟩ := f.bind
  obtain ⟨d2, s2, e2, f⟩ := f.bind
  obtain ⟨d, ed, f⟩ := f.lift
  refine SE.use q1 E I e1 fun v H1 S1 φ1 x1 E1 I1 r1 => ?_
  refine SE.use q2 E1 I1 e2 fun w H2 S2 φ2 x2 E2 I2 r2 => ?_
  exact hs S2 φ2 H2 s2 v w _ _ d Q I2 ((r1.mono x2 I1).rd I2) (r2.rd I2) ed fun u H3 S3 x3 I3 r3 => f u H3 S3 φ2 ((x1.trans x2).trans x3) I3 (.inl r3)
theorem se_neg {ca : Ex} {cf gs} {pos : Pos} (h1 : SE Γ L true a (ev cf gs true ca)) : SE Γ L o (.UnaryOp .USub a pos) (ev cf gs o (.neg ca)) := by
  obtain ⟨t1, p1, q1⟩ := h1
  refine ⟨tUn (rU fun i => .int (-i)) t1, fun X g => pe_un un_neg (p1 X g), fun σ H env st S φ Q E I f => ?_⟩
  unfold ev at f
  obtain ⟨d1, s1, e1, f⟩ := f.bind
  refine SE.use q1 E I e1 fun v H1 S1 φ1 x1 E1 I1 r1 => ?_
  split at f
  · have := r1.rd0.int
    exact ⟨_, this, f _ _ _ _ x1 I1 (.inl (.int _))⟩
  · exact f.elim
/-- a comparison, as a value and as a test -/
theorem sx_cmp {op : COp} {ca cb : Ex} {cf gs} {pos : Pos} (hm : behindInMarks op.py b = false) (h1 : SE Γ L true a (ev cf gs true ca)) (h2 : SE Γ L true b (ev cf gs true cb)) :
    ∃ t : TE, (∀ X, Good Γ L X → PE X (.Compare a [op.py] [b] pos) t ∧ PT X (.Compare a [op.py] [b] pos) (tTest t)) ∧ ∀ σ H env st S φ Q, EI Γ.K S φ H σ env → SI Γ.K S φ H st → FinE Γ.K o S φ H Q (ev cf gs o (.cmp op ca cb) env st) → t σ H Q := by
  obtain ⟨t1, p1, q1⟩ := h1
  obtain ⟨t2, p2, q2⟩ := h2
  obtain ⟨r, hr, hs⟩ := cmp_rule op Γ.K
  refine ⟨tOp r t1 t2, fun X g => ⟨pe_cmpR (hr X g.K g.rm) (p1 X g) (p2 X g) hm, pt_cmpR (hr X g.K g.rm) (p1 X g) (p2 X g) hm⟩, fun σ H env st S φ Q E I f => ?_⟩
  unfold ev at f
  obtain ⟨d1, s1, e1, f⟩ := f.bind
  obtain ⟨d2, s2, e2, f⟩ := f.bind
  obtain ⟨d, s3, ed, f3⟩ := f.bind
  obtain ⟨ed, rfl⟩ := lift_ok ed
  refine SE.use q1 E I e1 fun v H1 S1 φ1 x1 E1 I1 r1 => ?_
  refine SE.use q2 E1 I1 e2 fun w H2 S2 φ2 x2 E2 I2 r2 => ?_
  exact hs S2 φ2 H2 v w _ _ d Q ((r1.mono x2 I1).rd I2) (r2.rd I2) ed (f3 _ H2 S2 φ2 (x1.trans x2) I2 (.inl (.bl _)))
theorem sx_chn {op op' : COp} {c : Expr} {ca cb cc : Ex} {cf gs} {pos : Pos} (hm' : behindInMarks op'.py c = false) (h1 : SE Γ L true a (ev cf gs true ca)) (h2 : SE Γ L true b (ev cf gs true cb)) (h3 : SE Γ L true c (ev cf gs true cc)) :
    ∃ t : TE, (∀ X, Good Γ L X → PE X (.Compare a [op.py, op'.py] [b, c] pos) t ∧ PT X (.Compare a [op.py, op'.py] [b, c] pos) (tTest t)) ∧ ∀ σ H env st S φ Q, EI Γ.K S φ H σ env → SI Γ.K S φ H st → FinE Γ.K o S φ H Q (ev cf gs o (.chn op op' ca cb cc) env st) → t σ H Q := by
  obtain ⟨t1, p1, q1⟩ := h1
  obtain ⟨t2, p2, q2⟩ := h2
  obtain ⟨t3, p3, q3⟩ := h3
  obtain ⟨r, hr, hs⟩ := cmp_rule op Γ.K
  obtain ⟨r', hr', hs'⟩ := cmp_rule op' Γ.K
  have hm : lastMarks [op.py, op'.py] [b, c] = false := hm'
  refine ⟨tChain r r' t1 t2 t3, fun X g => ⟨pe_chain (hr X g.K g.rm) (hr' X g.K g.rm) (p1 X g) (p2 X g) (p3 X g) hm, pt_chain (hr X g.K g.rm) (hr' X g.K g.rm) (p1 X g) (p2 X g) (p3 X g) hm⟩, fun σ H env st S φ Q E I f => ?_⟩
  unfold ev at f
  obtain ⟨d1, s1, e1, f⟩ := f.bind
  obtain ⟨d2, s2, e2, f⟩ := f.bind
  obtain ⟨k, s3, ed, f9⟩ := f.bind
  obtain ⟨ed, rfl⟩ := lift_ok ed
  clear f
  refine SE.use q1 E I e1 fun v H1 S1 φ1 x1 E1 I1 r1 => ?_
  refine SE.use q2 E1 I1 e2 fun w H2 S2 φ2 x2 E2 I2 r2 => ?_
  refine hs S2 φ2 H2 v w _ _ k _ ((r1.mono x2 I1).rd I2) (r2.rd I2) ed ⟨k, rfl, ?_⟩
  cases k with
  | true =>
    rw [if_pos rfl] at f9 ⊢
    obtain ⟨d3, s4, e3, f8⟩ := f9.bind
    obtain ⟨k2, s5, ed2, f7⟩ := f8.bind
    obtain ⟨ed2, rfl⟩ := lift_ok ed2
    refine SE.use q3 E2 I2 e3 fun z H3 S3 φ3 x3 E3 I3 r3 => ?_
    exact hs' S3 φ3 H3 w z _ _ k2 Q ((r2.mono x3 I2).rd I3) (r3.rd I3) ed2 (f7 _ H3 S3 φ3 ((x1.trans x2).trans x3) I3 (.inl (.bl _)))
  | false =>
    rw [if_neg Bool.false_ne_true] at f9 ⊢
    exact f9 _ H2 S2 φ2 (x1.trans x2) I2 (.inl (.bl _))
/-- a test that is a value's truth -/
theorem truth_fin {K : PySem.W.Frag} {S : Addr → Prop} {φ : List Addr} {H : Hp} {Q : Bool → Hp → Prop} {m : Out D} (f : FinB K S φ H Q (m.bind fun d s => truthS s d)) :
    FinE K true S φ H (fun x H' => ∃ k, TruV K x H' k ∧ Q k H') m := by
  obtain ⟨d, s1, e1, f⟩ := f.bind
  obtain ⟨k, ek, f⟩ := FinB.lift f
  rw [e1]
  exact fun v H' S' φ' x I r => ⟨k, truV (r.rd I) ek, f H' S' φ' x I⟩
theorem st_of {m : Env → Sto → Out D} (he : ∀ env whole, isTrue e env whole = (do let v ← whole; standAt e.pos; holding [v] (truthy v))) (h : SE Γ L true e m) : ST Γ L e fun env s => (m env s).bind fun d s => truthS s d := by
  obtain ⟨t, p, q⟩ := h
  exact ⟨fun σ H Q => t σ H fun x H' => ∃ k, TruV Γ.K x H' k ∧ Q k H', fun X g => by rw [← g.K]; exact pt_truth (p X g) (he _), fun σ H env st S φ Q E I f => q σ H env st S φ _ E I (truth_fin f)⟩
/-- a test whose value is a bool -/
theorem st_bl {t : TE} {m : Env → Sto → Out D} (hb : ∀ env s d s', m env s = .ok d s' → ∃ b, d = .bl b)
    (q : ∀ σ H env st S φ Q, EI Γ.K S φ H σ env → SI Γ.K S φ H st → FinE Γ.K true S φ H Q (m env st) → t σ H Q) {σ : L2.St} {H : Hp} {env : Env} {st : Sto} {S : Addr → Prop} {φ : List Addr} {Q : Bool → Hp → Prop}
    (E : EI Γ.K S φ H σ env) (I : SI Γ.K S φ H st) (f : FinB Γ.K S φ H Q ((m env st).bind fun d s => truthS s d)) : tTest t σ H Q := by
  obtain ⟨d, s1, e1, f⟩ := f.bind
  obtain ⟨b, rfl⟩ := hb _ _ _ _ e1
  refine q σ H env st S φ _ E I ?_
  rw [e1]
  exact fun v H' S' φ' x I' r => ⟨b, r.rd0.bl, f H' S' φ' x I'⟩
theorem ev_cmp_bl {op : COp} {ca cb : Ex} {cf gs} {env : Env} {s s' : Sto} {d : D} (h : ev cf gs o (.cmp op ca cb) env s = .ok d s') : ∃ b, d = .bl b := by
  unfold ev at h
  cases h1 : ev cf gs true ca env s with
  | err => rw [h1] at h; cases h
  | ok d1 s1 =>
    simp only [h1, Out.bind] at h
    cases h2 : ev cf gs true cb env s1 with
    | err => rw [h2] at h; cases h
    | ok d2 s2 =>
      simp only [h2] at h
      cases h3 : lift (cmpD op (deref s2 d1) (deref s2 d2)) s2 with
      | err => rw [h3] at h; cases h
      | ok b s3 => rw [h3] at h; cases h; exact ⟨_, rfl⟩
theorem ev_chn_bl {op op' : COp} {ca cb cc : Ex} {cf gs} {env : Env} {s s' : Sto} {d : D} (h : ev cf gs o (.chn op op' ca cb cc) env s = .ok d s') : ∃ b, d = .bl b := by
  unfold ev at h
  cases h1 : ev cf gs true ca env s with
  | err => rw [h1] at h; cases h
  | ok d1 s1 =>
    simp only [h1, Out.bind] at h
    cases h2 : ev cf gs true cb env s1 with
    | err => rw [h2] at h; cases h
    | ok d2 s2 =>
      simp only [h2] at h
      cases h3 : lift (cmpD op (deref s2 d1) (deref s2 d2)) s2 with
      | err => rw [h3] at h; cases h
      | ok b s3 =>
        simp only [h3] at h
        cases b with
        | false => rw [if_neg Bool.false_ne_true] at h; cases h; exact ⟨_, rfl⟩
        | true =>
          rw [if_pos rfl] at h
          cases h4 : ev cf gs true cc env s3 with
          | err => rw [h4] at h; cases h
          | ok d4 s4 =>
            simp only [h4] at h
            cases h5 : lift (cmpD op' (deref s4 d2) (deref s4 d4)) s4 with
            | err => rw [h5] at h; cases h
            | ok b5 s5 => rw [h5] at h; cases h; exact ⟨_, rfl⟩
theorem se_not {ca : Ex} {cf gs} {pos : Pos} (h1 : SE Γ L true a (ev cf gs true ca)) : SE Γ L o (.UnaryOp .Not a pos) (ev cf gs o (.not ca)) := by
  obtain ⟨t1, p1, q1⟩ := h1
  refine ⟨tNotT Γ.K t1, fun X g => by rw [← g.K]; exact pe_notT (p1 X g), fun σ H env st S φ Q E I f => ?_⟩
  unfold ev at f
  obtain ⟨d1, s1, e1, f⟩ := f.bind
  obtain ⟨k, s2, ek, f3⟩ := f.bind
  obtain ⟨ek, rfl⟩ := lift_ok ek
  refine SE.use q1 E I e1 fun v H1 S1 φ1 x1 E1 I1 r1 => ?_
  exact ⟨k, truV (r1.rd I1) ek, f3 _ _ _ _ x1 I1 (.inl (.bl _))⟩
theorem st_not {ca : Ex} {cf gs} {pos : Pos} (h1 : ST Γ L a fun env s => (ev cf gs true ca env s).bind fun d s => truthS s d) : ST Γ L (.UnaryOp .Not a pos) fun env s => (ev cf gs true (.not ca) env s).bind fun d s => truthS s d := by
  obtain ⟨t1, p1, q1⟩ := h1
  refine ⟨tNot t1, fun X g => pt_not (p1 X g), fun σ H env st S φ Q E I f => ?_⟩
  obtain ⟨d, s1, e1, f⟩ := f.bind
  unfold ev at e1
  refine q1 σ H env st S φ _ E I ?_
  cases h1 : ev cf gs true ca env st with
  | err => rw [h1] at e1; cases e1
  | ok d1 s2 =>
    simp only [h1, Out.bind] at e1 ⊢
    cases h2 : truthS s2 d1 with
    | err => rw [h2] at e1; cases e1
    | ok k s3 => rw [h2] at e1; cases e1; exact fun H' S' φ' x I' => f H' S' φ' x I'
theorem se_ite {c : Expr} {cc ca cb : Ex} {cf gs} {pos : Pos} (h1 : ST Γ L c fun env s => (ev cf gs true cc env s).bind fun d s => truthS s d) (h2 : SE Γ L false a (ev cf gs false ca)) (h3 : SE Γ L false b (ev cf gs false cb)) :
    SE Γ L o (.IfExp c a b pos) (ev cf gs o (.ite cc ca cb)) := by
  obtain ⟨t1, p1, q1⟩ := h1
  obtain ⟨t2, p2, q2⟩ := h2
  obtain ⟨t3, p3, q3⟩ := h3
  refine ⟨tIf t1 t2 t3, fun X g => pe_ifExp (p1 X g) (p2 X g) (p3 X g), fun σ H env st S φ Q E I f => ?_⟩
  unfold ev at f
  obtain ⟨d1, s1, e1, f⟩ := f.bind
  obtain ⟨k, s2, ek, f⟩ := f.bind
  refine q1 σ H env st S φ _ E I ?_
  simp only [e1, Out.bind, ek]
  intro H1 S1 φ1 x1 I1
  have up : ∀ {m : Out D}, FinE Γ.K o S φ H Q m → FinE Γ.K false S1 φ1 H1 Q m := fun {m} h => by
    cases m with
    | err => exact h
    | ok d s => exact fun v H' S' φ' x I' r => h v H' S' φ' (x1.trans x) I' (.inl r.val)
  cases k with
  | true => exact q2 σ H1 env s2 S1 φ1 Q (E.mono x1 I) I1 (up f)
  | false => exact q3 σ H1 env s2 S1 φ1 Q (E.mono x1 I) I1 (up f)

/-! ### and, or -/
theorem se_bop1 {and : Bool} {ca : Ex} {cf gs} {pos : Pos} (h : SE Γ L o a (ev cf gs o ca)) : SE Γ L o (.BoolOp (bopOf and) [a] pos) (evB cf gs o and (.c ca .nil)) := by
  obtain ⟨t, p, q⟩ := h
  exact ⟨t, fun X g => pe_one (p X g), fun σ H env st S φ Q E I f => q σ H env st S φ Q E I (by unfold evB at f; exact f)⟩
theorem se_bopc {and : Bool} {ca cb : Ex} {cs : Exs} {rest : List Expr} {cf gs} {pos : Pos} (h : SE Γ L o a (ev cf gs o ca)) (h2 : SE Γ L o (.BoolOp (bopOf and) (b :: rest) pos) (evB cf gs o and (.c cb cs))) :
    SE Γ L o (.BoolOp (bopOf and) (a :: b :: rest) pos) (evB cf gs o and (.c ca (.c cb cs))) := by
  obtain ⟨t1, p1, q1⟩ := h
  obtain ⟨t2, p2, q2⟩ := h2
  have sem : ∀ (σ : L2.St) (H : Hp) (env : Env) (st : Sto) (S : Addr → Prop) (φ : List Addr) (Q : VK), EI Γ.K S φ H σ env → SI Γ.K S φ H st → FinE Γ.K o S φ H Q (evB cf gs o and (.c ca (.c cb cs)) env st) →
      t1 σ H fun x H1 => ∃ k, TruV Γ.K x H1 k ∧ if k = and then t2 σ H1 Q else Q x H1 := by
    intro σ H env st S φ Q E I f
    unfold evB at f
    obtain ⟨d1, s1, e1, f1⟩ := f.bind
    obtain ⟨k, s2, ek, f2⟩ := f1.bind
    obtain ⟨ek, rfl⟩ := lift_ok ek
    refine SE.use q1 E I e1 fun v H1 S1 φ1 x1 E1 I1 r1 => ⟨k, truV (r1.rd I1) ek, ?_⟩
    by_cases hk : k = and
    · rw [if_pos hk] at f2 ⊢
      exact q2 σ H1 env s2 S1 φ1 Q E1 I1 (f2.stp x1)
    · rw [if_neg hk] at f2 ⊢
      exact f2 v H1 S1 φ1 x1 I1 r1
  cases and with
  | true => exact ⟨tAndT Γ.K t1 t2, fun X g => by rw [← g.K]; exact pe_andT (p1 X g) (p2 X g), sem⟩
  | false =>
    refine ⟨tOrT Γ.K t1 t2, fun X g => by rw [← g.K]; exact pe_orT (p1 X g) (p2 X g), fun σ H env st S φ Q E I f => ?_⟩
    have := sem σ H env st S φ Q E I f
    have e : (fun x H1 => ∃ k, TruV Γ.K x H1 k ∧ if k = true then Q x H1 else t2 σ H1 Q) = (fun x H1 => ∃ k, TruV Γ.K x H1 k ∧ if k = false then t2 σ H1 Q else Q x H1) := by
      funext x H1
      apply propext
      constructor
      · rintro ⟨k, a, b⟩; exact ⟨k, a, by cases k <;> simpa using b⟩
      · rintro ⟨k, a, b⟩; exact ⟨k, a, by cases k <;> simpa using b⟩
    show t1 σ H _
    rw [e]; exact this
def SW (Γ : Ctx) (L : LC) (e : Expr) (m : Env → Sto → Out Bool) : Prop :=
  ∃ t : TT, (∀ X, Good Γ L X → PW X e t) ∧ ∀ σ H env st S φ Q, EI Γ.K S φ H σ env → SI Γ.K S φ H st → FinB Γ.K S φ H Q (m env st) → t σ H Q
theorem SW.st {m : Env → Sto → Out Bool} (h : SW Γ L e m) : ST Γ L e m := let ⟨t, p, q⟩ := h; ⟨t, fun X g => (p X g).pt, q⟩
theorem sw_bop1 {and : Bool} {ca : Ex} {cf gs} {pos : Pos} (h : ST Γ L a fun env s => (ev cf gs true ca env s).bind fun d s => truthS s d) :
    SW Γ L (.BoolOp (bopOf and) [a] pos) fun env s => (evB cf gs true and (.c ca .nil) env s).bind fun d s => truthS s d := by
  obtain ⟨t, p, q⟩ := h
  refine ⟨t, fun X g => ?_, fun σ H env st S φ Q E I f => q σ H env st S φ Q E I (by unfold evB at f; exact f)⟩
  cases and with
  | true => exact pw_and1 (p X g)
  | false => exact pw_or1 (p X g)
theorem sw_bopc {and : Bool} {ca cb : Ex} {cs : Exs} {rest : List Expr} {cf gs} {pos : Pos} (h : ST Γ L a fun env s => (ev cf gs true ca env s).bind fun d s => truthS s d)
    (h2 : SW Γ L (.BoolOp (bopOf and) (b :: rest) pos) fun env s => (evB cf gs true and (.c cb cs) env s).bind fun d s => truthS s d) :
    SW Γ L (.BoolOp (bopOf and) (a :: b :: rest) pos) fun env s => (evB cf gs true and (.c ca (.c cb cs)) env s).bind fun d s => truthS s d := by
  obtain ⟨t1, p1, q1⟩ := h
  obtain ⟨t2, p2, q2⟩ := h2
  have sem : ∀ (σ : L2.St) (H : Hp) (env : Env) (st : Sto) (S : Addr → Prop) (φ : List Addr) (Q : Bool → Hp → Prop), EI Γ.K S φ H σ env → SI Γ.K S φ H st → FinB Γ.K S φ H Q ((evB cf gs true and (.c ca (.c cb cs)) env st).bind fun d s => truthS s d) →
      t1 σ H fun k H1 => if k = and then t2 σ H1 Q else Q k H1 := by
    intro σ H env st S φ Q E I f
    refine q1 σ H env st S φ _ E I ?_
    unfold evB at f
    cases e1 : ev cf gs true ca env st with
    | err => rw [e1] at f; exact False.elim f
    | ok d1 s1 =>
      simp only [e1, Out.bind] at f ⊢
      cases e2 : truthS s1 d1 with
      | err => rw [e2] at f; exact False.elim f
      | ok k s2 =>
        obtain ⟨ek, rfl⟩ := lift_ok e2
        simp only [e2] at f
        intro H1 S1 φ1 x1 I1
        by_cases hk : k = and
        · rw [if_pos hk] at f ⊢
          exact q2 σ H1 env s2 S1 φ1 Q (E.mono x1 I) I1 (FinB.stp x1 f)
        · rw [if_neg hk] at f ⊢
          have f' : FinB Γ.K S φ H Q (truthS s2 d1) := f
          rw [e2] at f'
          exact f' H1 S1 φ1 x1 I1
  cases and with
  | true =>
    refine ⟨tAnd t1 t2, fun X g => pw_and (p1 X g) (p2 X g), fun σ H env st S φ Q E I f => ?_⟩
    have := sem σ H env st S φ Q E I f
    have e : (fun c H1 => if c = true then t2 σ H1 Q else Q false H1) = (fun k H1 => if k = true then t2 σ H1 Q else Q k H1) := by
      funext c H1; cases c <;> rfl
    show t1 σ H _
    rw [e]; exact this
  | false =>
    refine ⟨tOr t1 t2, fun X g => pw_or (p1 X g) (p2 X g), fun σ H env st S φ Q E I f => ?_⟩
    have := sem σ H env st S φ Q E I f
    have e : (fun c H1 => if c = true then Q true H1 else t2 σ H1 Q) = (fun k H1 => if k = false then t2 σ H1 Q else Q k H1) := by
      funext c H1; cases c <;> rfl
    show t1 σ H _
    rw [e]; exact this

/-! ### subscripts -/
theorem notSlice_of {m : MC} {c : Ex} {sc : Scope} (h : mE m c sc e = true) : PlainIx e := by
  intro ov iv
  cases e with
  | Slice l u s p =>
    exfalso
    cases c with
    | fz f => unfold mE at h; cases f <;> simp [mF] at h
    | alloc f => unfold mE at h; cases f <;> simp [mF] at h
    | _ => simp [mE] at h
  | _ => rfl
theorem se_idx {ca cb : Ex} {cf gs} {pos : Pos} (hs : PlainIx b) (h1 : SE Γ L true a (ev cf gs true ca)) (h2 : SE Γ L true b (ev cf gs true cb)) : SE Γ L o (.Subscript a b pos) (ev cf gs o (.idx ca cb)) := by
  obtain ⟨t1, p1, q1⟩ := h1
  obtain ⟨t2, p2, q2⟩ := h2
  refine ⟨tOp (rIx Γ.K) t1 t2, fun X g => by rw [← g.K]; exact pe_ix ix_seq (p1 X g) (p2 X g) hs, fun σ H env st S φ Q E I f => ?_⟩
  unfold ev at f
  obtain ⟨d1, s1, e1, f⟩ := f.bind
  obtain ⟨d2, s2, e2, f⟩ := f.bind
  obtain ⟨d, ed, f⟩ := f.lift
  refine SE.use q1 E I e1 fun v H1 S1 φ1 x1 E1 I1 r1 => ?_
  refine SE.use q2 E1 I1 e2 fun w H2 S2 φ2 x2 E2 I2 r2 => ?_
  exact is_idx S2 φ2 H2 v w _ _ d Q ((r1.mono x2 I1).rd I2) r2.rd0 ed fun u r3 => f u H2 S2 φ2 (x1.trans x2) I2 (.inl r3)
theorem so_none {cf gs} : SO' Γ L none (evO cf gs .n) :=
  ⟨tNoPart, fun X _ => po_none, fun σ H env st S φ Q E I f => by unfold evO at f; exact f H S φ .refl I⟩
theorem so_some {ca : Ex} {cf gs} (h : SE Γ L true a (ev cf gs true ca)) : SO' Γ L (some a) (evO cf gs (.s ca)) := by
  obtain ⟨t1, p1, q1⟩ := h
  refine ⟨tPart t1, fun X g => po_some (p1 X g), fun σ H env st S φ Q E I f => ?_⟩
  unfold evO at f
  obtain ⟨d1, s1, e1, f⟩ := f.bind
  refine SE.use q1 E I e1 fun v H1 S1 φ1 x1 E1 I1 r1 => ?_
  split at f
  · exact ⟨_, r1.rd0.int, f H1 S1 φ1 x1 I1⟩
  · exact f.elim
theorem se_slc {ca : Ex} {cl ch : OEx} {lo hi : Option Expr} {cf gs} {p2 pos : Pos} (h1 : SE Γ L true a (ev cf gs true ca)) (h2 : SO' Γ L lo (evO cf gs cl)) (h3 : SO' Γ L hi (evO cf gs ch)) :
    SE Γ L o (.Subscript a (.Slice lo hi none p2) pos) (ev cf gs o (.slc ca cl ch)) := by
  obtain ⟨t1, p1, q1⟩ := h1
  obtain ⟨t2, p2', q2⟩ := h2
  obtain ⟨t3, p3, q3⟩ := h3
  refine ⟨tSl (rSl Γ.K) t1 t2 t3, fun X g => by rw [← g.K]; exact pe_slice (sl_list.or (sl_tupA.or sl_str)) (p1 X g) (p2' X g) (p3 X g), fun σ H env st S φ Q E I f => ?_⟩
  unfold ev at f
  obtain ⟨d1, s1, e1, f⟩ := f.bind
  obtain ⟨l, s2, e2, f⟩ := f.bind
  obtain ⟨u, s3, e3, f⟩ := f.bind
  obtain ⟨d, ed, f⟩ := f.lift
  refine SE.use q1 E I e1 fun v H1 S1 φ1 x1 E1 I1 r1 => ?_
  refine SB.use q2 E1 I1 e2 fun H2 S2 φ2 x2 E2 I2 => ?_
  refine SB.use q3 E2 I2 e3 fun H3 S3 φ3 x3 E3 I3 => ?_
  exact ss_slc S3 φ3 H3 s3 v _ d l u Q I3 ((r1.mono (x2.trans x3) I1).rd I3) ed fun w H4 S4 x4 I4 r4 => f w H4 S4 φ3 (((x1.trans x2).trans x3).trans x4) I4 (.inl r4)
theorem se_rev {ca : Ex} {k : Nat} {p1 p2 p3 pos : Pos} {cf gs} (h1 : SE Γ L true a (ev cf gs true ca)) : SE Γ L o (.Subscript a (.Slice none none (some (.UnaryOp .USub (.Constant (.int 1) k p1) p2)) p3) pos) (ev cf gs o (.rev ca)) := by
  obtain ⟨t1, p1, q1⟩ := h1
  refine ⟨tRevB Γ.K t1, fun X g => by rw [← g.K]; exact pe_revB (p1 X g), fun σ H env st S φ Q E I f => ?_⟩
  unfold ev at f
  obtain ⟨d1, s1, e1, f⟩ := f.bind
  obtain ⟨d, ed, f⟩ := f.lift
  refine SE.use q1 E I e1 fun v H1 S1 φ1 x1 E1 I1 r1 => ?_
  unfold revD at ed
  split at ed
  · rename_i ds he
    cases ed
    have := r1.rd I1
    rw [he] at this
    obtain ⟨a, vs, rfl, h1, r⟩ := this.lst
    exact .inl ⟨a, vs, rfl, .inl (.inl h1), fun p hp => f _ _ _ _ (x1.trans (Stp.alloc hp)) (I1.alloc hp) (.inl (rep_lst I1 hp r.reverse))⟩
  · rename_i ds he
    cases ed
    have := r1.rd I1
    rw [he] at this
    obtain ⟨a, vs, rfl, h1, r, _⟩ := this.tup
    exact .inr ⟨a, vs, rfl, h1, fun p hp => f _ _ _ _ (x1.trans (Stp.alloc hp)) (I1.alloc hp) (.inl (rep_tup I1 hp r.reverse))⟩
  · cases ed
theorem se_up {ca : Ex} {x : Str} {p apos pos : Pos} {cf gs} (hl : (apos.endLine == pos.line) = true) (h1 : SE Γ L true (.Name x p) (ev cf gs true ca)) : SE Γ L o (.Call (.Attribute (.Name x p) "upper" apos) [] [] pos) (ev cf gs o (.up ca)) := by
  obtain ⟨t1, p1, q1⟩ := h1
  refine ⟨_, fun X g => pe_upper (p1 X g) rfl hl, fun σ H env st S φ Q E I f => ?_⟩
  unfold ev at f
  obtain ⟨d1, s1, e1, f⟩ := f.bind
  obtain ⟨d, ed, f⟩ := f.lift
  refine SE.use q1 E I e1 fun v H1 S1 φ1 x1 E1 I1 r1 => ?_
  unfold upD at ed
  split at ed
  · rename_i z
    split at ed
    · cases ed
      rename_i hz
      have := r1.rd0.str
      subst this
      exact ⟨⟨z, rfl⟩, z, rfl, rfl, hz, f _ _ _ _ x1 I1 (.inl (.str _))⟩
    · cases ed
  · cases ed
end
end PV
set_option maxRecDepth 100000
set_option maxHeartbeats 4000000
/-! Calls, new lists, iterators, targets. -/
namespace PV
open PySem PySem.Spec PyProof.Rows L2
section
variable {Γ : Ctx} {L : LC} {o : Bool} {e a b : Expr}
/-! ### built-ins -/
theorem pd_deref {K : PySem.W.Frag} {S : Addr → Prop} {φ : List Addr} {H : Hp} {st : Sto} (I : SI K S φ H st) : ∀ {vs : List V} {ds : List D}, Paired (RepM o K S φ H) vs ds → Paired (RepD K S φ H) vs (ds.map (deref st))
  | _, _, .nil => .nil
  | _, _, .cons a b => .cons (a.rd I) (pd_deref I b)
theorem star_plain {e : Expr} {es : List Expr} {env : PySem.Env} {pos : Pos} (h : ∀ x ∈ es, ∀ env r, starEach (x :: r) env = (false, eval x env) :: starEach r env) : (backTo pos (starEach es env)).any (·.1) = false := by
  induction es with
  | nil => rfl
  | cons x r ih =>
    rw [h x List.mem_cons_self]
    have := ih fun y hy => h y (List.mem_cons_of_mem _ hy)
    show (false || (backTo pos (starEach r env)).any (·.1)) = false
    rw [this]; rfl
theorem stars_of {m : MC} {sc : Scope} : ∀ {cs : Exs} {es : List Expr}, mEs m cs sc es = true → ∀ x ∈ es, ∀ env r, starEach (x :: r) env = (false, eval x env) :: starEach r env
  | .nil, es, h, x, hx => by
    unfold mEs at h
    split at h
    · simp at hx
    · cases h
  | .c c cs, es, h, x, hx => by
    unfold mEs at h
    split at h
    · rename_i y ys
      simp only [Bool.and_eq_true] at h
      rcases List.mem_cons.mp hx with q | q
      · subst q; exact fun env r => star_of h.1
      · exact stars_of h.2 x q
    · cases h
theorem Blt.pe {X : Cx} {bt : Blt} {x : Str} {r : List V → Hp → VK → Prop} {p pos : Pos} {es : List Expr} {t : TA} (hx : x = Str.ofString bt.name) (hc : CallR X bt.val r) (hg : Gl X x) (hm : X.mg x = none) (ha : PA X (e :: es) t) (hn : x ≠ "__name__") (hdb : (x == ("__debug__" : Str)) = false)
    (he : starEach (e :: es) X.env = (false, eval e X.env) :: starEach es X.env) (hpl : (backTo pos (starEach es X.env)).any (·.1) = false) : PE X (.Call (.Name x p) (e :: es) [] pos) (tCB r t) := by
  have hv : bootBuiltins x = some bt.val := by rw [hx]; exact bt.boot
  cases bt with
  | int => exact pe_callTy hc hg hm hv ha hn hdb he hpl
  | tup => exact pe_callTy hc hg hm hv ha hn hdb he hpl
  | str => exact pe_callTy hc hg hm hv ha hn hdb he hpl
  | _ => exact pe_callB hc hg hm hv ha hn hdb he hpl
theorem se_blt (Γok : CtxOk Γ) {bt : Blt} {cs : Exs} {x : Str} {p pos : Pos} {es : List Expr} {cf gs} (hx : x = Str.ofString bt.name) (hf : x ∈ Γ.m.fr) (hg : glB L.sc x = true) (hk : okN x = true)
    (hst : ∀ y ∈ a :: es, ∀ env r, starEach (y :: r) env = (false, eval y env) :: starEach r env) (h : SL Γ L true (a :: es) (evL cf gs true cs)) : SE Γ L o (.Call (.Name x p) (a :: es) [] pos) (ev cf gs o (.blt bt cs)) := by
  obtain ⟨t, p1, q1⟩ := h
  obtain ⟨r, hr, hs⟩ := blt_rule bt Γ.K
  obtain ⟨n1, n2, n3⟩ := okN_of hk
  refine ⟨tCB r t, fun X g => Blt.pe hx (hr X g.K g.rm) (g.gl hg) (by rw [g.mg]; exact Γok.fr x hf) (p1 X g) n3 n1 (hst a List.mem_cons_self _ _) (star_plain (e := a) fun y hy => hst y (List.mem_cons_of_mem _ hy)), fun σ H env st S φ Q E I f => ?_⟩
  unfold ev at f
  obtain ⟨ds, s1, e1, f⟩ := f.bind
  obtain ⟨d, ed, f⟩ := f.lift
  refine SLL.use q1 E I e1 fun vs H1 S1 φ1 x1 E1 I1 r1 => ?_
  exact hs S1 φ1 H1 s1 vs _ d Q I1 (pd_deref I1 r1) ed fun v H2 S2 x2 I2 r2 => f v H2 S2 φ1 (x1.trans x2) I2 (.inl r2)
theorem se_isi (Γok : CtxOk Γ) {ca : Ex} {ty : Ty} {z : Str} {p pz pos : Pos} {cf gs} (hf : ("isinstance" : Str) ∈ Γ.m.fr) (hg : glB L.sc "isinstance" = true) (hz : z = Str.ofString ty.name) (hfz : z ∈ Γ.m.fr) (hgz : glB L.sc z = true) (hkz : okN z = true)
    (hst : ∀ env r, starEach (a :: r) env = (false, eval a env) :: starEach r env) (h : SE Γ L true a (ev cf gs true ca)) : SE Γ L o (.Call (.Name ("isinstance" : Str) p) [a, .Name z pz] [] pos) (ev cf gs o (.isi ca ty)) := by
  obtain ⟨t, p1, q1⟩ := h
  obtain ⟨n1, n2, n3⟩ := okN_of hkz
  refine ⟨tCB (rIsi Γ.K) (tCons t (tCons (tC (.ty ty.name)) tNil)), fun X g => ?_, fun σ H env st S φ Q E I f => ?_⟩
  · rw [← g.K]
    refine pe_callB call_isi (g.gl hg) (by rw [g.mg]; exact Γok.fr _ hf) (by decide +kernel) (pa_cons (p1 X g) (pa_cons (pe_bltn (g.gl hgz) (by rw [g.mg]; exact Γok.fr _ hfz) (by rw [hz]; exact ty.boot) (show RelV (.ty ty.name) (.type ty.name) from rfl) n3 n1) pa_nil) (hst _ _)) (by decide) (by decide) (hst _ _) rfl
  · unfold ev at f
    obtain ⟨d1, s1, e1, f1⟩ := f.bind
    obtain ⟨k, s2, ek, f2⟩ := f1.bind
    obtain ⟨ek, rfl⟩ := lift_ok ek
    refine SE.use q1 E I e1 fun v H1 S1 φ1 x1 E1 I1 r1 => ?_
    obtain ⟨n, hn, hk⟩ := isi_ok (r1.rd I1) ek
    exact ⟨v, .ty ty.name, .type n, .type ty.name, k, rfl, .ty _, hn, hk, f2 _ H1 S1 φ1 x1 I1 (.inl (.bl _))⟩

/-! ### calls of defs -/
mutual
theorem Rep.nolst {K : PySem.W.Frag} {S S' : Addr → Prop} {φ : List Addr} {H : Hp} (hs : ∀ a xs, S a → H a = some (.tup xs) → S' a) : ∀ {v : V} {d : D}, Rep K S φ H v d → nolst? d = true → Rep K S' φ H v d
  | _, _, .non, _ => .non
  | _, _, .bl b, _ => .bl b
  | _, _, .int i, _ => .int i
  | _, _, .str z, _ => .str z
  | _, _, .tup h r, p => .tup (by
      rcases h with ⟨q, h⟩ | h
      · exact .inl ⟨hs _ _ q h, h⟩
      · exact .inr h) (RepL.nolst hs r p)
  | _, _, .lst _ _ _, p => by cases p
  | _, _, .rol _ _, p => by cases p
  | _, _, .loc h, _ => .loc h
theorem RepL.nolst {K : PySem.W.Frag} {S S' : Addr → Prop} {φ : List Addr} {H : Hp} (hs : ∀ a xs, S a → H a = some (.tup xs) → S' a) : ∀ {vs : List V} {ds : List D}, RepL K S φ H vs ds → nolsts? ds = true → RepL K S' φ H vs ds
  | _, _, .nil, _ => .nil
  | _, _, .cons h1 h2, p => by
    have p' := Bool.and_eq_true_iff.mp (show (nolst? _ && nolsts? _) = true from p)
    exact .cons (Rep.nolst hs h1 p'.1) (RepL.nolst hs h2 p'.2)
end
theorem nolstS_get : ∀ {st : Sto} {n : Nat} {ds : List D}, nolstS? st = true → st[n]? = some (.lst ds) → nolsts? ds = true
  | .lst xs :: r, 0, ds, h, e => by
    have := Bool.and_eq_true_iff.mp (show (nolsts? xs && nolstS? r) = true from h)
    cases e; exact this.1
  | .lst xs :: r, n + 1, ds, h, e => nolstS_get (Bool.and_eq_true_iff.mp (show (nolsts? xs && nolstS? r) = true from h)).2 (by simpa using e)
  | .obj x fs :: r, n + 1, ds, h, e => nolstS_get (Bool.and_eq_true_iff.mp (show (nolsts? (fs.map (·.2)) && nolstS? r) = true from h)).2 (by simpa using e)
  | .obj x fs :: r, 0, ds, h, e => by cases e
theorem nolstS_obj : ∀ {st : Sto} {n : Nat} {x : Str} {fs : List (Str × D)}, nolstS? st = true → st[n]? = some (.obj x fs) → nolsts? (fs.map (·.2)) = true
  | .obj y xs :: r, 0, x, fs, h, e => by
    have := Bool.and_eq_true_iff.mp (show (nolsts? (xs.map (·.2)) && nolstS? r) = true from h)
    cases e; exact this.1
  | .obj y xs :: r, n + 1, x, fs, h, e => nolstS_obj (Bool.and_eq_true_iff.mp (show (nolsts? (xs.map (·.2)) && nolstS? r) = true from h)).2 (by simpa using e)
  | .lst xs :: r, n + 1, x, fs, h, e => nolstS_obj (Bool.and_eq_true_iff.mp (show (nolsts? xs && nolstS? r) = true from h)).2 (by simpa using e)
  | .lst xs :: r, 0, x, fs, h, e => by cases e
/-- the lists of the frame's own among the arguments are stable while the callee runs -/
theorem lend {K : PySem.W.Frag} {S : Addr → Prop} {φ : List Addr} {H : Hp} : ∀ {vs : List V} {ds : List D}, Paired (RepM true K S φ H) vs ds → ∃ B : List Addr, (∀ a ∈ B, a ∉ φ ∧ ∃ xs, H a = some (.lst xs)) ∧ RepL K (fun a => S a ∨ a ∈ B) φ H vs ds
  | _, _, .nil => ⟨[], by simp, .nil⟩
  | _, _, .cons h t => by
    obtain ⟨B, hB, r⟩ := lend t
    rcases h with h | ⟨_, a, vs, ds, rfl, rfl, h1, h2, h3⟩
    · exact ⟨B, hB, .cons (h.tr (fun _ _ => rfl) (fun _ q => .inl q) ⟨[], by simp⟩) r⟩
    · refine ⟨a :: B, fun b hb => ?_, .cons (.lst (.inr List.mem_cons_self) h2 (h3.tr (fun _ _ => rfl) (fun _ q => .inl q) ⟨[], by simp⟩)) (r.tr (fun _ _ => rfl) (fun _ q => q.elim .inl fun z => .inr (List.mem_cons_of_mem _ z)) ⟨[], by simp⟩)⟩
      rcases List.mem_cons.mp hb with q | q
      · subst q; exact ⟨h1, _, h2⟩
      · exact hB b q
theorem SI.lend {K : PySem.W.Frag} {S : Addr → Prop} {φ : List Addr} {H : Hp} {st : Sto} (I : SI K S φ H st) {B : List Addr} (hB : ∀ a ∈ B, a ∉ φ ∧ ∃ xs, H a = some (.lst xs)) : SI K (fun a => S a ∨ a ∈ B) φ H st := by
  refine ⟨fun a h => ?_, fun a ha h => ?_, I.len, I.nd, fun n a ds e1 e2 => ?_⟩
  · rcases h with h | h
    · exact I.dom a h
    · obtain ⟨_, xs, e⟩ := hB a h; rw [e]; simp
  · rcases h with h | h
    · exact I.dis a ha h
    · exact (hB a h).1 ha
  · exact (I.obj n a ds e1 e2).tr (fun _ _ => rfl) (fun _ q => .inl q) ⟨[], by simp⟩ rfl
theorem sp_none {K : PySem.W.Frag} {cf : Nat → List D → Sto → Out D} {f : Nat} {vs : List V} {H : Hp} {Q : VK} {E : XK} {S : Addr → Prop} {φ : List Addr} {st : Sto} {ds : List D} (I : SI K S φ H st) (r : RepL K S φ H vs ds) (h : FinE K false S φ H Q (cf f ds st)) : spF K cf f vs H Q E := ⟨S, φ, st, ds, I, r, .inl h⟩
theorem call_sem {K : PySem.W.Frag} {cf : Nat → List D → Sto → Out D} {f : Nat} {vs : List V} {H : Hp} {Q : VK} {E : XK} {S : Addr → Prop} {φ : List Addr} {st : Sto} {ds : List D} {bw : Bool} (I : SI K S φ H st) (r : Paired (RepM true K S φ H) vs ds) (hb : bw = false → RepL K S φ H vs ds)
    (h : FinE K o S φ H Q ((cf f ds st).bind fun d s => if bw = true then (if nolst? d = true ∧ nolstS? s = true then .ok d s else .err) else .ok d s)) : spF K cf f vs H Q E := by
  cases bw with
  | false =>
    refine ⟨S, φ, st, ds, I, hb rfl, .inl ?_⟩
    cases e : cf f ds st with
    | err => rw [e] at h; exact False.elim h
    | ok d s => rw [e] at h; exact fun v H' S' φ' x I' r' => h v H' S' φ' x I' (.inl r'.val)
  | true =>
    obtain ⟨B, hB, r1⟩ := lend r
    refine ⟨_, φ, st, ds, I.lend hB, r1, .inl ?_⟩
    cases e : cf f ds st with
    | err => rw [e] at h; exact False.elim h
    | ok d s =>
      rw [e] at h
      by_cases hn : nolst? d = true ∧ nolstS? s = true
      · have h' : FinE K o S φ H Q (.ok d s) := by
          have : (if true = true then (if nolst? d = true ∧ nolstS? s = true then Out.ok d s else .err) else .ok d s) = Out.ok d s := by rw [if_pos rfl, if_pos hn]
          exact this ▸ h
        intro v H' S' φ' x I' r'
        have hk : ∀ a ∈ B, ∃ xs, H' a = some (.lst xs) := fun a ha => by
          obtain ⟨h1, xs, h2⟩ := hB a ha
          exact ⟨xs, x.keep a _ h2 h1⟩
        have hs : ∀ a xs, S' a → H' a = some (.tup xs) → (S' a ∧ (a ∉ B ∨ S a)) := fun a xs q e => ⟨q, .inl fun z => by
          obtain ⟨ys, e2⟩ := hk a z
          rw [e] at e2; cases e2⟩
        refine h' v H' (fun a => S' a ∧ (a ∉ B ∨ S a)) φ' ⟨x.keep, x.some, fun a q => ⟨x.sub a (.inl q), .inr q⟩, fun a q => ?_, x.phi⟩ ⟨fun a q => I'.dom a q.1, fun a ha q => I'.dis a ha q.1, I'.len, I'.nd, fun n a ds e1 e2 => ?_⟩ (.inl (r'.val.nolst hs hn.1))
        · rcases x.new a q.1 with z | z
          · rcases z with z | z
            · exact .inl z
            · rcases q.2 with q | q
              · exact absurd z q
              · exact .inl q
          · exact .inr z
        · have ho := I'.obj n a ds e1 e2
          cases ds with
          | lst ds => obtain ⟨ws, h1, h2⟩ := ho; exact ⟨ws, h1, h2.nolst hs (nolstS_get hn.2 e2)⟩
          | obj x fs => obtain ⟨dx, us, h1, h3, h2, h4⟩ := ho; exact ⟨dx, us, h1, h3, h2.nolst hs (nolstS_obj hn.2 e2), h4⟩
      · have : FinE K o S φ H Q .err := by
          have e3 : (if true = true then (if nolst? d = true ∧ nolstS? s = true then Out.ok d s else .err) else .ok d s) = Out.err := by rw [if_pos rfl, if_neg hn]
          exact e3 ▸ h
        exact this.elim

/-- the arguments of a call -/
def SA (Γ : Ctx) (L : LC) (es : List Expr) (cs : Exs) (cf : Nat → List D → Sto → Out D) (gs : List D) : Prop :=
  ∃ t : TA, (∀ X, Good Γ L X → PA X es t) ∧ ∀ σ H env st S φ Q, EI Γ.K S φ H σ env → SI Γ.K S φ H st →
    (match evL cf gs true cs env st with
      | .ok ds st' => ∀ vs H' S' φ', Stp S φ H S' φ' H' → SI Γ.K S' φ' H' st' → Paired (RepM true Γ.K S' φ' H') vs ds → (borrows env cs = false → RepL Γ.K S' φ' H' vs ds) → Q vs H'
      | .err => False) → t σ H Q
theorem sa_nil {cf gs} : SA Γ L [] .nil cf gs :=
  ⟨tNil, fun X _ => pa_nil, fun σ H env st S φ Q E I f => by simp only [evL] at f; exact f [] H S φ .refl I .nil fun _ => .nil⟩
/-- a part whose value is one's own only where it is a name -/
def SE1 (Γ : Ctx) (L : LC) (e : Expr) (c : Ex) (cf : Nat → List D → Sto → Out D) (gs : List D) : Prop :=
  ∃ t : TE, (∀ X, Good Γ L X → PE X e t) ∧ ∀ σ H env st S φ Q, EI Γ.K S φ H σ env → SI Γ.K S φ H st →
    (match ev cf gs true c env st with
      | .ok d st' => ∀ v H' S' φ', Stp S φ H S' φ' H' → SI Γ.K S' φ' H' st' → RepM true Γ.K S' φ' H' v d → (isOwn env c = false → Rep Γ.K S' φ' H' v d) → Q v H'
      | .err => False) → t σ H Q
theorem sa_cons {c : Ex} {cs : Exs} {es : List Expr} {cf gs} (hs : ∀ env, starEach (e :: es) env = (false, eval e env) :: starEach es env) (h1 : SE1 Γ L e c cf gs) (h2 : SA Γ L es cs cf gs) : SA Γ L (e :: es) (.c c cs) cf gs := by
  obtain ⟨t1, p1, q1⟩ := h1
  obtain ⟨t2, p2, q2⟩ := h2
  refine ⟨tCons t1 t2, fun X g => pa_cons (p1 X g) (p2 X g) (hs _), fun σ H env st S φ Q E I f => ?_⟩
  refine q1 σ H env st S φ _ E I ?_
  unfold evL at f
  cases e1 : ev cf gs true c env st with
  | err => simp only [e1, Out.bind] at f
  | ok d s1 =>
    simp only [e1, Out.bind] at f ⊢
    intro v H1 S1 φ1 x1 I1 r1 w1
    refine q2 σ H1 env s1 S1 φ1 _ (E.mono x1 I) I1 ?_
    cases e2 : evL cf gs true cs env s1 with
    | err => simp only [e2] at f
    | ok ds s2 =>
      simp only [e2] at f ⊢
      intro vs H2 S2 φ2 x2 I2 r2 w2
      refine f _ H2 S2 φ2 (x1.trans x2) I2 (.cons (r1.mono x2 I1) r2) fun hb => ?_
      have hb' : (isOwn env c || borrows env cs) = false := hb
      rw [Bool.or_eq_false_iff] at hb'
      exact .cons ((w1 hb'.1).mono x2 I1) (w2 hb'.2)
theorem se_call (Γok : CtxOk Γ) {fi : Nat} {x : Str} {cs : Exs} {es : List Expr} {p pos : Pos} (hne : es ≠ []) (hf : Γ.m.fs[fi]? = some (x, es.length)) (hg : glB L.sc x = true) (hk : okN x = true)
    (hst : ∀ y ∈ es, ∀ env r, starEach (y :: r) env = (false, eval y env) :: starEach r env) (h : SA Γ L es cs Γ.cf Γ.gs) : SE Γ L o (.Call (.Name x p) es [] pos) (ev Γ.cf Γ.gs o (.call fi cs)) := by
  obtain ⟨t, p1, q1⟩ := h
  obtain ⟨fa, fd, ps, h1, h2, h3, h4⟩ := Γok.fn fi x _ hf
  obtain ⟨n1, n2, n3⟩ := okN_of hk
  refine ⟨tCall (spF Γ.K Γ.cf fi) [] E0 t, fun X g => ?_, fun σ H env st S φ Q E I f => ?_⟩
  · have F : FnOk X.prog X.w X.K X.mg X.base (L2.CX X.prog X.w) Γ.k fa fd ps (spF Γ.K Γ.cf fi) := by rw [g.prog, g.w, g.K, g.mg, g.base]; exact h4
    have pa := p1 X g
    have hm : X.mg x = some (.ref fa) := by rw [g.mg]; exact h1
    have hkp : PySem.W.keepIn X.K (.ref fa) = true := by rw [g.K]; exact h2
    have hb : Binds X.K fd ps [] := by rw [g.K]; exact h3
    cases es with
    | nil => exact absurd rfl hne
    | cons y ys => exact pe_call F (g.room.mono (Nat.le_succ _)) (g.gl hg) hm hkp hb .nil passL pa n1 (hst y List.mem_cons_self _ _) (star_plain (e := y) fun z hz => hst z (List.mem_cons_of_mem _ hz))
  · refine q1 σ H env st S φ _ E I ?_
    unfold ev at f
    cases e1 : evL Γ.cf Γ.gs true cs env st with
    | err => rw [e1] at f; exact f
    | ok ds s1 =>
      simp only [e1, Out.bind] at f ⊢
      intro vs H1 S1 φ1 x1 I1 r1 w1
      show spF Γ.K Γ.cf fi (vs ++ []) H1 Q E0
      rw [List.append_nil]
      exact call_sem (o := o) (bw := borrows env cs) I1 r1 w1 (FinE.stp x1 f)

theorem se_call0 (Γok : CtxOk Γ) {fi : Nat} {x : Str} {p pos : Pos} (hf : Γ.m.fs[fi]? = some (x, 0)) (hg : glB L.sc x = true) (hk : okN x = true) : SE Γ L o (.Call (.Name x p) [] [] pos) (ev Γ.cf Γ.gs o (.call fi .nil)) := by
  obtain ⟨fa, fd, ps, h1, h2, h3, h4⟩ := Γok.fn fi x _ hf
  obtain ⟨n1, n2, n3⟩ := okN_of hk
  refine ⟨tCall (spF Γ.K Γ.cf fi) [] E0 tNil, fun X g => ?_, fun σ H env st S φ Q E I f => ?_⟩
  · have F : FnOk X.prog X.w X.K X.mg X.base (L2.CX X.prog X.w) Γ.k fa fd ps (spF Γ.K Γ.cf fi) := by rw [g.prog, g.w, g.K, g.mg, g.base]; exact h4
    exact pe_call0 F (g.room.mono (Nat.le_succ _)) (g.gl hg) (by rw [g.mg]; exact h1) (by rw [g.K]; exact h2) (by rw [g.K]; exact h3) .nil passL n1
  · unfold ev evL at f
    exact call_sem (o := o) (E := E0) (bw := borrows env .nil) I .nil (fun _ => .nil) f

/-! ### new lists -/
theorem SI.moreO {K : PySem.W.Frag} {S : Addr → Prop} {φ : List Addr} {H : Hp} {st : Sto} {a : Addr} {o : SO} (I : SI K S φ H st) (h1 : ¬ S a) (h2 : a ∉ φ) (h3 : ORep K S φ H a o) : SI K S (φ ++ [a]) H (st ++ [o]) := by
  refine ⟨I.dom, fun b hb => ?_, by simp [I.len], ?_, fun n b es e1 e2 => ?_⟩
  · rcases List.mem_append.mp hb with q | q
    · exact I.dis b q
    · have : b = a := by simpa using q
      rw [this]; exact h1
  · rw [List.nodup_append]
    exact ⟨I.nd, by simp, fun x hx y hy => by
      have : y = a := by simpa using hy
      rw [this]; intro q; rw [q] at hx; exact h2 hx⟩
  · by_cases hn : n < φ.length
    · rw [List.getElem?_append_left hn] at e1
      rw [List.getElem?_append_left (by rw [← I.len]; exact hn)] at e2
      exact (I.obj n b es e1 e2).tr (fun _ _ => rfl) (fun _ q => q) ⟨[a], rfl⟩ rfl
    · have hn' : n = φ.length := by
        have := (List.getElem?_eq_some_iff.mp e1).1
        simp at this; omega
      subst hn'
      simp at e1
      rw [I.len] at e2
      simp at e2
      subst e1 e2
      exact h3.tr (fun _ _ => rfl) (fun _ q => q) ⟨[a], rfl⟩ rfl
theorem SI.more {K : PySem.W.Frag} {S : Addr → Prop} {φ : List Addr} {H : Hp} {st : Sto} {a : Addr} {vs : List V} {ds : List D} (I : SI K S φ H st) (h1 : ¬ S a) (h2 : a ∉ φ) (h3 : H a = some (.lst vs)) (r : RepL K S φ H vs ds) : SI K S (φ ++ [a]) H (st ++ [.lst ds]) :=
  I.moreO h1 h2 (o := .lst ds) ⟨vs, h3, r⟩
theorem SI.add {K : PySem.W.Frag} {S : Addr → Prop} {φ : List Addr} {H : Hp} {st : Sto} {a : Addr} (I : SI K S φ H st) (h2 : a ∉ φ) (h3 : H a ≠ none) : SI K (add S a) φ H st := by
  refine ⟨fun b q => ?_, fun b hb q => ?_, I.len, I.nd, fun n b es e1 e2 => ?_⟩
  · rcases q with q | q
    · exact I.dom b q
    · rw [q]; exact h3
  · rcases q with q | q
    · exact I.dis b hb q
    · exact h2 (q ▸ hb)
  · exact (I.obj n b es e1 e2).tr (fun _ _ => rfl) (fun _ q => .inl q) ⟨[], by simp⟩ rfl
theorem Stp.addS {S S' : Addr → Prop} {φ φ' : List Addr} {H H' : Hp} {a : Addr} (x : Stp S φ H S' φ' H') (h : H a = none) : Stp S φ H (PV.add S' a) φ' H' :=
  ⟨x.keep, x.some, fun b q => .inl (x.sub b q), fun b q => by
    rcases q with q | q
    · exact x.new b q
    · rw [q]; exact .inr h, x.phi⟩
theorem Stp.addP {S S' : Addr → Prop} {φ φ' : List Addr} {H H' : Hp} {a : Addr} (x : Stp S φ H S' φ' H') (h : H a = none) : Stp S φ H S' (φ' ++ [a]) H' :=
  ⟨x.keep, x.some, x.sub, x.new, let ⟨ψ, e, q⟩ := x.phi; ⟨ψ ++ [a], by rw [e, List.append_assoc], fun b hb => by
    rcases List.mem_append.mp hb with z | z
    · exact q b z
    · have : b = a := by simpa using z
      rw [this]; exact h⟩⟩
theorem se_fz {cf gs} {c : Fx} (h : SF Γ L e (evF cf gs c)) : SE Γ L o e (ev cf gs o (.fz c)) := by
  obtain ⟨t, p, q⟩ := h
  refine ⟨t, p, fun σ H env st S φ Q E I f => q σ H env st S φ Q E I ?_⟩
  unfold ev at f
  obtain ⟨ds, s1, e1, f⟩ := f.bind
  rw [e1]
  exact fun a vs H' S' φ' x I' h1 h2 h3 h4 r => f _ H' (add S' a) φ' (x.addS h1) (I'.add h3 (by rw [h4]; simp)) (.inl (.lst (.inr rfl) h4 (r.tr (fun _ _ => rfl) (fun _ q => .inl q) ⟨[], by simp⟩)))
theorem se_alloc {cf gs} {c : Fx} (h : SF Γ L e (evF cf gs c)) : SE Γ L o e (ev cf gs o (.alloc c)) := by
  obtain ⟨t, p, q⟩ := h
  refine ⟨t, p, fun σ H env st S φ Q E I f => q σ H env st S φ Q E I ?_⟩
  unfold ev at f
  obtain ⟨ds, s1, e1, f⟩ := f.bind
  rw [e1]
  exact fun a vs H' S' φ' x I' h1 h2 h3 h4 r => f _ H' S' (φ' ++ [a]) (x.addP h1) (I'.more h2 h3 h4 r) (.inl (.loc (by rw [← I'.len]; simp)))
theorem sf_dsp {es : Exs} {xs : List Expr} {pos : Pos} {cf gs} (hz : es.len ≤ 1000) (h : SL Γ L false xs (evL cf gs false es)) : SF Γ L (.List xs pos) (evF cf gs (.dsp es)) := by
  obtain ⟨t, p, q⟩ := h
  refine ⟨tLst t, fun X g => pe_lst (p X g), fun σ H env st S φ Q E I f => ?_⟩
  unfold evF at f
  cases e1 : evL cf gs false es env st with
  | err => rw [e1] at f; exact False.elim f
  | ok ds s1 =>
    rw [e1] at f
    refine SLL.use q E I e1 fun vs H1 S1 φ1 x1 E1 I1 r1 => ?_
    have r := reps_of r1
    refine ⟨by rw [line_eq, r.length, evL_len e1]; show _ ≤ 16777216; omega, fun a ha => ?_⟩
    obtain ⟨n1, n2⟩ := I1.fresh ha
    exact f a vs _ S1 φ1 (x1.trans (Stp.alloc0 ha)) (I1.alloc0 ha) (x1.free ha) n1 n2 upd_same (r.mono (Stp.alloc0 ha) I1)
theorem sf_lof (Γok : CtxOk Γ) {ca : Ex} {x : Str} {p pos : Pos} {cf gs} (hx : x = ("list" : Str)) (hf : x ∈ Γ.m.fr) (hg : glB L.sc x = true) (hk : okN x = true) (hst : ∀ env r, starEach (a :: r) env = (false, eval a env) :: starEach r env)
    (h : SE Γ L true a (ev cf gs true ca)) : SF Γ L (.Call (.Name x p) [a] [] pos) (evF cf gs (.lof ca)) := by
  obtain ⟨t, p1, q1⟩ := h
  obtain ⟨n1, n2, n3⟩ := okN_of hk
  refine ⟨tCB (fun xs H Q => ∃ p ys, xs = [.ref p] ∧ (SqL Γ.K H p ys ∨ SqT Γ.K H p ys) ∧ ∀ l, H l = none → Q (.ref l) (upd H l (.lst ys))) (tCons t tNil), fun X g => ?_, fun σ H env st S φ Q E I f => ?_⟩
  · rw [← g.K]
    exact pe_callTy call_list_of (g.gl hg) (by rw [g.mg]; exact Γok.fr _ hf) (by rw [hx]; decide +kernel) (pa_cons (p1 X g) pa_nil (hst _ _)) n3 n1 (hst _ _) rfl
  · unfold evF at f
    obtain ⟨d1, s1, e1, f⟩ := f.bind
    refine SE.use q1 E I e1 fun v H1 S1 φ1 x1 E1 I1 r1 => ?_
    have rd := r1.rd I1
    have fin : ∀ {ys : List V} {ds : List D}, RepL Γ.K S1 φ1 H1 ys ds → FinF Γ.K S φ H Q (.ok ds s1) → ∀ l, H1 l = none → Q (.ref l) (upd H1 l (.lst ys)) := fun {ys ds} r f l hl => by
      obtain ⟨n1, n2⟩ := I1.fresh hl
      exact f l ys _ S1 φ1 (x1.trans (Stp.alloc0 hl)) (I1.alloc0 hl) (x1.free hl) n1 n2 upd_same (r.mono (Stp.alloc0 hl) I1)
    split at f
    · rename_i ds he
      rw [he] at rd
      obtain ⟨a, ys, rfl, h1, r⟩ := rd.lst
      exact ⟨a, ys, rfl, .inl (.inl (.inl h1)), fin r f⟩
    · rename_i ds he
      rw [he] at rd
      obtain ⟨a, ys, rfl, h1, r, _⟩ := rd.tup
      exact ⟨a, ys, rfl, .inr h1, fin r f⟩
    · exact False.elim f

theorem repL_rg {K : PySem.W.Frag} {S : Addr → Prop} {φ : List Addr} {H : Hp} {j : Int} : RepL K S φ H (rgV 0 j) (rangeL 0 1 j.toNat) := by
  have e : ∀ l : List Nat, RepL K S φ H (l.map fun i => V.int (0 + ((i : Nat) : Int))) (l.map fun i => D.int (0 + ((i : Nat) : Int) * 1)) := fun l => by
    induction l with
    | nil => exact .nil
    | cons x l ih => rw [List.map_cons, List.map_cons, Int.mul_one]; exact .cons (.int _) ih
  have q : (j - 0).toNat = j.toNat := by omega
  unfold rgV rangeL
  rw [q]
  exact e _
theorem sf_lrg (Γok : CtxOk Γ) {ca : Ex} {x y : Str} {p p2 pos pos2 : Pos} {cf gs} (hx : x = ("list" : Str)) (hf : x ∈ Γ.m.fr) (hg : glB L.sc x = true) (hk : okN x = true) (hx2 : y = ("range" : Str)) (hf2 : y ∈ Γ.m.fr) (hg2 : glB L.sc y = true) (hk2 : okN y = true)
    (hst : ∀ env r, starEach (a :: r) env = (false, eval a env) :: starEach r env) (h : SE Γ L true a (ev cf gs true ca)) : SF Γ L (.Call (.Name x p) [.Call (.Name y p2) [a] [] pos2] [] pos) (evF cf gs (.lrg ca)) := by
  obtain ⟨t, p1, q1⟩ := h
  subst hx hx2
  refine ⟨tLstRg (tRg1 t), fun X g => ?_, fun σ H env st S φ Q E I f => ?_⟩
  · exact pe_listRg g.calm (g.gl hg) (by rw [g.mg]; exact Γok.fr _ hf) (prg_1 (g.gl hg2) (by rw [g.mg]; exact Γok.fr _ hf2) (p1 X g) (hst _ _))
  · unfold evF at f
    obtain ⟨d1, s1, e1, f⟩ := f.bind
    refine SE.use q1 E I e1 fun v H1 S1 φ1 x1 E1 I1 r1 => ?_
    cases d1 with
    | int j =>
      have rv := r1.rd0.int
      subst rv
      simp only [rngL?] at f
      by_cases c : -1000000 ≤ j ∧ j ≤ 1000000
      · rw [if_pos c] at f
        refine ⟨j, rfl, ⟨by omega, by omega, by omega, by omega, by omega⟩, fun l hl => ?_⟩
        obtain ⟨n1, n2⟩ := I1.fresh hl
        exact f l (rgV 0 j) _ S1 φ1 (x1.trans (Stp.alloc0 hl)) (I1.alloc0 hl) (x1.free hl) n1 n2 upd_same repL_rg
      · rw [if_neg c] at f; exact False.elim f
    | _ => exact False.elim f

/-! ### targets -/
theorem set_get {α : Type} {l : List (Option α)} {i j : Nat} {x y : α} (h : (l.set i (some x))[j]? = some (some y)) : (i = j ∧ y = x ∧ i < l.length) ∨ (i ≠ j ∧ l[j]? = some (some y)) := by
  by_cases e : i = j
  · subst e
    by_cases hi : i < l.length
    · rw [List.getElem?_set_self hi] at h; cases h; exact .inl ⟨rfl, rfl, hi⟩
    · rw [List.getElem?_eq_none (by simpa using hi)] at h; cases h
  · rw [List.getElem?_set_ne e] at h; exact .inr ⟨e, h⟩
theorem EI.setV {K : PySem.W.Frag} {S : Addr → Prop} {φ : List Addr} {H : Hp} {σ : L2.St} {env : Env} {i : Nat} {v : V} {d : D} (E : EI K S φ H σ env) (r : Rep K S φ H v d) : EI K S φ H (σ.set i (some v)) (env.set i (some (.val d))) := by
  refine ⟨by simp [E.len], fun j d' h => ?_, fun j ds h => ?_, fun j l ds es a h1 h2 h3 h4 => ?_⟩
  · rcases set_get h with ⟨rfl, e, hi⟩ | ⟨n, h⟩
    · cases e; exact ⟨v, List.getElem?_set_self (by rw [← E.len]; exact hi), r⟩
    · obtain ⟨w, e, q⟩ := E.val j d' h
      exact ⟨w, by rw [List.getElem?_set_ne n]; exact e, q⟩
  · rcases set_get h with ⟨_, e, _⟩ | ⟨n, h⟩
    · cases e
    · obtain ⟨a, vs, e, q⟩ := E.own j ds h
      exact ⟨a, vs, by rw [List.getElem?_set_ne n]; exact e, q⟩
  · rcases set_get h1 with ⟨_, e, _⟩ | ⟨n, h1⟩
    · cases e
    · rcases set_get h2 with ⟨_, e, _⟩ | ⟨n2, h2⟩
      · cases e
      · rw [List.getElem?_set_ne n] at h3
        rw [List.getElem?_set_ne n2] at h4
        exact E.inj j l ds es a h1 h2 h3 h4
theorem wipe_set {σ : L2.St} {i : Nat} {x : Option V} : ∀ {vs : List Nat}, i ∈ vs → wipe (σ.set i x) vs = wipe σ vs
  | v :: vs, h => by
    unfold wipe
    by_cases hv : i ∈ vs
    · rw [wipe_set hv]
    · have e : i = v := by
        rcases List.mem_cons.mp h with q | q
        · exact q
        · exact absurd q hv
      subst e
      have : ∀ {ws : List Nat}, i ∉ ws → wipe (σ.set i x) ws = (wipe σ ws).set i x := by
        intro ws
        induction ws with
        | nil => intro _; rfl
        | cons w ws ih =>
          intro hn
          unfold wipe
          rw [ih fun q => hn (List.mem_cons_of_mem _ q), List.set_comm _ _ (fun q => hn (by rw [q]; exact List.mem_cons_self))]
      rw [this hv, List.set_set]
theorem kept_set {env : Env} {σ : L2.St} {i : Nat} {d : D} {v : V} : Kept env σ (env.set i (some (.val d))) (σ.set i (some v)) := fun j ds h => by
  rcases set_get h with ⟨_, e, _⟩ | ⟨n, h⟩
  · cases e
  · exact ⟨h, List.getElem?_set_ne n⟩
mutual
theorem sg_of (Γok : CtxOk Γ) : ∀ {c : Tg} {tg : Expr}, mT Γ.m L.fb L.sc c tg = true → SG Γ L tg c
  | .nm i, tg, h => by
    unfold mT at h
    split at h
    · rename_i x pos
      simp only [Bool.and_eq_true, Bool.or_eq_true, decide_eq_true_eq] at h
      obtain ⟨⟨h1, h2⟩, h3⟩ := h
      refine ⟨gName i, fun X g => pg_name (by rw [g.N]; exact Γok.nd) (by rw [g.N]; exact h1) (by rw [g.sc]; exact loc_of h2) (by
        rw [g.fn, g.sc]; exact h3), fun v d σ H env env' S φ st Q E I r e q => ?_⟩
      cases e
      exact q _ ⟨fun vs hv => wipe_set (by simpa [tgIn] using hv), kept_set⟩ (E.setV r)
    · cases h
  | .tp ts, tg, h => by
    unfold mT at h
    split at h
    · rename_i xs k pos
      obtain ⟨g, p, hl, hn, hb, q⟩ := sgs_of Γok h
      refine ⟨gTup Γ.K xs.length g, fun X gd => by
        rw [← gd.K]
        exact pg_tup gd.calm (p X gd) (hl X.env) (hn X.env), fun v d σ H env env' S φ st Q E I r e z => ?_⟩
      cases d with
      | tup ds =>
        cases r with
        | tup h r =>
          have e' : bindTs ts ds env = some env' := e
          exact ⟨_, _, rfl, h.sq, by rw [r.length]; exact hb ds env env' e', q _ ds σ H env env' S φ st Q E I r e' z⟩
      | _ => cases e
    · cases h
theorem sgs_of (Γok : CtxOk Γ) : ∀ {cs : Tgs} {tgs : List Expr}, mTs Γ.m L.fb L.sc cs tgs = true → ∃ g : TGs, (∀ X, Good Γ L X → PGs X tgs g) ∧ (∀ env, (assignEach tgs env).length = tgs.length) ∧ (∀ env, (assignEach tgs env).findIdx? (·.1) = none) ∧ (∀ ds env env', bindTs cs ds env = some env' → ds.length = tgs.length) ∧
    ∀ vs ds σ H env env' S φ st (Q : L2.St → Hp → Prop), EI Γ.K S φ H σ env → SI Γ.K S φ H st → RepL Γ.K S φ H vs ds → bindTs cs ds env = some env' →
      (∀ σ', ((∀ ws, tgsIn ws cs = true → wipe σ' ws = wipe σ ws) ∧ Kept env σ env' σ') → EI Γ.K S φ H σ' env' → Q σ' H) → g vs σ H Q
  | .nil, tgs, h => by
    unfold mTs at h
    split at h
    · refine ⟨gNil, fun X g => pgs_nil, fun _ => rfl, fun _ => rfl, (fun ds env env' e => by
        cases ds with
        | nil => rfl
        | cons d ds => cases e), fun vs ds σ H env env' S φ st Q E I r e q => ?_⟩
      cases ds with
      | nil => cases r; cases e; exact ⟨rfl, q σ ⟨fun _ _ => rfl, fun _ _ h => ⟨h, rfl⟩⟩ E⟩
      | cons d ds => cases e
    · cases h
  | .c t ts, tgs, h => by
    unfold mTs at h
    split at h
    · rename_i x xs
      simp only [Bool.and_eq_true] at h
      obtain ⟨g1, p1, q1⟩ := sg_of Γok h.1
      obtain ⟨g2, p2, hl, hn, hb, q2⟩ := sgs_of Γok h.2
      have hs : ∀ env, assignEach (x :: xs) env = (false, assign x env) :: assignEach xs env := fun env => by
        cases x with
        | Starred y p =>
          exfalso
          have h1 := h.1
          cases t <;> simp [mT] at h1
        | _ => rfl
      refine ⟨gCons g1 g2, fun X g => pgs_cons (p1 X g) (p2 X g) (by rw [hs]; rfl), fun env => by rw [hs]; simp [hl env], fun env => by rw [hs, List.findIdx?_cons]; simp [hn env], (fun ds env env' e => by
        cases ds with
        | nil => cases e
        | cons d ds =>
          have e' : (match bindT t d env with
            | some env' => bindTs ts ds env'
            | none => none) = some env' := e
          cases eb : bindT t d env with
          | none => rw [eb] at e'; cases e'
          | some env1 => rw [eb] at e'; simp [hb ds env1 env' e']), fun vs ds σ H env env' S φ st Q E I r e q => ?_⟩
      cases ds with
      | nil => cases e
      | cons d ds =>
        cases r with
        | cons r1 r2 =>
          have e' : (match bindT t d env with
            | some env' => bindTs ts ds env'
            | none => none) = some env' := e
          cases eb : bindT t d env with
          | none => rw [eb] at e'; cases e'
          | some env1 =>
            rw [eb] at e'
            refine ⟨_, _, rfl, q1 _ d σ H env env1 S φ st _ E I r1 eb fun σ1 w1 E1 => ?_⟩
            refine q2 _ ds σ1 H env1 env' S φ st Q E1 I r2 e' fun σ2 w2 E2 => q σ2 ⟨fun ws hw => ?_, w1.2.trans w2.2⟩ E2
            have := Bool.and_eq_true_iff.mp (show (tgIn ws t && tgsIn ws ts) = true from hw)
            rw [w2.1 ws this.2, w1.1 ws this.1]
    · cases h
end
end
end PV
set_option maxRecDepth 100000
set_option maxHeartbeats 4000000
/-! zip of a tuple and a list, by values (over KE's zip of any two iterators). -/
namespace PV
open PySem PySem.Spec PyProof.Rows L2
def ItzM (K : PySem.W.Frag) (a b : Addr) : It :=
  ⟨fun i H => ∃ (xs ys : List V) (x y : V), SqT K H a xs ∧ SqL K H b ys ∧ xs[i]? = some x ∧ ys[i]? = some y,
    fun i H v H' => ∃ T x y, v = .ref T ∧ H T = none ∧ H' = upd H T (.tup [x, y]) ∧ (∀ xs, SqT K H a xs → xs[i]? = some x) ∧ ∀ ys, SqL K H b ys → ys[i]? = some y,
    fun i H => ∃ xs ys : List V, SqT K H a xs ∧ SqL K H b ys ∧ (i ≤ xs.length ∧ i ≤ ys.length) ∧ (i = xs.length ∨ i = ys.length)⟩
theorem mem5 {c z TI TO i1 i2 : Addr} (h : c ∈ [z, TI, TO, i1, i2]) : c = z ∨ c = TI ∨ c = TO ∨ c = i1 ∨ c = i2 := by simpa using h
theorem out5 {c z TI TO i1 i2 : Addr} (h : c ∉ [z, TI, TO, i1, i2]) : c ≠ z ∧ c ≠ TI ∧ c ≠ TO ∧ c ≠ i1 ∧ c ≠ i2 := by
  simp only [List.mem_cons, List.not_mem_nil, or_false, not_or] at h
  exact h
theorem turn_zipM {P : Program} {w : World} {K : PySem.W.Frag} {elts : List Expr} {kk : Nat} {tpos : Pos} {a b z TI TO i1 i2 : Addr} (D : ZipSep2 z TI TO i1 i2 [i1, a] [i2, b]) :
    Turn P w K (.Tuple elts kk tpos) (ItzM K a b) [z, TI, TO, i1, i2] z (fun i h => IsZip h z TI TO .none ∧ IsPair h TI (.ref i1) (.ref i2) ∧ (∃ x y, IsPair h TO x y) ∧ h.IsTupleIter i1 a i ∧ h.IsListIter i2 b i) where
  mem := by simp
  obj := fun i h st c hc => by
    obtain ⟨hz, hTI, ⟨x, y, hTO⟩, ⟨o1, e1, _, d1⟩, ⟨o2, e2, _, d2⟩⟩ := st
    rcases mem5 hc with q | q | q | q | q <;> subst q
    · exact ⟨_, hz, fun v q => nomatch q⟩
    · exact ⟨_, hTI, fun v q => nomatch q⟩
    · exact ⟨_, hTO, fun v q => nomatch q⟩
    · exact ⟨o1, e1, fun v q => by rw [d1] at q; cases q⟩
    · exact ⟨o2, e2, fun v q => by rw [d2] at q; cases q⟩
  keep := fun i h h' st k => by
    obtain ⟨hz, hTI, ⟨x, y, hTO⟩, h1, h2⟩ := st
    exact ⟨k z (by simp) _ hz, k TI (by simp) _ hTI, ⟨x, y, k TO (by simp) _ hTO⟩, h1.at fun o q => k i1 (by simp) o q, h2.at fun o q => k i2 (by simp) o q⟩
  item := by
    intro X hP hw hK hc i pins s σ H E I hf st hg
    subst hP hw hK
    obtain ⟨hz, hTI, ⟨x0, y0, hTO⟩, h1, h2⟩ := st
    obtain ⟨xs, ys, x, y, hqx, hqy, hx, hy⟩ := hg
    obtain ⟨its, rv, p, _⟩ := I.tuple hqx
    obtain ⟨its2, rv2, p2, _⟩ := I.list hqy
    obtain ⟨u, hu, ru⟩ := rv.get hx
    obtain ⟨u2, hu2, ru2⟩ := rv2.get hy
    have hzl : z < s.heap.objs.size := Heap.lt_size hz
    have l1 : i < its.toArray.size := by rw [List.size_toArray]; exact (List.getElem?_eq_some_iff.mp hu).1
    have l2 : i < its2.toArray.size := by rw [List.size_toArray]; exact (List.getElem?_eq_some_iff.mp hu2).1
    have hh := I.ok.hd hc
    have na : a ≠ i1 := fun e => by
      obtain ⟨o, e1, c1, _⟩ := h1
      obtain ⟨o', e2, c2, _⟩ := p
      rw [e] at e2
      rw [e1] at e2
      cases e2
      rw [c1] at c2
      exact absurd c2 (by decide)
    have nb : b ≠ i2 := fun e => by
      obtain ⟨o, e1, c1, _⟩ := h2
      obtain ⟨o', e2, c2, _⟩ := p2.isList
      rw [e] at e2
      rw [e1] at e2
      cases e2
      rw [c1] at c2
      exact absurd c2 (by decide)
    refine wpAny_pyNext_zipD2_item D (Draws.tuple (A := X.A.in1) hh i1 a na its.toArray) (Draws.list (A := X.A.in1) hh i2 b nb its2.toArray) hz hTI hTO ⟨h1, p⟩ ⟨h2, p2.isList⟩ l1 l2 fun x1 x2 h' tk y1 y2 z' TO' s1 s2 hT hsz hk => ?_
    have ex : x1 = u := by
      have : its.toArray[i]? = some x1 := y1
      have h3 : its.toArray[i]? = some u := by simpa using hu
      rw [h3] at this
      exact (Option.some.inj this).symm
    have ey : x2 = u2 := by
      have : its2.toArray[i]? = some x2 := y2
      have h3 : its2.toArray[i]? = some u2 := by simpa using hu2
      rw [h3] at this
      exact (Option.some.inj this).symm
    subst ex ey
    refine ⟨_, rfl, wpAny_letOwnedTupleGo_zip (s := { s with heap := h', toks := tk }) z' fun h'' z'' sb => ?_⟩
    have hT2 : h''.get? s.heap.objs.size = some { cls := .type "tuple", data := .seq #[x1, x2] } := (sb.2 _ (Nat.ne_of_gt hzl)).trans hT
    have new : ObjOk X.prog X.w (upd H s.heap.objs.size (.tup [x, y])) h'' s.heap.objs.size (.tup [x, y]) :=
      ⟨by show 2 ≤ sizeLine; decide, [x1, x2], .cons ru (.cons ru2 .nil), ⟨_, hT2, rfl, _, rfl⟩⟩
    have I1 : Inv X pins σ (upd H s.heap.objs.size (.tup [x, y])) { s with heap := h'', toks := tk } :=
      I.turnedNew (t' := tk) (ch := [z, TI, TO, i1, i2]) (fun c o hb q => by
        obtain ⟨c1, c2, c3, c4, c5⟩ := out5 hb
        exact (sb.2 c c1).trans (hk c o c1 c3 c4 c5 q)) hf (Nat.le_refl _) new
    refine ⟨.ref s.heap.objs.size, _, I1, rfl, ⟨_, x, y, rfl, I.hok.fresh (Nat.le_refl _), rfl, fun l hl => by rw [I.tuple_inj hl hqx]; exact hx, fun l hl => by rw [I.list_inj hl hqy]; exact hy⟩, ⟨z'', ?_, ⟨x1, x2, ?_⟩, ?_, ?_⟩, fun c hcm => ?_⟩
    · exact (sb.2 _ D.TIz).trans (hk _ _ D.TIz D.TITO D.TIi1 D.TIi2 hTI)
    · exact (sb.2 _ D.TOz).trans TO'
    · exact s1.1.at fun o q => (sb.2 _ (Ne.symm D.zi1)).trans q
    · exact s2.1.at fun o q => (sb.2 _ (Ne.symm D.zi2)).trans q
    · have hlt : c < s.heap.objs.size := by
        rcases mem5 hcm with q | q | q | q | q <;> subst q
        · exact hzl
        · exact Heap.lt_size hTI
        · exact Heap.lt_size hTO
        · obtain ⟨_, e1, _⟩ := h1; exact Heap.lt_size e1
        · obtain ⟨_, e2, _⟩ := h2; exact Heap.lt_size e2
      rw [upd_ne (Nat.ne_of_lt hlt)]
      exact (hf c hcm).1
  done := by
    intro X hP hw hK hc i pins s σ H E I hf st hg
    subst hP hw hK
    obtain ⟨hz, hTI, ⟨x0, y0, hTO⟩, h1, h2⟩ := st
    obtain ⟨xs, ys, hqx, hqy, hle, hend⟩ := hg
    obtain ⟨its, rv, p, _⟩ := I.tuple hqx
    obtain ⟨its2, rv2, p2, _⟩ := I.list hqy
    have l1 := rv.length
    have l2 := rv2.length
    have hh := I.ok.hd hc
    have na : a ≠ i1 := fun e => by
      obtain ⟨o, e1, c1, _⟩ := h1
      obtain ⟨o', e2, c2, _⟩ := p
      rw [e] at e2
      rw [e1] at e2
      cases e2
      rw [c1] at c2
      exact absurd c2 (by decide)
    have nb : b ≠ i2 := fun e => by
      obtain ⟨o, e1, c1, _⟩ := h2
      obtain ⟨o', e2, c2, _⟩ := p2.isList
      rw [e] at e2
      rw [e1] at e2
      cases e2
      rw [c1] at c2
      exact absurd c2 (by decide)
    refine wpAny_pyNext_zipD2_end D (Draws.tuple (A := X.A.in1) hh i1 a na its.toArray) (Draws.list (A := X.A.in1) hh i2 b nb its2.toArray) hz hTI hTO ⟨h1, p⟩ ⟨h2, p2.isList⟩ (by rw [List.size_toArray]; omega) (by rw [List.size_toArray]; omega) (by rw [List.size_toArray, List.size_toArray]; omega) fun h' tk hk => ?_
    exact ⟨rfl, I.turnedL (t' := tk) (ch := [z, TI, TO, i1, i2]) (fun c o hb q => by
      obtain ⟨c1, c2, c3, c4, c5⟩ := out5 hb
      exact hk c o c1 c3 c4 c5 q) hf⟩
  self := fun A i s Q E st h => wpAny_pyIter_zip st.1 h
/-- zip of two lists, two tuples, a tuple and a list -/
def iZipM (K : PySem.W.Frag) (ta : TA) : TI := fun σ H R => ta σ H fun vs H1 => ∃ a b xs ys, vs = [.ref a, .ref b] ∧ ((SqL K H1 a xs ∧ SqL K H1 b ys ∧ R (Itz K a b) H1) ∨ (SqT K H1 a xs ∧ SqT K H1 b ys ∧ R (RZ.ItzT K a b) H1) ∨ (SqT K H1 a xs ∧ SqL K H1 b ys ∧ R (ItzM K a b) H1))
theorem pi_zipM {X : Cx} {e e2 : Expr} {ta : TA} {p pos tpos : Pos} {elts : List Expr} {kk : Nat} (hg : Gl X "zip") (hm : X.mg "zip" = none) (ha : PA X [e, e2] ta)
    (hs : starEach [e, e2] X.env = (false, eval e X.env) :: starEach [e2] X.env := by rfl) (hpl : (backTo pos (starEach [e2] X.env)).any (·.1) = false := by rfl) :
    PI X (.Tuple elts kk tpos) (.Call (.Name "zip" p) [e, e2] [] pos) (iZipM X.K ta) := by
  refine ⟨fun pins s σ H R I h => ?_⟩
  refine Call_ (ld_blt I hg hm PyProof.Rows.boot_zip (PyProof.Rows.callWith_type1 (thn (ha.run pos pins s σ H _ I h) fun us s1 ⟨vs, H1, I1, r1, q1⟩ => ?_) hs hpl))
  obtain ⟨a, b, xs, ys, ex, q1⟩ := q1
  subst ex
  cases r1 with
  | cons r rr =>
    cases rr with
    | cons r' rr =>
      cases rr
      cases r
      cases r'
      have fresh5 : ∀ c, c ∈ [s1.heap.objs.size + 4, s1.heap.objs.size + 2, s1.heap.objs.size + 3, s1.heap.objs.size, s1.heap.objs.size + 1] → FpOk X pins H1 c := fun c hcm => by
        have hle : s1.heap.objs.size ≤ c := by
          rcases mem5 hcm with z | z | z | z | z <;> subst z
          · exact Nat.le_add_right _ _
          · exact Nat.le_add_right _ _
          · exact Nat.le_add_right _ _
          · exact Nat.le_refl _
          · exact Nat.le_add_right _ _
        exact I1.fpOk hle (I1.hok.fresh hle)
      rcases q1 with ⟨hqx, hqy, q⟩ | ⟨hqx, hqy, q⟩ | ⟨hqx, hqy, q⟩
      · obtain ⟨its, rv, p1, _⟩ := I1.list hqx
        obtain ⟨its2, rv2, p2, _⟩ := I1.list hqy
        refine call_zip_2 p1.isList p2.isList fun h' hz hTI hTO h1 h2 hsz hk => wpAny_pyIter_zip hz ?_
        exact ⟨_, _, _, _, H1, rfl, I1.kept (t' := s1.toks) hk, turn_zip (PySem.W.ktu_apart s1.heap.objs.size a b p1.lt p2.lt), ⟨hz, hTI, ⟨_, _, hTO⟩, h1, h2⟩, fresh5, q⟩
      · obtain ⟨its, rv, p1, _⟩ := I1.tuple hqx
        obtain ⟨its2, rv2, p2, _⟩ := I1.tuple hqy
        obtain ⟨o1, ho1, _⟩ := id p1
        obtain ⟨o2, ho2, _⟩ := id p2
        refine RZ.call_zipT (show s1.heap.IsTuple a its.toArray from p1) (show s1.heap.IsTuple b its2.toArray from p2) fun h' hz hTI hTO h1 h2 hsz hk => wpAny_pyIter_zip hz ?_
        exact ⟨_, _, _, _, H1, rfl, I1.kept (t' := s1.toks) hk, RZ.turn_zipT (PySem.W.ktu_apart s1.heap.objs.size a b (Heap.lt_size ho1) (Heap.lt_size ho2)), ⟨hz, hTI, ⟨_, _, hTO⟩, h1, h2⟩, fresh5, q⟩
      · obtain ⟨its, rv, p1, _⟩ := I1.tuple hqx
        obtain ⟨its2, rv2, p2, _⟩ := I1.list hqy
        obtain ⟨o1, ho1, _⟩ := id p1
        refine zip_begins2 (begins_tuple a its.toArray) (begins_list b its2.toArray) (show s1.heap.IsTuple a its.toArray from p1) p2.isList fun h' hz hTI hTO h1 h2 hsz hk => wpAny_pyIter_zip hz ?_
        refine ⟨_, _, _, _, H1, rfl, I1.kept (t' := s1.toks) hk, turn_zipM (zip_sep2 (fp1 := [a]) (fp2 := [b]) (fun c hc => ?_) (fun c hc => ?_)), ⟨hz, hTI, ⟨_, _, hTO⟩, ⟨_, h1, rfl, rfl⟩, ⟨_, h2, rfl, rfl⟩⟩, fresh5, q⟩
        · rw [List.mem_singleton.mp hc]; exact Heap.lt_size ho1
        · rw [List.mem_singleton.mp hc]; exact p2.lt
end PV
set_option maxRecDepth 100000
set_option maxHeartbeats 4000000
/-! Iterators, comprehensions. -/
namespace PV
open PySem PySem.Spec PyProof.Rows L2
section
variable {K : PySem.W.Frag} {o : Bool} {S : Addr → Prop} {φ : List Addr} {H : Hp} {ds es : List D} {vs ws : List V}
/-! ### iterators -/
theorem jok_list {a : Addr} (ho : a ∉ φ) (hs : o = false → S a) (h : H a = some (.lst vs)) (r : RepL K S φ H vs ds) : JOk K o S φ H (Itl K a) ds := by
  refine ⟨[a], fun b hb => ?_, fun S2 φ2 H2 hw hk sub hφ => ?_⟩
  · have : b = a := by simpa using hb
    subst this
    exact ⟨by rw [h]; simp, ho, hs⟩
  · have e2 : H2 a = some (.lst vs) := (hw a (by simp)).trans h
    have W := walk_list (K := K) (a := a) (xs := vs)
    have q : SqL K H2 a vs := .inl (.inl e2)
    rw [← r.length]
    refine ⟨fun i hi => W.goes i H2 hi q, W.stops H2 q, fun i d x H3 e y st2 I2 => ?_⟩
    have hi : i < vs.length := by rw [r.length]; exact (List.getElem?_eq_some_iff.mp e).1
    obtain ⟨rfl, ex⟩ := W.yields i H2 x H3 hi q y
    obtain ⟨v, ev, rv⟩ := r.get e
    rw [ex] at ev; cases ev
    exact ⟨S2, .refl, I2, rv.tr hk sub hφ⟩
theorem jok_tup {a : Addr} (h : Tp K S H a vs) (r : RepL K S φ H vs ds) : JOk K o S φ H (Itt K a) ds := by
  refine ⟨[], fun b hb => by simp at hb, fun S2 φ2 H2 hw hk sub hφ => ?_⟩
  have W := walk_tup (K := K) (a := a) (xs := vs)
  have q : SqT K H2 a vs := by
    rcases h with ⟨h1, h2⟩ | h
    · exact .inl (.inl ((hk a h1).trans h2))
    · exact .inr h
  rw [← r.length]
  refine ⟨fun i hi => W.goes i H2 hi q, W.stops H2 q, fun i d x H3 e y st2 I2 => ?_⟩
  have hi : i < vs.length := by rw [r.length]; exact (List.getElem?_eq_some_iff.mp e).1
  obtain ⟨rfl, ex⟩ := W.yields i H2 x H3 hi q y
  obtain ⟨v, ev, rv⟩ := r.get e
  rw [ex] at ev; cases ev
  exact ⟨S2, .refl, I2, rv.tr hk sub hφ⟩
theorem jok_str {z : Str} : JOk K o S φ H (Its z) (z.cps.toList.map fun c => .str ⟨#[c]⟩) := by
  refine ⟨[], fun b hb => by simp at hb, fun S2 φ2 H2 hw hk sub hφ => ?_⟩
  have W := walk_str (z := z)
  have el : (z.cps.toList.map fun c => D.str ⟨#[c]⟩).length = z.cps.size := by simp
  rw [el]
  refine ⟨fun i hi => W.goes i H2 hi trivial, W.stops H2 trivial, fun i d x H3 e y st2 I2 => ?_⟩
  have hi : i < z.cps.size := by rw [← el]; exact (List.getElem?_eq_some_iff.mp e).1
  obtain ⟨rfl, c, ec, rfl⟩ := W.yields i H2 x H3 hi trivial y
  rw [List.getElem?_map, Array.getElem?_toList, ec] at e
  cases e
  exact ⟨S2, .refl, I2, .str _⟩
theorem jok_range {lo : Int} {n : Nat} : JOk K o S φ H (Itr lo n) (rangeL lo 1 n) := by
  refine ⟨[], fun b hb => by simp at hb, fun S2 φ2 H2 hw hk sub hφ => ?_⟩
  have W := walk_range (lo := lo) (n := n)
  have el : (rangeL lo 1 n).length = n := by simp [rangeL]
  rw [el]
  refine ⟨fun i hi => W.goes i H2 hi trivial, W.stops H2 trivial, fun i d x H3 e y st2 I2 => ?_⟩
  have hi : i < n := by rw [← el]; exact (List.getElem?_eq_some_iff.mp e).1
  obtain ⟨rfl, rfl⟩ := W.yields i H2 x H3 hi trivial y
  unfold rangeL at e
  rw [List.getElem?_map, List.getElem?_range hi] at e
  cases e
  show ∃ S3, _ ∧ _ ∧ Rep K S3 φ2 _ (.int (lo + (i : Nat))) (.int (lo + (i : Nat) * 1))
  rw [Int.mul_one]
  exact ⟨S2, .refl, I2, .int _⟩
/-- a new pair -/
theorem pair_new {st : Sto} {T : Addr} {x y : V} {d e : D} (I : SI K S φ H st) (hT : H T = none) (rx : Rep K S φ H x d) (ry : Rep K S φ H y e) :
    ∃ S3, Stp S φ H S3 φ (upd H T (.tup [x, y])) ∧ SI K S3 φ (upd H T (.tup [x, y])) st ∧ Rep K S3 φ (upd H T (.tup [x, y])) (.ref T) (.tup [d, e]) :=
  ⟨add S T, Stp.alloc hT, I.alloc hT, rep_tup I hT (.cons rx (.cons ry .nil))⟩
def enumL (ds : List D) : List D := (List.range ds.length).zipWith (fun (i : Nat) d => D.tup [.int i, d]) ds
theorem enumL_get {i : Nat} {d : D} (h : (enumL ds)[i]? = some d) : ∃ e, ds[i]? = some e ∧ d = .tup [.int i, e] := by
  unfold enumL at h
  rw [List.getElem?_zipWith] at h
  cases h2 : ds[i]? with
  | none => rw [h2] at h; simp at h
  | some e =>
    have hi := (List.getElem?_eq_some_iff.mp h2).1
    rw [h2, List.getElem?_range hi] at h
    cases h
    exact ⟨e, rfl, rfl⟩
theorem enumL_len : (enumL ds).length = ds.length := by simp [enumL]
theorem jok_enum {a : Addr} (ho : a ∉ φ) (hs : o = false → S a) (h : H a = some (.lst vs)) (r : RepL K S φ H vs ds) : JOk K o S φ H (Ite K a) (enumL ds) := by
  refine ⟨[a], fun b hb => ?_, fun S2 φ2 H2 hw hk sub hφ => ?_⟩
  · have : b = a := by simpa using hb
    subst this
    exact ⟨by rw [h]; simp, ho, hs⟩
  · have e2 : H2 a = some (.lst vs) := (hw a (by simp)).trans h
    have W := walk_enum (K := K) (a := a) (xs := vs)
    have q : SqL K H2 a vs := .inl (.inl e2)
    rw [enumL_len, ← r.length]
    refine ⟨fun i hi => W.goes i H2 hi q, W.stops H2 q, fun i d x H3 e y st2 I2 => ?_⟩
    obtain ⟨e, ee, rfl⟩ := enumL_get e
    have hi : i < vs.length := by rw [r.length]; exact (List.getElem?_eq_some_iff.mp ee).1
    obtain ⟨T, x1, x2, rfl, hT, rfl, h1, h2⟩ := W.yields i H2 x H3 hi q y
    cases h1
    obtain ⟨v, ev, rv⟩ := r.get ee
    have h2' : vs[i]? = some x2 := h2
    rw [h2'] at ev; cases ev
    exact pair_new I2 hT (.int _) (rv.tr hk sub hφ)
theorem walk_enumT {a : Addr} {xs : List V} : Walk (IteT K a) xs.length (fun H => SqT K H a xs) (YPair (fun i => some (.int (i : Nat))) (fun i => xs[i]?)) := by
  refine ⟨fun i _ hi q => ⟨xs, xs[i], q, by simp [hi]⟩, fun _ q => ⟨xs, q, rfl⟩, fun i H v H' _ q y => ?_⟩
  obtain ⟨T, x, h1, h2, h3, h4⟩ := y
  exact ⟨T, .int (i : Nat), x, h1, h2, h3, rfl, h4 xs q⟩
theorem jok_enumT {a : Addr} (h : Tp K S H a vs) (r : RepL K S φ H vs ds) : JOk K o S φ H (IteT K a) (enumL ds) := by
  refine ⟨[], fun b hb => by simp at hb, fun S2 φ2 H2 hw hk sub hφ => ?_⟩
  have W := walk_enumT (K := K) (a := a) (xs := vs)
  have q : SqT K H2 a vs := by
    rcases h with ⟨h1, h2⟩ | h
    · exact .inl (.inl ((hk a h1).trans h2))
    · exact .inr h
  rw [enumL_len, ← r.length]
  refine ⟨fun i hi => W.goes i H2 hi q, W.stops H2 q, fun i d x H3 e y st2 I2 => ?_⟩
  obtain ⟨e, ee, rfl⟩ := enumL_get e
  have hi : i < vs.length := by rw [r.length]; exact (List.getElem?_eq_some_iff.mp ee).1
  obtain ⟨T, x1, x2, rfl, hT, rfl, h1, h2⟩ := W.yields i H2 x H3 hi q y
  cases h1
  obtain ⟨v, ev, rv⟩ := r.get ee
  have h2' : vs[i]? = some x2 := h2
  rw [h2'] at ev; cases ev
  exact pair_new I2 hT (.int _) (rv.tr hk sub hφ)
def zipL (xs ys : List D) : List D := xs.zipWith (fun a b => D.tup [a, b]) ys
theorem zipL_get {i : Nat} {d : D} (h : (zipL ds es)[i]? = some d) : ∃ a b, ds[i]? = some a ∧ es[i]? = some b ∧ d = .tup [a, b] := by
  unfold zipL at h
  rw [List.getElem?_zipWith] at h
  cases h1 : ds[i]? with
  | none => rw [h1] at h; simp at h
  | some a =>
    cases h2 : es[i]? with
    | none => rw [h1, h2] at h; simp at h
    | some b => rw [h1, h2] at h; cases h; exact ⟨a, b, rfl, rfl, rfl⟩
theorem jok_zip {a b : Addr} (ho : a ∉ φ) (hs : o = false → S a) (h : H a = some (.lst vs)) (r : RepL K S φ H vs ds) (ho' : b ∉ φ) (hs' : o = false → S b) (h' : H b = some (.lst ws)) (r' : RepL K S φ H ws es) : JOk K o S φ H (Itz K a b) (zipL ds es) := by
  refine ⟨[a, b], fun c hc => ?_, fun S2 φ2 H2 hw hk sub hφ => ?_⟩
  · have : c = a ∨ c = b := by simpa using hc
    rcases this with e | e
    · subst e; exact ⟨by rw [h]; simp, ho, hs⟩
    · subst e; exact ⟨by rw [h']; simp, ho', hs'⟩
  · have e2 : H2 a = some (.lst vs) := (hw a (by simp)).trans h
    have e3 : H2 b = some (.lst ws) := (hw b (by simp)).trans h'
    have el : (zipL ds es).length = min vs.length ws.length := by simp [zipL, r.length, r'.length]
    have W := walk_zip (K := K) (a := a) (b := b) (xs := vs) (ys := ws) el
    have q : SqL K H2 a vs ∧ SqL K H2 b ws := ⟨.inl (.inl e2), .inl (.inl e3)⟩
    refine ⟨fun i hi => W.goes i H2 hi q, W.stops H2 q, fun i d x H3 e y st2 I2 => ?_⟩
    have hi := (List.getElem?_eq_some_iff.mp e).1
    obtain ⟨d1, d2, ee1, ee2, rfl⟩ := zipL_get e
    obtain ⟨T, x1, x2, rfl, hT, rfl, h1, h2⟩ := W.yields i H2 x H3 hi q y
    obtain ⟨v, ev, rv⟩ := r.get ee1
    obtain ⟨v', ev', rv'⟩ := r'.get ee2
    have h1' : vs[i]? = some x1 := h1
    have h2' : ws[i]? = some x2 := h2
    rw [h1'] at ev; cases ev
    rw [h2'] at ev'; cases ev'
    exact pair_new I2 hT (rv.tr hk sub hφ) (rv'.tr hk sub hφ)
theorem walk_zipT {a b : Addr} {xs ys : List V} {n : Nat} (hn : n = min xs.length ys.length) : Walk (RZ.ItzT K a b) n (fun H => SqT K H a xs ∧ SqT K H b ys) (YPair (fun i => xs[i]?) (fun i => ys[i]?)) := by
  subst hn
  refine ⟨fun i _ hi q => ?_, fun _ q => ⟨xs, ys, q.1, q.2, by omega⟩, fun i H v H' _ q y => ?_⟩
  · have h1 : i < xs.length := by omega
    have h2 : i < ys.length := by omega
    exact ⟨xs, ys, xs[i], ys[i], q.1, q.2, by simp [h1], by simp [h2]⟩
  · obtain ⟨T, x, z, h1, h2, h3, h4, h5⟩ := y
    exact ⟨T, x, z, h1, h2, h3, h4 xs q.1, h5 ys q.2⟩
theorem jok_zipT {a b : Addr} (h : Tp K S H a vs) (r : RepL K S φ H vs ds) (h' : Tp K S H b ws) (r' : RepL K S φ H ws es) : JOk K o S φ H (RZ.ItzT K a b) (zipL ds es) := by
  refine ⟨[], fun b hb => by simp at hb, fun S2 φ2 H2 hw hk sub hφ => ?_⟩
  have el : (zipL ds es).length = min vs.length ws.length := by simp [zipL, r.length, r'.length]
  have W := walk_zipT (K := K) (a := a) (b := b) (xs := vs) (ys := ws) el
  have up : ∀ {a : Addr} {vs : List V}, Tp K S H a vs → SqT K H2 a vs := fun {a vs} h => by
    rcases h with ⟨h1, h2⟩ | h
    · exact .inl (.inl ((hk a h1).trans h2))
    · exact .inr h
  have q : SqT K H2 a vs ∧ SqT K H2 b ws := ⟨up h, up h'⟩
  refine ⟨fun i hi => W.goes i H2 hi q, W.stops H2 q, fun i d x H3 e y st2 I2 => ?_⟩
  have hi := (List.getElem?_eq_some_iff.mp e).1
  obtain ⟨d1, d2, ee1, ee2, rfl⟩ := zipL_get e
  obtain ⟨T, x1, x2, rfl, hT, rfl, h1, h2⟩ := W.yields i H2 x H3 hi q y
  obtain ⟨v, ev, rv⟩ := r.get ee1
  obtain ⟨v', ev', rv'⟩ := r'.get ee2
  have h1' : vs[i]? = some x1 := h1
  have h2' : ws[i]? = some x2 := h2
  rw [h1'] at ev; cases ev
  rw [h2'] at ev'; cases ev'
  exact pair_new I2 hT (rv.tr hk sub hφ) (rv'.tr hk sub hφ)
theorem walk_zipM {a b : Addr} {xs ys : List V} {n : Nat} (hn : n = min xs.length ys.length) : Walk (ItzM K a b) n (fun H => SqT K H a xs ∧ SqL K H b ys) (YPair (fun i => xs[i]?) (fun i => ys[i]?)) := by
  subst hn
  refine ⟨fun i _ hi q => ?_, fun _ q => ⟨xs, ys, q.1, q.2, by omega, by omega⟩, fun i H v H' _ q y => ?_⟩
  · have h1 : i < xs.length := by omega
    have h2 : i < ys.length := by omega
    exact ⟨xs, ys, xs[i], ys[i], q.1, q.2, by simp [h1], by simp [h2]⟩
  · obtain ⟨T, x, z, h1, h2, h3, h4, h5⟩ := y
    exact ⟨T, x, z, h1, h2, h3, h4 xs q.1, h5 ys q.2⟩
theorem jok_zipM {a b : Addr} (h : Tp K S H a vs) (r : RepL K S φ H vs ds) (ho' : b ∉ φ) (hs' : o = false → S b) (h' : H b = some (.lst ws)) (r' : RepL K S φ H ws es) : JOk K o S φ H (ItzM K a b) (zipL ds es) := by
  refine ⟨[b], fun c hc => ?_, fun S2 φ2 H2 hw hk sub hφ => ?_⟩
  · have e : c = b := by simpa using hc
    subst e; exact ⟨by rw [h']; simp, ho', hs'⟩
  have el : (zipL ds es).length = min vs.length ws.length := by simp [zipL, r.length, r'.length]
  have W := walk_zipM (K := K) (a := a) (b := b) (xs := vs) (ys := ws) el
  have up : SqT K H2 a vs := by
    rcases h with ⟨h1, h2⟩ | h
    · exact .inl (.inl ((hk a h1).trans h2))
    · exact .inr h
  have e3 : H2 b = some (.lst ws) := (hw b (by simp)).trans h'
  have q : SqT K H2 a vs ∧ SqL K H2 b ws := ⟨up, .inl (.inl e3)⟩
  refine ⟨fun i hi => W.goes i H2 hi q, W.stops H2 q, fun i d x H3 e y st2 I2 => ?_⟩
  have hi := (List.getElem?_eq_some_iff.mp e).1
  obtain ⟨d1, d2, ee1, ee2, rfl⟩ := zipL_get e
  obtain ⟨T, x1, x2, rfl, hT, rfl, h1, h2⟩ := W.yields i H2 x H3 hi q y
  obtain ⟨v, ev, rv⟩ := r.get ee1
  obtain ⟨v', ev', rv'⟩ := r'.get ee2
  have h1' : vs[i]? = some x1 := h1
  have h2' : ws[i]? = some x2 := h2
  rw [h1'] at ev; cases ev
  rw [h2'] at ev'; cases ev'
  exact pair_new I2 hT (rv.tr hk sub hφ) (rv'.tr hk sub hφ)
theorem repM_lst {v : V} {st : Sto} (I : SI K S φ H st) (h : RepM o K S φ H v (.lst ds)) : ∃ a vs, v = .ref a ∧ a ∉ φ ∧ (o = false → S a) ∧ H a = some (.lst vs) ∧ RepL K S φ H vs ds := by
  rcases h with h | ⟨e, a, vs, ds', rfl, e2, h1, h2, h3⟩
  · cases h with
    | lst hs h r => exact ⟨_, _, rfl, fun q => I.dis _ q hs, fun _ => hs, h, r⟩
  · cases e2
    exact ⟨a, vs, rfl, h1, (fun q => by rw [e] at q; cases q), h2, h3⟩
theorem repM_tup {v : V} (h : RepM o K S φ H v (.tup ds)) : ∃ a vs, v = .ref a ∧ Tp K S H a vs ∧ RepL K S φ H vs ds := by
  rcases h with h | ⟨e, a, vs, ds', rfl, e2, h1, h2, h3⟩
  · cases h with
    | tup h r => exact ⟨_, _, rfl, h, r⟩
  · cases e2
end
section
variable {Γ : Ctx} {L : LC} {o : Bool} {e a b : Expr} {tg : Expr}
theorem ss_seq {ca : Ex} {cf gs} (h : SE Γ L o a (ev cf gs o ca)) : SS Γ L o tg a (evI cf gs o (.seq ca)) := by
  obtain ⟨t, p, q⟩ := h
  refine ⟨iSeq Γ.K t, fun X g => by rw [← g.K]; exact pi_seq (p X g), fun σ H env st S φ R E I f => ?_⟩
  unfold evI at f
  obtain ⟨d, s1, e1, f1⟩ := f.bind
  refine SE.use q E I e1 fun v H1 S1 φ1 x1 E1 I1 r1 => ?_
  cases d with
  | lst ds =>
    obtain ⟨a, vs, rfl, h1, h2, h3, h4⟩ := repM_lst I1 r1
    exact .inl ⟨a, rfl, .inl ⟨vs, .inl (.inl h3), f1 _ H1 S1 φ1 x1 I1 (jok_list h1 h2 h3 h4)⟩⟩
  | tup ds =>
    obtain ⟨a, vs, rfl, h1, h2⟩ := repM_tup r1
    exact .inl ⟨a, rfl, .inr ⟨vs, h1.sq, f1 _ H1 S1 φ1 x1 I1 (jok_tup h1 h2)⟩⟩
  | str z =>
    have := r1.rd0.str
    exact .inr ⟨z, this, f1 _ H1 S1 φ1 x1 I1 jok_str⟩
  | _ => exact False.elim f1
theorem ss_enm (Γok : CtxOk Γ) {ca : Ex} {cf gs} {x : Str} {p pos tpos : Pos} {elts : List Expr} {kk : Nat} (hx : x = ("enumerate" : Str)) (hf : x ∈ Γ.m.fr) (hg : glB L.sc x = true)
    (hst : ∀ env r, starEach (a :: r) env = (false, eval a env) :: starEach r env) (h : SE Γ L o a (ev cf gs o ca)) : SS Γ L o (.Tuple elts kk tpos) (.Call (.Name x p) [a] [] pos) (evI cf gs o (.enm ca)) := by
  obtain ⟨t, p1, q⟩ := h
  subst hx
  refine ⟨iEnumA Γ.K (tCons t tNil), fun X g => by rw [← g.K]; exact pi_enumA (g.gl hg) (by rw [g.mg]; exact Γok.fr _ hf) (pa_cons (p1 X g) pa_nil (hst _ _)) (hst _ _), fun σ H env st S φ R E I f => ?_⟩
  unfold evI at f
  obtain ⟨d, s1, e1, f1⟩ := f.bind
  refine SE.use q E I e1 fun v H1 S1 φ1 x1 E1 I1 r1 => ?_
  cases d with
  | lst ds =>
    obtain ⟨a, vs, rfl, h1, h2, h3, h4⟩ := repM_lst I1 r1
    exact ⟨a, vs, rfl, .inl ⟨.inl (.inl h3), f1 _ H1 S1 φ1 x1 I1 (jok_enum h1 h2 h3 h4)⟩⟩
  | tup ds =>
    obtain ⟨a, vs, rfl, h1, h2⟩ := repM_tup r1
    exact ⟨a, vs, rfl, .inr ⟨h1.sq, f1 _ H1 S1 φ1 x1 I1 (jok_enumT h1 h2)⟩⟩
  | _ => exact False.elim f1
theorem ss_zip (Γok : CtxOk Γ) {ca cb : Ex} {cf gs} {x : Str} {p pos tpos : Pos} {elts : List Expr} {kk : Nat} (hx : x = ("zip" : Str)) (hf : x ∈ Γ.m.fr) (hg : glB L.sc x = true)
    (hst : ∀ env r, starEach (a :: r) env = (false, eval a env) :: starEach r env) (hst2 : ∀ env r, starEach (b :: r) env = (false, eval b env) :: starEach r env) (h : SE Γ L o a (ev cf gs o ca)) (h2 : SE Γ L o b (ev cf gs o cb)) :
    SS Γ L o (.Tuple elts kk tpos) (.Call (.Name x p) [a, b] [] pos) (evI cf gs o (.zip ca cb)) := by
  obtain ⟨t, p1, q⟩ := h
  obtain ⟨t2, p2, q2⟩ := h2
  subst hx
  refine ⟨iZipM Γ.K (tCons t (tCons t2 tNil)), fun X g => by rw [← g.K]; exact pi_zipM (g.gl hg) (by rw [g.mg]; exact Γok.fr _ hf) (pa_cons (p1 X g) (pa_cons (p2 X g) pa_nil (hst2 _ _)) (hst _ _)) (hst _ _) (by rw [hst2]; rfl), fun σ H env st S φ R E I f => ?_⟩
  unfold evI at f
  obtain ⟨d, s1, e1, f1⟩ := f.bind
  obtain ⟨d2, s2, e2, f2⟩ := f1.bind
  refine SE.use q E I e1 fun v H1 S1 φ1 x1 E1 I1 r1 => ?_
  refine SE.use q2 E1 I1 e2 fun w H2 S2 φ2 x2 E2 I2 r2 => ?_
  have r1' := r1.mono x2 I1
  cases d with
  | lst ds =>
    cases d2 with
    | lst es =>
      obtain ⟨a, vs, rfl, h1, h2, h3, h4⟩ := repM_lst I2 r1'
      obtain ⟨b, ws, rfl, k1, k2, k3, k4⟩ := repM_lst I2 r2
      exact ⟨a, b, vs, ws, rfl, .inl ⟨.inl (.inl h3), .inl (.inl k3), f2 _ H2 S2 φ2 (x1.trans x2) I2 (jok_zip h1 h2 h3 h4 k1 k2 k3 k4)⟩⟩
    | _ => exact False.elim f2
  | tup ds =>
    cases d2 with
    | tup es =>
      obtain ⟨a, vs, rfl, h1, h2⟩ := repM_tup r1'
      obtain ⟨b, ws, rfl, k1, k2⟩ := repM_tup r2
      exact ⟨a, b, vs, ws, rfl, .inr (.inl ⟨h1.sq, k1.sq, f2 _ H2 S2 φ2 (x1.trans x2) I2 (jok_zipT h1 h2 k1 k2)⟩)⟩
    | lst es =>
      obtain ⟨a, vs, rfl, h1, h2⟩ := repM_tup r1'
      obtain ⟨b, ws, rfl, k1, k2, k3, k4⟩ := repM_lst I2 r2
      exact ⟨a, b, vs, ws, rfl, .inr (.inr ⟨h1.sq, .inl (.inl k3), f2 _ H2 S2 φ2 (x1.trans x2) I2 (jok_zipM h1 h2 k1 k2 k3 k4)⟩)⟩
    | _ => exact False.elim f2
  | _ => exact False.elim f2
theorem jok_rangec {K : PySem.W.Frag} {o : Bool} {S : Addr → Prop} {φ : List Addr} {H : Hp} {lo : Int} {n : Nat} : JOk K o S φ H (Itc lo (-1) n) (rangeL lo (-1) n) := by
  refine ⟨[], fun b hb => by simp at hb, fun S2 φ2 H2 hw hk sub hφ => ?_⟩
  have el : (rangeL lo (-1) n).length = n := by simp [rangeL]
  rw [el]
  refine ⟨fun i hi => hi, Nat.le_refl _, fun i d x H3 e y st2 I2 => ?_⟩
  have hi : i < n := by rw [← el]; exact (List.getElem?_eq_some_iff.mp e).1
  obtain ⟨rfl, rfl⟩ := y
  unfold rangeL at e
  rw [List.getElem?_map, List.getElem?_range hi] at e
  cases e
  exact ⟨S2, .refl, I2, .int _⟩
theorem ss_rg3 (Γok : CtxOk Γ) {ca cb cc : Ex} {a b c : Expr} {cf gs} {x : Str} {p pos : Pos} (hx : x = ("range" : Str)) (hf : x ∈ Γ.m.fr) (hg : glB L.sc x = true)
    (hst : ∀ env r, starEach (a :: r) env = (false, eval a env) :: starEach r env) (hst2 : ∀ env r, starEach (b :: r) env = (false, eval b env) :: starEach r env) (hst3 : ∀ env r, starEach (c :: r) env = (false, eval c env) :: starEach r env)
    (h : SE Γ L true a (ev cf gs true ca)) (h2 : SE Γ L true b (ev cf gs true cb)) (h3 : SE Γ L true c (ev cf gs true cc)) :
    SS Γ L o tg (.Call (.Name x p) [a, b, c] [] pos) (evI cf gs o (.rg3 ca cb cc)) := by
  obtain ⟨t, p1, q⟩ := h
  obtain ⟨t2, p2, q2⟩ := h2
  obtain ⟨t3, p3, q3⟩ := h3
  subst hx
  refine ⟨iRng3 (tCons t (tCons t2 (tCons t3 tNil))), fun X g => pi_range3 (g.gl hg) (by rw [g.mg]; exact Γok.fr _ hf) (pa_cons (p1 X g) (pa_cons (p2 X g) (pa_cons (p3 X g) pa_nil (hst3 _ _)) (hst2 _ _)) (hst _ _)) (by rw [hst]) (by rw [hst2, hst3]; rfl), fun σ H env st S φ R E I f => ?_⟩
  unfold evI at f
  obtain ⟨d, s1, e1, f1⟩ := f.bind
  obtain ⟨d2, s2, e2, f2⟩ := f1.bind
  obtain ⟨d3, s3, e3, f3⟩ := f2.bind
  refine SE.use q E I e1 fun v H1 S1 φ1 x1 E1 I1 r1 => ?_
  refine SE.use q2 E1 I1 e2 fun w H2 S2 φ2 x2 E2 I2 r2 => ?_
  refine SE.use q3 E2 I2 e3 fun w3 H3 S3 φ3 x3 E3 I3 r3 => ?_
  unfold rng3? at f3
  split at f3
  · split at f3
    · rename_i i j c hj
      have e1 := r1.rd0.int
      have e2 := r2.rd0.int
      have e3 := r3.rd0.int
      subst e1 e2 e3
      obtain ⟨hc, h1, h2, h3, h4⟩ := hj
      subst hc
      exact ⟨i, j, -1, _, rfl, RgC.neg h1 h2 h3 h4, f3 _ H3 S3 φ3 ((x1.trans x2).trans x3) I3 jok_rangec⟩
    · exact False.elim f3
  · exact False.elim f3
theorem ss_rg1 (Γok : CtxOk Γ) {ca : Ex} {cf gs} {x : Str} {p pos : Pos} (hx : x = ("range" : Str)) (hf : x ∈ Γ.m.fr) (hg : glB L.sc x = true)
    (hst : ∀ env r, starEach (a :: r) env = (false, eval a env) :: starEach r env) (h : SE Γ L true a (ev cf gs true ca)) : SS Γ L o tg (.Call (.Name x p) [a] [] pos) (evI cf gs o (.rg1 ca)) := by
  obtain ⟨t, p1, q⟩ := h
  subst hx
  refine ⟨iRng1 (tCons t tNil), fun X g => pi_range1 (g.gl hg) (by rw [g.mg]; exact Γok.fr _ hf) (pa_cons (p1 X g) pa_nil (hst _ _)) (hst _ _), fun σ H env st S φ R E I f => ?_⟩
  unfold evI at f
  obtain ⟨d, s1, e1, f1⟩ := f.bind
  refine SE.use q E I e1 fun v H1 S1 φ1 x1 E1 I1 r1 => ?_
  unfold rng1? at f1
  split at f1
  · split at f1
    · rename_i j hj
      have := r1.rd0.int
      subst this
      exact ⟨j, rfl, hj.1, hj.2, f1 _ H1 S1 φ1 x1 I1 jok_range⟩
    · exact False.elim f1
  · exact False.elim f1
theorem ss_rg2 (Γok : CtxOk Γ) {ca cb : Ex} {cf gs} {x : Str} {p pos : Pos} (hx : x = ("range" : Str)) (hf : x ∈ Γ.m.fr) (hg : glB L.sc x = true)
    (hst : ∀ env r, starEach (a :: r) env = (false, eval a env) :: starEach r env) (hst2 : ∀ env r, starEach (b :: r) env = (false, eval b env) :: starEach r env) (h : SE Γ L true a (ev cf gs true ca)) (h2 : SE Γ L true b (ev cf gs true cb)) :
    SS Γ L o tg (.Call (.Name x p) [a, b] [] pos) (evI cf gs o (.rg2 ca cb)) := by
  obtain ⟨t, p1, q⟩ := h
  obtain ⟨t2, p2, q2⟩ := h2
  subst hx
  refine ⟨iRng2 (tCons t (tCons t2 tNil)), fun X g => pi_range2 (g.gl hg) (by rw [g.mg]; exact Γok.fr _ hf) (pa_cons (p1 X g) (pa_cons (p2 X g) pa_nil (hst2 _ _)) (hst _ _)) (by rw [hst, hst2]; rfl) (by rw [hst2]; rfl), fun σ H env st S φ R E I f => ?_⟩
  unfold evI at f
  obtain ⟨d, s1, e1, f1⟩ := f.bind
  obtain ⟨d2, s2, e2, f2⟩ := f1.bind
  refine SE.use q E I e1 fun v H1 S1 φ1 x1 E1 I1 r1 => ?_
  refine SE.use q2 E1 I1 e2 fun w H2 S2 φ2 x2 E2 I2 r2 => ?_
  unfold rng2? at f2
  split at f2
  · split at f2
    · rename_i i j hj
      have e1 := r1.rd0.int
      have e2 := r2.rd0.int
      subst e1 e2
      exact ⟨i, j, rfl, hj, f2 _ H2 S2 φ2 (x1.trans x2) I2 jok_range⟩
    · exact False.elim f2
  · exact False.elim f2
theorem ss_no {e : Expr} {m : Env → Sto → Out (List D)} (h : ∀ env s, m env s = .err) : SS Γ L o tg e m :=
  ⟨fun _ _ _ => False, fun X _ => ⟨fun _ _ _ _ _ _ q => q.elim⟩, fun σ H env st S φ R E I f => by rw [h] at f; exact f⟩
end
end PV
set_option maxRecDepth 100000
set_option maxHeartbeats 4000000
/-! Comprehensions. -/
namespace PV
open PySem PySem.Spec PyProof.Rows L2
/-- a step during which the new list at Dl grows -/
structure StpD (Dl : Addr) (S : Addr → Prop) (φ : List Addr) (H : Hp) (S' : Addr → Prop) (φ' : List Addr) (H' : Hp) : Prop where
  keep : ∀ a o, H a = some o → a ∉ φ → a ≠ Dl → H' a = some o
  some : ∀ a, H a ≠ none → H' a ≠ none
  sub : ∀ a, S a → S' a
  new : ∀ a, S' a → S a ∨ H a = none
  phi : ∃ ψ, φ' = φ ++ ψ ∧ ∀ a ∈ ψ, H a = none
section
variable {K : PySem.W.Frag} {Dl : Addr} {S S' S2 : Addr → Prop} {φ φ' φ2 : List Addr} {H H' H2 : Hp} {st st' : Sto}
theorem StpD.of (x : Stp S φ H S' φ' H') : StpD Dl S φ H S' φ' H' := ⟨fun a o h n _ => x.keep a o h n, x.some, x.sub, x.new, x.phi⟩
theorem StpD.to (x : StpD Dl S φ H S' φ' H') (hD : H Dl = none) : Stp S φ H S' φ' H' := ⟨fun a o h n => x.keep a o h n (fun e => by rw [e, hD] at h; cases h), x.some, x.sub, x.new, x.phi⟩
theorem StpD.free (x : StpD Dl S φ H S' φ' H') {a : Addr} (h : H' a = none) : H a = none := by
  cases e : H a with
  | none => rfl
  | some o => exact absurd h (x.some a (by rw [e]; simp))
theorem StpD.trans (x : StpD Dl S φ H S' φ' H') (y : StpD Dl S' φ' H' S2 φ2 H2) : StpD Dl S φ H S2 φ2 H2 := by
  obtain ⟨ψ, e, hf⟩ := x.phi
  obtain ⟨ψ2, e2, hf2⟩ := y.phi
  subst e
  refine ⟨fun a o h ha hd => ?_, fun a h => y.some a (x.some a h), fun a h => y.sub a (x.sub a h), fun a h => ?_, ψ ++ ψ2, by rw [e2, List.append_assoc], fun a ha => ?_⟩
  · refine y.keep a o (x.keep a o h ha hd) (fun hm => ?_) hd
    rcases List.mem_append.mp hm with q | q
    · exact ha q
    · have := hf a q; rw [h] at this; cases this
  · rcases y.new a h with q | q
    · exact x.new a q
    · exact .inr (x.free q)
  · rcases List.mem_append.mp ha with q | q
    · exact hf a q
    · exact x.free (hf2 a q)
theorem StpD.upd {o : HO} : StpD Dl S φ H S φ (upd H Dl o) :=
  ⟨fun a o' h _ n => by rw [upd_ne n]; exact h, fun a h => by
    by_cases e : a = Dl
    · rw [e, upd_same]; simp
    · rw [upd_ne e]; exact h, fun _ h => h, fun _ h => .inl h, [], by simp⟩
theorem StpD.same (x : StpD Dl S φ H S' φ' H') (I : SI K S φ H st) (hD : ¬ S Dl) : ∀ a, S a → H' a = H a := fun a h => by
  cases e : H a with
  | none => exact absurd e (I.dom a h)
  | some o => exact x.keep a o e (fun q => I.dis a q h) (fun q => hD (q ▸ h))
theorem StpD.pre (x : StpD Dl S φ H S' φ' H') : ∃ ψ, φ' = φ ++ ψ := let ⟨ψ, e, _⟩ := x.phi; ⟨ψ, e⟩
theorem SI.upd {o : HO} (I : SI K S φ H st) (h1 : ¬ S Dl) (h2 : Dl ∉ φ) : SI K S φ (L2.upd H Dl o) st := by
  refine ⟨fun a h => ?_, I.dis, I.len, I.nd, fun n a ds e1 e2 => ?_⟩
  · by_cases e : a = Dl
    · rw [e, upd_same]; simp
    · rw [upd_ne e]; exact I.dom a h
  · have hne : a ≠ Dl := fun e => h2 (e ▸ List.mem_of_getElem? e1)
    exact (I.obj n a ds e1 e2).tr (fun b hb => upd_ne (fun e => h1 (by rw [← e]; exact hb))) (fun _ q => q) ⟨[], by simp⟩ (upd_ne hne)
def NoOwn (env : Env) : Prop := ∀ (i : Nat) ds, env[i]? ≠ some (some (.own ds))
theorem noOwn_no (env : Env) : NoOwn (noOwn env) := fun i ds h => by
  unfold noOwn at h
  rw [List.getElem?_map] at h
  cases e : env[i]? with
  | none => rw [e] at h; cases h
  | some x =>
    rw [e] at h
    cases x with
    | none => cases h
    | some y => cases y <;> cases h
theorem NoOwn.set {env : Env} {i : Nat} {d : PV.D} (h : NoOwn env) : NoOwn (env.set i (some (.val d))) := fun j ds e => by
  rcases set_get e with ⟨_, e, _⟩ | ⟨_, e⟩
  · cases e
  · exact h j ds e
theorem NoOwn.del {env : Env} {i : Nat} (h : NoOwn env) : NoOwn (env.set i none) := fun j ds e => by
  by_cases q : i = j
  · subst q
    by_cases hi : i < env.length
    · rw [List.getElem?_set_self hi] at e; cases e
    · rw [List.getElem?_eq_none (by simpa using hi)] at e; cases e
  · rw [List.getElem?_set_ne q] at e; exact h j ds e
theorem NoOwn.wipe {env : Env} (h : NoOwn env) : ∀ vs, NoOwn (wipeE env vs)
  | [] => h
  | v :: vs => (NoOwn.wipe h vs).del
mutual
theorem NoOwn.bind : ∀ {c : Tg} {d : PV.D} {env env' : Env}, NoOwn env → bindT c d env = some env' → NoOwn env'
  | .nm i, d, env, env', h, e => by cases e; exact h.set
  | .tp ts, .tup ds, env, env', h, e => NoOwn.binds h (show bindTs ts ds env = some env' from e)
  | .tp ts, .non, _, _, _, e => by cases e
  | .tp ts, .bl _, _, _, _, e => by cases e
  | .tp ts, .int _, _, _, _, e => by cases e
  | .tp ts, .str _, _, _, _, e => by cases e
  | .tp ts, .lst _, _, _, _, e => by cases e
  | .tp ts, .rol _, _, _, _, e => by cases e
  | .tp ts, .loc _, _, _, _, e => by cases e
theorem NoOwn.binds : ∀ {cs : Tgs} {ds : List PV.D} {env env' : Env}, NoOwn env → bindTs cs ds env = some env' → NoOwn env'
  | .nil, [], _, _, h, e => by cases e; exact h
  | .nil, _ :: _, _, _, _, e => by cases e
  | .c t ts, [], _, _, _, e => by cases e
  | .c t ts, d :: ds, env, env', h, e => by
    have e' : (match bindT t d env with
      | some env' => bindTs ts ds env'
      | none => none) = some env' := e
    cases eb : bindT t d env with
    | none => rw [eb] at e'; cases e'
    | some env1 => rw [eb] at e'; exact NoOwn.binds (NoOwn.bind h eb) e'
end
theorem EI.no {σ : L2.St} {env : Env} (E : EI K S φ H σ env) : EI K S φ H σ (noOwn env) := by
  refine ⟨by simp [noOwn, E.len], fun i d h => E.val i d ?_, fun i ds h => absurd h (noOwn_no env i ds), fun i j ds es a h => absurd h (noOwn_no env i ds)⟩
  unfold noOwn at h
  rw [List.getElem?_map] at h
  cases e : env[i]? with
  | none => rw [e] at h; cases h
  | some x =>
    rw [e] at h
    cases x with
    | none => cases h
    | some y =>
      cases y with
      | val d' => cases h; rfl
      | own ds => cases h
theorem EI.del {σ : L2.St} {env : Env} {i : Nat} (E : EI K S φ H σ env) (n : NoOwn env) : EI K S φ H (σ.set i none) (env.set i none) := by
  refine ⟨by simp [E.len], fun j d h => ?_, fun j ds h => absurd h (n.del j ds), fun j l ds es a h => absurd h (n.del j ds)⟩
  by_cases q : i = j
  · subst q
    by_cases hi : i < env.length
    · rw [List.getElem?_set_self hi] at h; cases h
    · rw [List.getElem?_eq_none (by simpa using hi)] at h; cases h
  · rw [List.getElem?_set_ne q] at h ⊢
    exact E.val j d h
theorem EI.wipe {σ : L2.St} {env : Env} (E : EI K S φ H σ env) (n : NoOwn env) : ∀ vs, EI K S φ H (wipe σ vs) (wipeE env vs)
  | [] => E
  | v :: vs => (EI.wipe E n vs).del (n.wipe vs)
theorem EI.monoD {σ : L2.St} {env : Env} (E : EI K S φ H σ env) (n : NoOwn env) (x : StpD Dl S φ H S' φ' H') (I : SI K S φ H st) (hD : ¬ S Dl) : EI K S' φ' H' σ env :=
  ⟨E.len, fun i d h => let ⟨v, e, r⟩ := E.val i d h; ⟨v, e, r.tr (x.same I hD) x.sub x.pre⟩, fun i ds h => absurd h (n i ds), E.inj⟩
theorem wipe_idem {σ : L2.St} : ∀ {vs ws : List Nat}, (∀ i ∈ vs, i ∈ ws) → wipe (wipe σ ws) vs = wipe σ ws
  | [], ws, _ => rfl
  | v :: vs, ws, h => by
    show (wipe (wipe σ ws) vs).set v none = _
    rw [wipe_idem fun i hi => h i (List.mem_cons_of_mem _ hi)]
    have hv : v ∈ ws := h v List.mem_cons_self
    apply List.ext_getElem?
    intro j
    by_cases q : v = j
    · subst q
      by_cases hl : v < (wipe σ ws).length
      · rw [List.getElem?_set_self hl]
        cases e : (wipe σ ws)[v]? with
        | none => exact absurd (List.getElem?_eq_none_iff.mp e) (by omega)
        | some y =>
          cases y with
          | none => rfl
          | some z => exact absurd hv (wipe_some e).2
      · rw [List.getElem?_eq_none (by simpa using hl), List.getElem?_eq_none (by simpa using hl)]
    · rw [List.getElem?_set_ne q]
/-- where a comprehension stands: Dl has what was made so far -/
structure AR (K : PySem.W.Frag) (Dl : Addr) (S1 : Addr → Prop) (φ1 : List Addr) (H1 : Hp) (S : Addr → Prop) (φ : List Addr) (H : Hp) (st : Sto) (da : List PV.D) : Prop where
  stp : StpD Dl S1 φ1 H1 S φ H
  si : SI K S φ H st
  ns : ¬ S Dl
  nφ : Dl ∉ φ
  acc : ∃ acc, H Dl = some (.lst acc) ∧ RepL K S φ H acc da
theorem AR.go {S1 : Addr → Prop} {φ1 : List Addr} {H1 : Hp} {da : List PV.D} (A : AR K Dl S1 φ1 H1 S φ H st da) (x : Stp S φ H S' φ' H') (I : SI K S' φ' H' st') : AR K Dl S1 φ1 H1 S' φ' H' st' da := by
  obtain ⟨acc, h, r⟩ := A.acc
  refine ⟨A.stp.trans (.of x), I, fun q => ?_, fun q => ?_, acc, x.keep Dl _ h A.nφ, r.mono x A.si⟩
  · rcases x.new Dl q with q | q
    · exact A.ns q
    · rw [h] at q; cases q
  · obtain ⟨ψ, e, hf⟩ := x.phi
    rw [e] at q
    rcases List.mem_append.mp q with q | q
    · exact A.nφ q
    · have := hf Dl q; rw [h] at this; cases this
theorem AR.base {S1 : Addr → Prop} {φ1 : List Addr} {H1 : Hp} {da : List PV.D} (A : AR K Dl S1 φ1 H1 S φ H st da) : AR K Dl S φ H S φ H st da := ⟨.of .refl, A.si, A.ns, A.nφ, A.acc⟩
theorem AR.over {S1 : Addr → Prop} {φ1 : List Addr} {H1 : Hp} {da : List PV.D} (x : StpD Dl S φ H S1 φ1 H1) (A : AR K Dl S1 φ1 H1 S' φ' H' st da) : AR K Dl S φ H S' φ' H' st da := ⟨x.trans A.stp, A.si, A.ns, A.nφ, A.acc⟩
theorem AR.push {S1 : Addr → Prop} {φ1 : List Addr} {H1 : Hp} {da : List PV.D} {acc : List V} {y : V} {d : PV.D} (A : AR K Dl S1 φ1 H1 S φ H st da) (h : H Dl = some (.lst acc)) (r : RepL K S φ H acc da) (ry : Rep K S φ H y d) :
    AR K Dl S1 φ1 H1 S φ (L2.upd H Dl (.lst (acc ++ [y]))) st (da ++ [d]) :=
  ⟨A.stp.trans .upd, A.si.upd A.ns A.nφ, A.ns, A.nφ, _, upd_same, (r.append (.cons ry .nil)).tr (fun a ha => upd_ne (fun e => A.ns (by rw [← e]; exact ha))) (fun _ q => q) ⟨[], by simp⟩⟩
/-- the loop of a comprehension -/
theorem comp_loop {o : Bool} {J : It} {ds ys : List PV.D} {f : PV.D → Sto → Out (List PV.D)} {S1 : Addr → Prop} {φ1 : List Addr} {H1 H0 : Hp} {st1 st2 : Sto} {da : List PV.D} {B : V → Hp → (Hp → Prop) → Prop} {Qd : Hp → Prop} {S0 : Addr → Prop} {φ0 : List Addr}
    (I1 : SI K S1 φ1 H1 st1) (n1 : ¬ S1 Dl) (J1 : JOk K o S1 φ1 H1 J ds) (hw : H1 Dl = none ∨ o = false) (A0 : AR K Dl S1 φ1 H1 S0 φ0 H0 st1 da) (hf : flatF f ds st1 = .ok ys st2) (hz : da.length + ys.length ≤ LINE)
    (turn : ∀ d S φ H st db zs st', d ∈ ds → AR K Dl S1 φ1 H1 S φ H st db → f d st = .ok zs st' → db.length + zs.length ≤ LINE → ∀ x, Rep K S φ H x d →
      ∀ Nx : Hp → Prop, (∀ S' φ' H', AR K Dl S1 φ1 H1 S' φ' H' st' (db ++ zs) → Nx H') → B x H Nx)
    (hend : ∀ S φ H, AR K Dl S1 φ1 H1 S φ H st2 (da ++ ys) → Qd H) :
    ∃ W : Nat → Nat → Hp → Prop, (∃ m, W 0 m H0) ∧ ∀ i m H, W i m H → (J.stop i H ∧ Qd H) ∨ (J.go i H ∧ ∃ Nx : Hp → Prop, (∀ H', Nx H' → ∃ m', m' < m ∧ W (i + 1) m' H') ∧ ∀ x H', J.yld i H x H' → B x H' Nx) := by
  obtain ⟨wt, hwt, hJ⟩ := J1
  refine ⟨fun i m H => ∃ S φ st db zs, m = ds.length - i ∧ i ≤ ds.length ∧ AR K Dl S1 φ1 H1 S φ H st db ∧ flatF f (ds.drop i) st = .ok zs st2 ∧ db ++ zs = da ++ ys, ⟨_, S0, φ0, st1, da, ys, rfl, Nat.zero_le _, A0, hf, rfl⟩, ?_⟩
  rintro i m H ⟨S, φ, st, db, zs, rfl, hi, A, hF, he⟩
  have per : (∀ a ∈ wt, H a = H1 a) := fun a ha => by
    obtain ⟨h1, h2, h3⟩ := hwt a ha
    cases e : H1 a with
    | none => exact absurd e h1
    | some ob =>
      refine A.stp.keep a ob e h2 fun q => ?_
      rcases hw with z | z
      · rw [q, z] at e; cases e
      · exact n1 (q ▸ h3 z)
  obtain ⟨g1, g2, g3⟩ := hJ S φ H per (A.stp.same I1 n1) A.stp.sub A.stp.pre
  by_cases hlt : i < ds.length
  · refine .inr ⟨g1 i hlt, ?_⟩
    have ed : ds.drop i = ds[i] :: ds.drop (i + 1) := List.drop_eq_getElem_cons hlt
    rw [ed] at hF
    unfold flatF at hF
    cases e1 : f ds[i] st with
    | err => rw [e1] at hF; cases hF
    | ok z1 s1 =>
      simp only [e1, Out.bind] at hF
      cases e2 : flatF f (ds.drop (i + 1)) s1 with
      | err => rw [e2] at hF; cases hF
      | ok z2 s2 =>
        rw [e2] at hF
        cases hF
        refine ⟨fun H' => ∃ S' φ', AR K Dl S1 φ1 H1 S' φ' H' s1 (db ++ z1), fun H' ⟨S', φ', A'⟩ => ⟨ds.length - (i + 1), by omega, S', φ', s1, db ++ z1, z2, rfl, hlt, A', e2, by rw [List.append_assoc]; exact he⟩, fun x H' y => ?_⟩
        obtain ⟨S3, x3, I3, r3⟩ := g3 i ds[i] x H' (List.getElem?_eq_getElem hlt) y st A.si
        have hl : (db ++ (z1 ++ z2)).length = (da ++ ys).length := by rw [he]
        simp only [List.length_append] at hl
        exact turn ds[i] S3 φ H' st db z1 s1 (List.getElem_mem hlt) (A.go x3 I3) e1 (by omega) x r3 _ fun S' φ' H2 A2 => ⟨S', φ', A2⟩
  · have e : i = ds.length := by omega
    subst e
    rw [List.drop_length] at hF
    unfold flatF at hF
    cases hF
    rw [List.append_nil] at he
    subst he
    exact .inl ⟨g2, hend S φ H A⟩
end
section
variable {Γ : Ctx} {L : LC} {o : Bool} {e a b : Expr}
theorem Good.blk {X : Cx} {scope : Scope} (g : Good Γ L X) (s : Shared) (H : Hp) (C : Addr) (cl : List (Str × Addr)) (fp : List Addr) : Good Γ ⟨relS scope L.sc, fbC scope, L.xk⟩ (X.blk s H scope (compEnvC scope cl C X.env) fp) :=
  ⟨g.prog, g.w, g.K, g.mg, g.base, g.N, g.calm, g.room, by rw [← g.sc]; rfl, rfl⟩
theorem sc_nil {cf gs} : SC Γ L [] (evC cf gs .n) := ⟨tYes, fun X _ => pts_nil, fun σ H env st S φ Q E I f => by unfold evC at f; exact f H S φ .refl I⟩
theorem sc_one {ca : Ex} {cf gs} (h : ST Γ L a fun env s => (ev cf gs true ca env s).bind fun d s => truthS s d) : SC Γ L [a] (evC cf gs (.s ca)) := by
  obtain ⟨t, p, q⟩ := h
  exact ⟨t, fun X g => pts_one (p X g), fun σ H env st S φ Q E I f => q σ H env st S φ Q E I (by unfold evC at f; exact f)⟩
/-- the elements of one turn -/
theorem elt_turn {K : PySem.W.Frag} {Dl : Addr} {S1 : Addr → Prop} {φ1 : List Addr} {H1 : Hp} {σ : L2.St} {tt : TT} {te : TE} {cond : OEx} {elt : Ex} {cf gs} {env : Env} {S : Addr → Prop} {φ : List Addr} {H : Hp} {st st' : Sto} {db zs : List PV.D} {Nx : Hp → Prop}
    (qt : ∀ H st S φ (Q : Bool → Hp → Prop), EI K S φ H σ env → SI K S φ H st → FinB K S φ H Q (evC cf gs cond env st) → tt σ H Q)
    (qe : ∀ H st S φ Q, EI K S φ H σ env → SI K S φ H st → FinE K false S φ H Q (ev cf gs false elt env st) → te σ H Q)
    (E : EI K S φ H σ env) (A : AR K Dl S1 φ1 H1 S φ H st db) (hz : db.length + zs.length ≤ LINE)
    (hf : ((evC cf gs cond env st).bind fun t s => if t = true then (ev cf gs false elt env s).bind fun y s => .ok [y] s else .ok [] s) = .ok zs st') (hn : ∀ S' φ' H', AR K Dl S1 φ1 H1 S' φ' H' st' (db ++ zs) → Nx H') :
    tt σ H fun b H3 => if b = true then te σ H3 fun y H4 => ∃ acc, H4 Dl = some (.lst acc) ∧ acc.length < sizeLine ∧ Nx (L2.upd H4 Dl (.lst (acc ++ [y]))) else Nx H3 := by
  refine qt H st S φ _ E A.si ?_
  cases e1 : evC cf gs cond env st with
  | err => rw [e1] at hf; cases hf
  | ok t s1 =>
    simp only [e1, Out.bind] at hf
    intro H3 S3 φ3 x3 I3
    have A3 := A.go x3 I3
    have E3 := E.mono x3 A.si
    cases t with
    | false =>
      rw [if_neg Bool.false_ne_true] at hf ⊢
      cases hf
      rw [List.append_nil] at hn
      exact hn S3 φ3 H3 A3
    | true =>
      rw [if_pos rfl] at hf ⊢
      refine qe H3 s1 S3 φ3 _ E3 I3 ?_
      cases e2 : ev cf gs false elt env s1 with
      | err => rw [e2] at hf; cases hf
      | ok y s2 =>
        rw [e2] at hf
        cases hf
        intro v H4 S4 φ4 x4 I4 r4
        have A4 := A3.go x4 I4
        obtain ⟨acc, h, r⟩ := A4.acc
        refine ⟨acc, h, by rw [line_eq, r.length]; simp at hz; have : LINE = 16777216 := rfl; omega, hn S4 φ4 _ (A4.push h r r4.val)⟩
theorem sf_cp1 (Γok : CtxOk Γ) {x t i : Expr} {ifs : List Expr} {scope : Scope} {pos : Pos} {elt : Ex} {tg : Tg} {it : Src} {cond : OEx} {vs : List Nat}
    (hI : SS Γ L true t i (evI Γ.cf Γ.gs true it)) (hb : blkC Γ.m.N L.sc scope (ownOf Γ.m.N vs) = true) (hv : (ownOf Γ.m.N vs).map (·.2) = vs) (ht : tgIn vs tg = true)
    (hG : SG Γ ⟨relS scope L.sc, fbC scope, L.xk⟩ t tg) (hC : SC Γ ⟨relS scope L.sc, fbC scope, L.xk⟩ ifs (evC Γ.cf Γ.gs cond)) (hE : SE Γ ⟨relS scope L.sc, fbC scope, L.xk⟩ false x (ev Γ.cf Γ.gs false elt))
    (hs : ∀ env v, foldedSetIterable i env v = pure v) :
    ∃ te : TE, (∀ X, Good Γ L X → PE X (.ListComp x [⟨t, i, ifs, 0⟩] scope pos) te ∧ ∀ (j : Nat) (y : Str) (py spos : Pos), Γ.m.N[j]? = some y → L.sc.names.lookup y = some .local → swapsWith (.ListComp x [⟨t, i, ifs, 0⟩] scope pos) (some (.Name y py)) spos.line X.env = pure true →
        PS X (.Assign [.Name y py] (.ListComp x [⟨t, i, ifs, 0⟩] scope pos) spos) (tAsg te (gName j))) ∧
      ∀ σ H env st S φ Q, EI Γ.K S φ H σ env → SI Γ.K S φ H st → FinF Γ.K S φ H Q (evF Γ.cf Γ.gs (.cp1 elt tg it cond vs) env st) → te σ H Q := by
  obtain ⟨wi, pI, qI⟩ := hI
  obtain ⟨g, pG, qG⟩ := hG
  obtain ⟨tt, pC, qC⟩ := hC
  obtain ⟨te, pE, qE⟩ := hE
  refine ⟨tLc wi g tt te vs, fun X gd => ⟨?_, fun j y py spos h1 h2 h3 => ?_⟩, fun σ H env st S φ Q E I f => ?_⟩
  · have := pe_lc (X := X) (pos := pos) (own := ownOf Γ.m.N vs) gd.calm (by rw [gd.N]; exact Γok.nd) (pI X gd) (blkOk_by (by rw [gd.N, gd.sc]; exact hb)) (fun s H C cl fp => pG _ (gd.blk s H C cl fp)) (fun s H C cl fp => pC _ (gd.blk s H C cl fp)) (fun s H C cl fp => pE _ (gd.blk s H C cl fp)) (hs _)
    rw [hv] at this; exact this
  · have := ps_setLc (X := X) (pos := pos) (own := ownOf Γ.m.N vs) (i := j) gd.calm (by rw [gd.N]; exact Γok.nd) (by rw [gd.N]; exact h1) (by rw [gd.sc]; exact h2) h3 (pI X gd) (blkOk_by (by rw [gd.N, gd.sc]; exact hb)) (fun s H C cl fp => pG _ (gd.blk s H C cl fp)) (fun s H C cl fp => pC _ (gd.blk s H C cl fp)) (fun s H C cl fp => pE _ (gd.blk s H C cl fp)) (hs _)
    rw [hv] at this; exact this
  · unfold evF at f
    obtain ⟨xs, s1, e1, f1⟩ := f.bind
    obtain ⟨ys, s2, e2, f2⟩ := f1.bind
    by_cases hz : ys.length ≤ LINE
    · rw [if_pos hz] at f2
      refine qI σ H env st S φ _ E I ?_
      rw [e1]
      intro J H1 S1 φ1 x1 I1 J1 Dl hD
      obtain ⟨nS, nφ⟩ := I1.fresh hD
      have A0 : AR Γ.K Dl S1 φ1 H1 S1 φ1 (L2.upd H1 Dl (.lst [])) s1 [] := ⟨.upd, I1.alloc0 hD, nS, nφ, [], upd_same, .nil⟩
      have E1 := E.mono x1 I
      refine comp_loop I1 nS J1 (.inl hD) A0 e2 (by simpa using hz) (fun d S3 φ3 H3 st3 db zs st' hd A ef hz3 v rv Nx hN => ?_) fun S3 φ3 H3 A => ?_
      · cases eb : bindT tg d (wipeE (noOwn env) vs) with
        | none => rw [eb] at ef; cases ef
        | some env1 =>
          simp only [eb] at ef
          have E3 : EI Γ.K S3 φ3 H3 (wipe σ vs) (wipeE (noOwn env) vs) := ((E1.no).wipe (noOwn_no env) vs).monoD ((noOwn_no env).wipe vs) A.stp I1 nS
          refine qG v d _ H3 _ env1 S3 φ3 st3 _ E3 A.si rv eb fun σ' hw E4 => ⟨?_, ?_⟩
          · rw [hw.1 vs ht, wipe_idem fun _ h => h]
          · exact elt_turn (fun H st S φ Q => qC σ' H env1 st S φ Q) (fun H st S φ Q => qE σ' H env1 st S φ Q) E4 A hz3 ef hN
      · obtain ⟨acc, h, r⟩ := A.acc
        rw [List.nil_append] at r
        exact f2 Dl acc H3 S3 φ3 (x1.trans (A.stp.to hD)) A.si (x1.free hD) A.ns A.nφ h r
    · rw [if_neg hz] at f2; exact False.elim f2
theorem sf_cp2 (Γok : CtxOk Γ) {x t i t1 i1 : Expr} {ifs ifs1 : List Expr} {scope : Scope} {pos : Pos} {elt : Ex} {tg tg1 : Tg} {it it1 : Src} {cond cond1 : OEx} {vs vs1 : List Nat}
    (hI : SS Γ L true t i (evI Γ.cf Γ.gs true it)) (hb : blkC Γ.m.N L.sc scope (ownOf Γ.m.N vs) = true) (hv : (ownOf Γ.m.N vs).map (·.2) = vs) (hv1 : ∀ j ∈ vs1, j ∈ vs) (ht : tgIn vs tg = true) (ht1 : tgIn vs1 tg1 = true)
    (hG : SG Γ ⟨relS scope L.sc, fbC scope, L.xk⟩ t tg) (hC : SC Γ ⟨relS scope L.sc, fbC scope, L.xk⟩ ifs (evC Γ.cf Γ.gs cond)) (hI1 : SS Γ ⟨relS scope L.sc, fbC scope, L.xk⟩ false t1 i1 (evI Γ.cf Γ.gs false it1)) (hG1 : SG Γ ⟨relS scope L.sc, fbC scope, L.xk⟩ t1 tg1)
    (hC1 : SC Γ ⟨relS scope L.sc, fbC scope, L.xk⟩ ifs1 (evC Γ.cf Γ.gs cond1)) (hE : SE Γ ⟨relS scope L.sc, fbC scope, L.xk⟩ false x (ev Γ.cf Γ.gs false elt))
    (hs : ∀ env v, foldedSetIterable i env v = pure v) (hs1 : ∀ env v, foldedSetIterable i1 env v = pure v) :
    ∃ te : TE, (∀ X, Good Γ L X → PE X (.ListComp x [⟨t, i, ifs, 0⟩, ⟨t1, i1, ifs1, 0⟩] scope pos) te ∧ ∀ (j : Nat) (y : Str) (py spos : Pos), Γ.m.N[j]? = some y → L.sc.names.lookup y = some .local → swapsWith (.ListComp x [⟨t, i, ifs, 0⟩, ⟨t1, i1, ifs1, 0⟩] scope pos) (some (.Name y py)) spos.line X.env = pure true →
        PS X (.Assign [.Name y py] (.ListComp x [⟨t, i, ifs, 0⟩, ⟨t1, i1, ifs1, 0⟩] scope pos) spos) (tAsg te (gName j))) ∧
      ∀ σ H env st S φ Q, EI Γ.K S φ H σ env → SI Γ.K S φ H st → FinF Γ.K S φ H Q (evF Γ.cf Γ.gs (.cp2 elt tg it cond tg1 it1 cond1 vs vs1) env st) → te σ H Q := by
  obtain ⟨wi, pI, qI⟩ := hI
  obtain ⟨g, pG, qG⟩ := hG
  obtain ⟨tt, pC, qC⟩ := hC
  obtain ⟨wi1, pI1, qI1⟩ := hI1
  obtain ⟨g1, pG1, qG1⟩ := hG1
  obtain ⟨tt1, pC1, qC1⟩ := hC1
  obtain ⟨te, pE, qE⟩ := hE
  have hvo : ∀ j ∈ vs1, j ∈ (ownOf Γ.m.N vs).map (·.2) := fun j hj => by rw [hv]; exact hv1 j hj
  refine ⟨tLc2 wi g tt wi1 g1 tt1 te vs vs1, fun X gd => ⟨?_, fun j y py spos h1 h2 h3 => ?_⟩, fun σ H env st S φ Q E I f => ?_⟩
  · have := pe_lc2 (X := X) (pos := pos) (own := ownOf Γ.m.N vs) gd.calm (by rw [gd.N]; exact Γok.nd) (pI X gd) (blkOk_by (by rw [gd.N, gd.sc]; exact hb)) hvo (fun s H C cl fp => pG _ (gd.blk s H C cl fp)) (fun s H C cl fp => pC _ (gd.blk s H C cl fp))
      (fun s H C cl fp => pI1 _ (gd.blk s H C cl fp)) (fun s H C cl fp => pG1 _ (gd.blk s H C cl fp)) (fun s H C cl fp => pC1 _ (gd.blk s H C cl fp)) (fun s H C cl fp => pE _ (gd.blk s H C cl fp)) (hs _) hs1
    rw [hv] at this; exact this
  · have := ps_setLc2 (X := X) (pos := pos) (own := ownOf Γ.m.N vs) (i := j) gd.calm (by rw [gd.N]; exact Γok.nd) (by rw [gd.N]; exact h1) (by rw [gd.sc]; exact h2) h3 (pI X gd) (blkOk_by (by rw [gd.N, gd.sc]; exact hb)) hvo (fun s H C cl fp => pG _ (gd.blk s H C cl fp)) (fun s H C cl fp => pC _ (gd.blk s H C cl fp))
      (fun s H C cl fp => pI1 _ (gd.blk s H C cl fp)) (fun s H C cl fp => pG1 _ (gd.blk s H C cl fp)) (fun s H C cl fp => pC1 _ (gd.blk s H C cl fp)) (fun s H C cl fp => pE _ (gd.blk s H C cl fp)) (hs _) hs1
    rw [hv] at this; exact this
  · unfold evF at f
    obtain ⟨xs, s1, e1, f1⟩ := f.bind
    obtain ⟨ys, s2, e2, f2⟩ := f1.bind
    by_cases hz : ys.length ≤ LINE
    · rw [if_pos hz] at f2
      refine qI σ H env st S φ _ E I ?_
      rw [e1]
      intro J H1 S1 φ1 x1 I1 J1 Dl hD
      obtain ⟨nS, nφ⟩ := I1.fresh hD
      have A0 : AR Γ.K Dl S1 φ1 H1 S1 φ1 (L2.upd H1 Dl (.lst [])) s1 [] := ⟨.upd, I1.alloc0 hD, nS, nφ, [], upd_same, .nil⟩
      have E1 := E.mono x1 I
      refine comp_loop I1 nS J1 (.inl hD) A0 e2 (by simpa using hz) (fun d S3 φ3 H3 st3 db zs st' hd A ef hz3 v rv Nx hN => ?_) fun S3 φ3 H3 A => ?_
      · cases eb : bindT tg d (wipeE (noOwn env) vs) with
        | none => rw [eb] at ef; cases ef
        | some env1 =>
          simp only [eb] at ef
          have n1 := NoOwn.bind ((noOwn_no env).wipe vs) eb
          have E3 : EI Γ.K S3 φ3 H3 (wipe σ vs) (wipeE (noOwn env) vs) := ((E1.no).wipe (noOwn_no env) vs).monoD ((noOwn_no env).wipe vs) A.stp I1 nS
          refine qG v d _ H3 _ env1 S3 φ3 st3 _ E3 A.si rv eb fun σ' hw E4 => ⟨?_, ?_⟩
          · rw [hw.1 vs ht, wipe_idem fun _ h => h]
          · refine qC σ' H3 env1 st3 S3 φ3 _ E4 A.si ?_
            cases ec : evC Γ.cf Γ.gs cond env1 st3 with
            | err => rw [ec] at ef; cases ef
            | ok tb s4 =>
              simp only [ec, Out.bind] at ef
              intro H5 S5 φ5 x5 I5
              have A5 := A.go x5 I5
              have E5 := E4.mono x5 A.si
              cases tb with
              | false =>
                rw [if_neg Bool.false_ne_true] at ef ⊢
                cases ef
                rw [List.append_nil] at hN
                exact hN S5 φ5 H5 A5
              | true =>
                rw [if_pos rfl] at ef ⊢
                refine qI1 σ' H5 env1 s4 S5 φ5 _ E5 I5 ?_
                cases ei : evI Γ.cf Γ.gs false it1 env1 s4 with
                | err => rw [ei] at ef; cases ef
                | ok ws s6 =>
                  rw [ei] at ef
                  intro J2 H6 S6 φ6 x6 I6 JJ
                  have A6 := A5.go x6 I6
                  have E6 := E5.mono x6 I5
                  refine comp_loop (da := db) I6 A6.ns JJ (.inr rfl) A6.base ef hz3 (fun d2 S7 φ7 H7 st7 db2 zs2 st7' hd2 A7 ef2 hz7 v2 rv2 Nx2 hN2 => ?_) fun S7 φ7 H7 A7 => ?_
                  · cases eb2 : bindT tg1 d2 (wipeE env1 vs1) with
                    | none => rw [eb2] at ef2; cases ef2
                    | some env2 =>
                      simp only [eb2] at ef2
                      have E7 : EI Γ.K S7 φ7 H7 (wipe σ' vs1) (wipeE env1 vs1) := (E6.wipe n1 vs1).monoD (n1.wipe vs1) A7.stp I6 A6.ns
                      refine qG1 v2 d2 _ H7 _ env2 S7 φ7 st7 _ E7 A7.si rv2 eb2 fun σ2 hw2 E8 => ⟨?_, ?_⟩
                      · rw [hw2.1 vs1 ht1, wipe_idem fun _ h => h]
                      · exact elt_turn (fun H st S φ Q => qC1 σ2 H env2 st S φ Q) (fun H st S φ Q => qE σ2 H env2 st S φ Q) E8 A7 hz7 ef2 hN2
                  · exact hN S7 φ7 H7 (A7.over (A6.stp))
      · obtain ⟨acc, h, r⟩ := A.acc
        rw [List.nil_append] at r
        exact f2 Dl acc H3 S3 φ3 (x1.trans (A.stp.to hD)) A.si (x1.free hD) A.ns A.nφ h r
    · rw [if_neg hz] at f2; exact False.elim f2
end
end PV
set_option maxRecDepth 100000
set_option maxHeartbeats 4000000
/-! An attribute as a target (HandS has it as a whole statement alone). -/
namespace PV
open PySem PySem.Spec PyProof.Rows L2
def gFld (K : PySem.W.Frag) (ta : TE) (f : Str) : TG := fun v σ H Q => ta σ H fun x H2 => ∃ a C dx fs, x = .ref a ∧ H2 a = some (.ins C dx fs) ∧ Cls K C ∧ NoAttr K C f ∧ fs.length < 1000 ∧ Q σ (upd H2 a (.ins C dx (putF f v fs)))
section
variable {X : Cx} {o : Expr} {f : Str} {pos : Pos} {ta : TE}
theorem pg_fld (ha : PE X o ta) (he : ∀ v, assign (.Attribute o f pos) X.env v = (do
    let ov ← holding [v] (eval o X.env)
    standAt pos.atName
    holding [v, ov] (setAttr ov f v)
    release [v, ov] []) := by intro _; rfl) : PG X (.Attribute o f pos) (gFld X.K ta f) := by
  refine ⟨fun pins s σ H v u Q I r h => ?_⟩
  rw [he]
  refine wpAny_bind (wpAny_holding (thn (ha.run pins s σ H _ I h) fun ov s1 ⟨x, H1, I1, r1, a, C, dx, fs, ex, ea, c, n, l, q⟩ => ?_))
  subst ex
  obtain rfl : ov = Value.ref a := r1
  refine wpAny_bind (wpAny_standAt (wpAny_bind (wpAny_holding (setattr_ok I1 ea c n l r fun s2 I2 => ?_))))
  exact wpAny_release ⟨σ, _, I2, q⟩
end
end PV
set_option maxRecDepth 100000
set_option maxHeartbeats 4000000
/-! Attributes, methods, instances. -/
namespace PV
open PySem PySem.Spec PyProof.Rows L2
theorem flds_get {K : PySem.W.Frag} {S : Addr → Prop} {φ : List Addr} {H : Hp} {f : Str} {d : D} : ∀ {us : List (Str × V)} {fs : List (Str × D)}, us.map (·.1) = fs.map (·.1) → RepL K S φ H (us.map (·.2)) (fs.map (·.2)) → fs.lookup f = some d → ∃ v, us.lookup f = some v ∧ Rep K S φ H v d
  | [], [], _, _, h => by cases h
  | [], _ :: _, e, _, _ => by cases e
  | _ :: _, [], e, _, _ => by cases e
  | (g, v) :: us, (g', d') :: fs, e, r, h => by
    simp only [List.map_cons, List.cons.injEq] at e
    obtain ⟨e1, e2⟩ := e
    subst e1
    cases r with
    | cons r1 r2 =>
      rw [List.lookup_cons] at h ⊢
      cases q : f == g with
      | true => rw [q] at h; cases h; exact ⟨v, rfl, r1⟩
      | false => rw [q] at h; exact flds_get e2 r2 h
theorem flds_none {f : Str} : ∀ {us : List (Str × V)} {fs : List (Str × D)}, us.map (·.1) = fs.map (·.1) → fs.lookup f = none → us.lookup f = none
  | [], [], _, _ => rfl
  | [], _ :: _, e, _ => by cases e
  | _ :: _, [], e, _ => by cases e
  | (g, v) :: us, (g', d') :: fs, e, h => by
    simp only [List.map_cons, List.cons.injEq] at e
    obtain ⟨e1, e2⟩ := e
    subst e1
    rw [List.lookup_cons] at h ⊢
    cases q : f == g with
    | true => rw [q] at h; cases h
    | false => rw [q] at h; exact flds_none e2 h
theorem lookup_mem {α : Type} {f : Str} {d : α} : ∀ {fs : List (Str × α)}, fs.lookup f = some d → (f, d) ∈ fs
  | [], h => by cases h
  | (g, e) :: fs, h => by
    rw [List.lookup_cons] at h
    cases q : f == g with
    | true => rw [q] at h; cases h; rw [eq_of_beq q]; exact List.mem_cons_self
    | false => rw [q] at h; exact List.mem_cons_of_mem _ (lookup_mem h)
section
variable {Γ : Ctx} {L : LC} {o : Bool} {e a : Expr}
theorem RepM.locv {K : PySem.W.Frag} {S : Addr → Prop} {φ : List Addr} {H : Hp} {v : V} {n : Nat} (h : RepM o K S φ H v (.loc n)) : ∃ a, v = .ref a ∧ φ[n]? = some a := by
  rcases h with h | ⟨_, _, _, _, _, e, _⟩
  · cases h with
    | loc h => exact ⟨_, rfl, h⟩
  · cases e
theorem nameBase (h : isNameE a = true) (f : Str) (env : PySem.Env) : attributeBase a f env (eval a env) = eval a env := by
  cases a <;> first | rfl | cases h
theorem se_fld {ca : Ex} {f : Str} {pos : Pos} {cf gs} (hn : isNameE a = true) (h : SE Γ L true a (ev cf gs true ca)) : SE Γ L o (.Attribute a f pos) (ev cf gs o (.fld ca f)) := by
  obtain ⟨t, p, q⟩ := h
  refine ⟨tFld Γ.K t f, fun X g => by rw [← g.K]; exact pe_fld (p X g) (nameBase hn _ _), fun σ H env st S φ Q E I fn => ?_⟩
  unfold ev at fn
  obtain ⟨d, s1, e1, f1⟩ := fn.bind
  refine SE.use q E I e1 fun v H1 S1 φ1 x1 E1 I1 r1 => ?_
  cases d with
  | loc n =>
    obtain ⟨ad, rfl, hφ⟩ := r1.locv
    simp only at f1
    split at f1
    · rename_i x fs hs
      obtain ⟨dx, us, g1, g2, g3, g4, g5⟩ := I1.obj n ad (.obj x fs) hφ hs
      obtain ⟨d', ed, f2⟩ := f1.lift
      obtain ⟨v', hv, rv⟩ := flds_get g2 g3 ed
      exact ⟨ad, _, dx, us, v', rfl, g1, g4, g5 (f, d') (lookup_mem ed), hv, f2 v' H1 S1 φ1 x1 I1 (.inl rv)⟩
    · exact False.elim f1
  | _ => exact False.elim f1
theorem pd_rep {K : PySem.W.Frag} {S : Addr → Prop} {φ : List Addr} {H : Hp} : ∀ {vs : List V} {ds : List D}, Paired (RepM false K S φ H) vs ds → RepL K S φ H vs ds
  | _, _, .nil => .nil
  | _, _, .cons h t => .cons h.val (pd_rep t)
/-- the form of a method's call, where the arguments are plain and few -/
theorem mth_form {id : Str} {ip apos pos : Pos} {m : Str} {es : List Expr} {env : PySem.Env} (hl : (apos.endLine == pos.line) = true) (hf : methodCallForm es.length (backTo pos (starEach es env)) (backToKw pos (keywordEach [] env)) = true) :
    eval (.Call (.Attribute (.Name id ip) m apos) es [] pos) env = (do
      let ov ← eval (.Name id ip) env
      standAt apos.atName
      let (f, first) ← holding [ov] (getMethod ov m (do return (← importBound (.Name id ip) env).getD true))
      callWith pos f first (backTo pos (starEach es env)) (backToKw pos (keywordEach [] env))) := by
  have e : eval (.Call (.Attribute (.Name id ip) m apos) es [] pos) env = (do
    let ov ← eval (.Name id ip) env
    standAt apos.atName
    methodCall (.Name id ip) m apos pos env ov (es.length + 0) (backTo pos (starEach es env)) (backToKw pos (keywordEach [] env))) := rfl
  rw [e]
  unfold methodCall
  rw [Nat.add_zero, hf]
  unfold methodCallPos calleeOf
  simp [hl]
/-- o.m(..) of an instance -/
theorem se_mth (Γok : CtxOk Γ) {ca : Ex} {x m : Str} {k : Nat} {cs : Exs} {es : List Expr} {apos pos : Pos} (hn : isNameE a = true) (hm : (x, m, k, es.length) ∈ Γ.m.ms) (hl : (apos.endLine == pos.line) = true) (hlen : es.length < 30) (hne : es ≠ [])
    (hst : ∀ y ∈ es, ∀ env r, starEach (y :: r) env = (false, eval y env) :: starEach r env) (h1 : SE Γ L true a (ev Γ.cf Γ.gs true ca)) (h2 : SL Γ L false es (evL Γ.cf Γ.gs false cs)) :
    SE Γ L o (.Call (.Attribute a m apos) es [] pos) (ev Γ.cf Γ.gs o (.mth x ca m k cs)) := by
  obtain ⟨t1, p1, q1⟩ := h1
  obtain ⟨t2, p2, q2⟩ := h2
  obtain ⟨fa, fd, ps, c1, c2, c3, c4⟩ := Γok.ms x m k _ hm
  refine ⟨tMeth (He.ga Γ.K x) m (spF Γ.K Γ.cf k) [] E0 t1 t2, fun X g => ?_, fun σ H env st S φ Q E I f => ?_⟩
  · have F : FnOk X.prog X.w X.K X.mg X.base (L2.CX X.prog X.w) Γ.k fa fd ps (spF Γ.K Γ.cf k) := by rw [g.prog, g.w, g.K, g.mg, g.base]; exact c4
    have pa := p2 X g
    have hc : Cls X.K (He.ga Γ.K x) := by rw [g.K]; exact c1
    have hme : Meth X.K (He.ga Γ.K x) m fa := by rw [g.K]; exact c2
    have hb : Binds X.K fd ps [] := by rw [g.K]; exact c3
    have po := p1 X g
    have hf : methodCallForm es.length (backTo pos (starEach es X.env)) (backToKw pos (keywordEach [] X.env)) = true := by
      have h1 : (backTo pos (starEach es X.env)).all (fun x => !x.1) = true := by
        have := star_plain (e := a) (es := es) (env := X.env) (pos := pos) hst
        rw [List.all_eq_not_any_not]
        simpa using this
      unfold methodCallForm
      rw [h1]
      simp only [Bool.true_and]
      show (true && decide (es.length + 0 < 30)) = true
      simp; omega
    cases a with
    | Name id ip =>
      cases es with
      | nil => exact absurd rfl hne
      | cons y ys =>
        exact pe_meth po hc hme F (g.room.mono (Nat.le_succ _)) hb .nil passL pa (hst y List.mem_cons_self _ _) (star_plain (e := y) fun z hz => hst z (List.mem_cons_of_mem _ hz)) (mth_form hl hf)
    | _ => cases hn
  · unfold ev at f
    obtain ⟨d, s1, e1, f1⟩ := f.bind
    refine SE.use q1 E I e1 fun v H1 S1 φ1 x1 E1 I1 r1 => ?_
    cases d with
    | loc n =>
      obtain ⟨ad, rfl, hφ⟩ := r1.locv
      simp only at f1
      split at f1
      · rename_i x' fs hs
        split at f1
        · rename_i hx
          obtain ⟨rfl, hno⟩ := hx
          obtain ⟨dx, us, g1, g2, g3, g4, g5⟩ := I1.obj n ad (.obj x' fs) hφ hs
          obtain ⟨ds, s2, e2, f2⟩ := f1.bind
          refine ⟨ad, dx, us, rfl, g1, flds_none g2 (by simpa using hno), ?_⟩
          refine q2 σ H1 env s1 S1 φ1 _ E1 I1 ?_
          rw [e2]
          intro vs H2 S2 φ2 x2 I2 r2
          rw [List.append_nil]
          refine ⟨S2, φ2, s2, .loc n :: ds, I2, .cons (.loc ?_) (pd_rep r2), .inl ?_⟩
          · obtain ⟨ψ, eψ, _⟩ := x2.phi
            rw [eψ, List.getElem?_append_left (List.getElem?_eq_some_iff.mp hφ).1]; exact hφ
          · cases e3 : Γ.cf k (.loc n :: ds) s2 with
            | err => rw [e3] at f2; exact f2
            | ok d s3 => rw [e3] at f2; exact fun v H' S' φ' x3 I' r' => f2 v H' S' φ' ((x1.trans x2).trans x3) I' (.inl r'.val)
        · exact False.elim f1
      · exact False.elim f1
    | _ => exact False.elim f1
theorem se_mth0 (Γok : CtxOk Γ) {ca : Ex} {x m : Str} {k : Nat} {apos pos : Pos} (hn : isNameE a = true) (hm : (x, m, k, 0) ∈ Γ.m.ms) (hl : (apos.endLine == pos.line) = true) (h1 : SE Γ L true a (ev Γ.cf Γ.gs true ca)) :
    SE Γ L o (.Call (.Attribute a m apos) [] [] pos) (ev Γ.cf Γ.gs o (.mth x ca m k .nil)) := by
  obtain ⟨t1, p1, q1⟩ := h1
  obtain ⟨fa, fd, ps, c1, c2, c3, c4⟩ := Γok.ms x m k _ hm
  refine ⟨tMeth (He.ga Γ.K x) m (spF Γ.K Γ.cf k) [] E0 t1 tNil, fun X g => ?_, fun σ H env st S φ Q E I f => ?_⟩
  · have F : FnOk X.prog X.w X.K X.mg X.base (L2.CX X.prog X.w) Γ.k fa fd ps (spF Γ.K Γ.cf k) := by rw [g.prog, g.w, g.K, g.mg, g.base]; exact c4
    have hc : Cls X.K (He.ga Γ.K x) := by rw [g.K]; exact c1
    have hme : Meth X.K (He.ga Γ.K x) m fa := by rw [g.K]; exact c2
    have hb : Binds X.K fd ps [] := by rw [g.K]; exact c3
    have po := p1 X g
    cases a with
    | Name id ip => exact pe_meth0 po hc hme F (g.room.mono (Nat.le_succ _)) hb .nil passL (mth_form hl rfl)
    | _ => cases hn
  · unfold ev at f
    obtain ⟨d, s1, e1, f1⟩ := f.bind
    refine SE.use q1 E I e1 fun v H1 S1 φ1 x1 E1 I1 r1 => ?_
    cases d with
    | loc n =>
      obtain ⟨ad, rfl, hφ⟩ := r1.locv
      simp only at f1
      split at f1
      · rename_i x' fs hs
        split at f1
        · rename_i hx
          obtain ⟨rfl, hno⟩ := hx
          obtain ⟨dx, us, g1, g2, g3, g4, g5⟩ := I1.obj n ad (.obj x' fs) hφ hs
          unfold evL at f1
          refine ⟨ad, dx, us, rfl, g1, flds_none g2 (by simpa using hno), ?_⟩
          refine ⟨S1, φ1, s1, [.loc n], I1, .cons (.loc hφ) .nil, .inl ?_⟩
          have f2 : FinE Γ.K o S φ H Q (Γ.cf k [.loc n] s1) := f1
          cases e3 : Γ.cf k [.loc n] s1 with
          | err => rw [e3] at f2; exact f2
          | ok d s3 => rw [e3] at f2; exact fun v H' S' φ' x3 I' r' => f2 v H' S' φ' (x1.trans x3) I' (.inl r'.val)
        · exact False.elim f1
      · exact False.elim f1
    | _ => exact False.elim f1
/-- C(..) -/
theorem se_new (Γok : CtxOk Γ) {x : Str} {k : Nat} {cs : Exs} {es : List Expr} {p pos : Pos} (hm : (x, k, es.length + 1) ∈ Γ.m.cl) (hg : glB L.sc x = true) (hk : okN x = true)
    (hst : ∀ y ∈ e :: es, ∀ env r, starEach (y :: r) env = (false, eval y env) :: starEach r env) (h2 : SL Γ L false (e :: es) (evL Γ.cf Γ.gs false cs)) :
    SE Γ L o (.Call (.Name x p) (e :: es) [] pos) (ev Γ.cf Γ.gs o (.new x k cs)) := by
  obtain ⟨t2, p2, q2⟩ := h2
  obtain ⟨c0, c1, fa, fd, ps, c2, c3, c4⟩ := Γok.cl x k _ hm
  obtain ⟨n1, n2, n3⟩ := okN_of hk
  refine ⟨tMake (He.ga Γ.K x) (spF Γ.K Γ.cf k) [] E0 t2, fun X g => ?_, fun σ H env st S φ Q E I f => ?_⟩
  · have F : FnOk X.prog X.w X.K X.mg X.base (L2.CX X.prog X.w) Γ.k fa fd ps (spF Γ.K Γ.cf k) := by rw [g.prog, g.w, g.K, g.mg, g.base]; exact c4
    exact pe_make (by rw [g.K]; exact c2) F g.room (g.gl hg) (by rw [g.mg]; exact c0) (by rw [g.K]; exact c3) .nil passL (p2 X g) n1 (hst e List.mem_cons_self _ _) (star_plain (e := e) fun z hz => hst z (List.mem_cons_of_mem _ hz))
  · unfold ev at f
    obtain ⟨ds, s1, e1, f1⟩ := f.bind
    refine q2 σ H env st S φ _ E I ?_
    rw [e1]
    intro vs H1 S1 φ1 x1 I1 r1 ad dx hx hdx hne
    rw [List.append_nil]
    have hx' : upd H1 dx (.own ad) ad = none := by rw [upd_ne (Ne.symm hne)]; exact hx
    have J1 := I1.alloc0 (o := .own ad) hdx
    have J2 := J1.alloc0 (o := .ins (He.ga Γ.K x) dx []) hx'
    have y1 : Stp S1 φ1 H1 S1 φ1 (upd (upd H1 dx (.own ad)) ad (.ins (He.ga Γ.K x) dx [])) := (Stp.alloc0 hdx).trans (Stp.alloc0 hx')
    obtain ⟨f1S, f1φ⟩ := I1.fresh hx
    have J3 := J2.moreO (o := .obj x []) f1S f1φ ⟨dx, [], upd_same, rfl, .nil, c1, fun q hq => by cases hq⟩
    have y2 : Stp S1 φ1 H1 S1 (φ1 ++ [ad]) (upd (upd H1 dx (.own ad)) ad (.ins (He.ga Γ.K x) dx [])) := y1.addP hx
    refine ⟨S1, φ1 ++ [ad], s1 ++ [.obj x []], .loc s1.length :: ds, J3, .cons (.loc ?_) ((pd_rep r1).mono y2 I1), .inl ?_⟩
    · rw [← I1.len, List.getElem?_append_right (Nat.le_refl _)]; simp
    · obtain ⟨r, s2, e2, f2⟩ := f1.bind
      rw [e2]
      cases r with
      | non =>
        intro v H2 S2 φ2 x2 I2 r2
        refine ⟨r2.rd0.non, f2 (.ref ad) H2 S2 φ2 ((x1.trans y2).trans x2) I2 (.inl (.loc ?_))⟩
        obtain ⟨ψ, eψ, _⟩ := x2.phi
        rw [eψ, List.getElem?_append_left (by rw [← I1.len]; simp), ← I1.len, List.getElem?_append_right (Nat.le_refl _)]; simp
      | _ => exact False.elim f2
end
end PV
set_option maxRecDepth 100000
set_option maxHeartbeats 4000000
/-! All expressions. -/
namespace PV
open PySem PySem.Spec PyProof.Rows L2
section
variable {K : PySem.W.Frag} {S : Addr → Prop} {φ : List Addr} {H : Hp} {st : Sto} {a : Addr} {n : Nat} {vs : List V} {ds : List D}
/-- an object of the store changes -/
theorem Stp.chg {o : HO} (h : a ∈ φ) : Stp S φ H S φ (L2.upd H a o) :=
  ⟨fun b o' e n => by rw [L2.upd_ne (fun q : b = a => n (by rw [q]; exact h))]; exact e, fun b e => by
    by_cases q : b = a
    · rw [q, L2.upd_same]; simp
    · rw [L2.upd_ne q]; exact e, fun _ h => h, fun _ h => .inl h, [], by simp⟩
theorem SI.chgO {ho : HO} {o : SO} (I : SI K S φ H st) (h : φ[n]? = some a) (r : ORep K S φ (L2.upd H a ho) a o) : SI K S φ (L2.upd H a ho) (st.set n o) := by
  have ha : a ∈ φ := List.mem_of_getElem? h
  refine ⟨fun b hb => ?_, I.dis, by simp [I.len], I.nd, fun m b es e1 e2 => ?_⟩
  · by_cases q : b = a
    · rw [q, L2.upd_same]; simp
    · rw [L2.upd_ne q]; exact I.dom b hb
  · by_cases q : n = m
    · subst q
      rw [h] at e1; cases e1
      have hn : n < st.length := by rw [← I.len]; exact (List.getElem?_eq_some_iff.mp h).1
      rw [List.getElem?_set_self hn] at e2; cases e2
      exact r
    · rw [List.getElem?_set_ne q] at e2
      have hne : b ≠ a := fun e => q (nd_ix I.nd h (e ▸ e1))
      exact (I.obj m b es e1 e2).tr (fun b hb => L2.upd_ne (fun e => I.dis a ha (by rw [← e]; exact hb))) (fun _ q => q) ⟨[], by simp⟩ (L2.upd_ne hne)
theorem SI.chg (I : SI K S φ H st) (h : φ[n]? = some a) (r : RepL K S φ H vs ds) : SI K S φ (L2.upd H a (.lst vs)) (st.set n (.lst ds)) :=
  I.chgO h (o := .lst ds) ⟨vs, L2.upd_same, r.tr (fun b hb => L2.upd_ne (fun e => I.dis a (List.mem_of_getElem? h) (by rw [← e]; exact hb))) (fun _ q => q) ⟨[], by simp⟩⟩
end
section
variable {Γ : Ctx} {L : LC} {o : Bool} {e a b : Expr}
theorem folded_of {m : MC} {c : Src} {sc : Scope} {t i : Expr} (h : mI m c sc t i = true) : ∀ env v, foldedSetIterable i env v = pure v := fun env v => by
  cases i with
  | Set xs k p =>
    exfalso
    cases c with
    | seq c =>
      unfold mI at h
      cases c with
      | fz f => unfold mE at h; cases f <;> simp [mF] at h
      | alloc f => unfold mE at h; cases f <;> simp [mF] at h
      | _ => simp [mE] at h
    | _ => simp [mI] at h
  | _ => rfl
/-- the arguments of pop -/
theorem isL_get {s : Sto} {n : Nat} (h : isL s n = true) : ∃ ds, s[n]? = some (.lst ds) := by
  unfold isL at h
  split at h
  · exact ⟨_, by assumption⟩
  · cases h
theorem se_popL (Γok : CtxOk Γ) {i : Nat} {oe : OEx} {x : Str} {xs : List Expr} {p apos cpos : Pos} {cf gs} (h1 : Γ.m.N[i]? = some x) (h2 : visB L.sc x = true) (h3 : okN x = true) (hl : (apos.endLine == cpos.line) = true)
    (ha : (xs = [] ∧ oe = .n) ∨ ∃ y c, xs = [y] ∧ oe = .s c ∧ (∀ env r, starEach (y :: r) env = (false, eval y env) :: starEach r env) ∧ SE Γ L true y (ev cf gs true c)) :
    SE Γ L o (.Call (.Attribute (.Name x p) ("pop" : Str) apos) xs [] cpos) (ev cf gs o (.popL i oe)) := by
  obtain ⟨n1, n2, _⟩ := okN_of h3
  have pvar : ∀ X, Good Γ L X → PE X (.Name x p) (tVar i) := fun X g => pe_var (by rw [g.N]; exact h1) (by rw [g.sc]; exact vis_of h2) n1 n2
  rcases ha with ⟨rfl, rfl⟩ | ⟨y, c, rfl, rfl, hst, t, p1, q1⟩
  · refine ⟨tBM0 Γ.K "list" rPop (tVar i), fun X g => by
      rw [← g.K]
      exact pe_bm0 PySem.F.plainAttrs_list PySem.F.slot_list_pop PySem.F.type_list_pop mt_pop (pvar X g) rfl hl, fun σ H env st S φ Q E I f => ?_⟩
    unfold ev at f
    split at f
    · rename_i n he
      by_cases hL : isL st n = true
      rotate_left
      · rw [if_pos (by simpa using hL)] at f; exact False.elim f
      rw [if_neg (by simp [hL])] at f
      simp only [evO, Out.bind] at f
      obtain ⟨v, e1, r⟩ := E.val i _ he
      cases r with
      | @loc a n hφ =>
        split at f
        · rename_i ds hs
          obtain ⟨vs, hv, rv⟩ := I.obj n a (.lst ds) hφ hs
          split at f
          · rename_i d hd
            obtain ⟨w, hw, rw'⟩ := rv.get hd
            have hm : a ∈ φ := List.mem_of_getElem? hφ
            have I2 := I.chg hφ rv.dropLast
            refine ⟨_, e1, .inl ⟨rfl, vs, .inl (.inl hv)⟩, a, vs, w, rfl, rfl, hv, by rw [rv.length]; exact hw, ?_⟩
            exact f w _ S φ (Stp.chg hm) I2 (.inl (rw'.tr (fun b hb => upd_ne (fun e => I.dis a hm (by rw [← e]; exact hb))) (fun _ q => q) ⟨[], by simp⟩))
          · exact False.elim f
        · exact False.elim f
    · exact False.elim f
  · refine ⟨tBM Γ.K "list" rPopAt (tVar i) (tCons t tNil), fun X g => by
      rw [← g.K]
      exact pe_bm PySem.F.plainAttrs_list PySem.F.slot_list_pop PySem.F.type_list_pop mt_popAt (pvar X g) (pa_cons (p1 X g) pa_nil (hst _ _)) rfl (by rw [hst]; rfl) hl (hst _ _) rfl, fun σ H env st S φ Q E I f => ?_⟩
    unfold ev at f
    split at f
    · rename_i n he
      by_cases hL : isL st n = true
      rotate_left
      · rw [if_pos (by simpa using hL)] at f; exact False.elim f
      rw [if_neg (by simp [hL])] at f
      obtain ⟨v, e1, r⟩ := E.val i _ he
      obtain ⟨ko, s1, ek, f1⟩ := f.bind
      unfold evO at ek
      cases e2 : ev cf gs true c env st with
      | err => rw [e2] at ek; cases ek
      | ok dk s2 =>
        simp only [e2, Out.bind] at ek
        cases r with
        | @loc a n hφ =>
          obtain ⟨ds0, hs0⟩ := isL_get hL
          obtain ⟨vs0, hv0, rv0⟩ := I.obj n a (.lst ds0) hφ hs0
          refine ⟨_, e1, .inl ⟨rfl, vs0, .inl (.inl hv0)⟩, ?_⟩
          refine SE.use q1 E I e2 fun w H1 S1 φ1 x1 E1 I1 r1 => ?_
          split at ek
          · rename_i k
            cases ek
            have ew := r1.rd0.int
            subst ew
            simp only at f1
            have hφ1 : φ1[n]? = some a := by
              obtain ⟨ψ, e, _⟩ := x1.phi
              rw [e, List.getElem?_append_left (List.getElem?_eq_some_iff.mp hφ).1]; exact hφ
            split at f1
            · rename_i ds hs
              obtain ⟨vs, hv, rv⟩ := I1.obj n a (.lst ds) hφ1 hs
              by_cases hk : -9223372036854775808 ≤ k ∧ k < 9223372036854775808
              rotate_left
              · rw [if_neg hk] at f1; exact False.elim f1
              rw [if_pos hk] at f1
              split at f1
              · rename_i j hj
                split at f1
                · rename_i d hd
                  obtain ⟨z, hw, rw'⟩ := rv.get hd
                  have hm : a ∈ φ1 := List.mem_of_getElem? hφ1
                  have I2 := I1.chg hφ1 (rv.eraseIdx j)
                  obtain ⟨q1, q2, q3, q4⟩ := ixN_seq hj
                  refine ⟨a, vs, k, j, z, rfl, rfl, hv, hk.1, hk.2, by rw [rv.length]; exact q1, hw, ?_⟩
                  exact f1 z _ S1 φ1 (x1.trans (Stp.chg hm)) I2 (.inl (rw'.tr (fun b hb => upd_ne (fun e => I1.dis a hm (by rw [← e]; exact hb))) (fun _ q => q) ⟨[], by simp⟩))
                · exact False.elim f1
              · exact False.elim f1
            · exact False.elim f1
          · cases ek
    · exact False.elim f

theorem se1_of {c : Ex} (ht : SE Γ L true e (ev Γ.cf Γ.gs true c)) (hf : SE Γ L false e (ev Γ.cf Γ.gs false c)) (h : mE Γ.m c L.sc e = true) : SE1 Γ L e c Γ.cf Γ.gs := by
  have plain : ev Γ.cf Γ.gs true c = ev Γ.cf Γ.gs false c → SE1 Γ L e c Γ.cf Γ.gs := fun he => by
    obtain ⟨t, p, q⟩ := hf
    refine ⟨t, p, fun σ H env st S φ Q E I f => q σ H env st S φ Q E I ?_⟩
    rw [he] at f
    cases e1 : ev Γ.cf Γ.gs false c env st with
    | err => rw [e1] at f; exact f
    | ok d s1 => rw [e1] at f; exact fun v H' S' φ' x I' r => f v H' S' φ' x I' (.inl r.val) fun _ => r.val
  cases c with
  | var i =>
    unfold mE at h
    split at h
    · rename_i x pos
      simp only [Bool.and_eq_true, decide_eq_true_eq] at h
      obtain ⟨⟨h1, h2⟩, h3⟩ := h
      obtain ⟨n1, n2, _⟩ := okN_of h3
      refine ⟨tVar i, fun X g => pe_var (by rw [g.N]; exact h1) (by rw [g.sc]; exact vis_of h2) n1 n2, fun σ H env st S φ Q E I f => ?_⟩
      unfold ev at f
      cases he : env[i]? with
      | none => rw [he] at f; exact False.elim f
      | some sv =>
        cases sv with
        | none => rw [he] at f; exact False.elim f
        | some sv =>
          cases sv with
          | val d =>
            rw [he] at f
            obtain ⟨v, e1, r⟩ := E.val i d he
            exact ⟨v, e1, f v H S φ .refl I (.inl r) fun _ => r⟩
          | own ds =>
            rw [he] at f
            obtain ⟨a, vs, e1, e2, _, e4, r⟩ := E.own i ds he
            refine ⟨_, e1, f _ H S φ .refl I (.inr ⟨rfl, a, vs, ds, rfl, rfl, e4, e2, r⟩) fun hb => ?_⟩
            simp [isOwn, he] at hb
    · cases h
  | bop and es =>
    obtain ⟨t, p, q⟩ := ht
    refine ⟨t, p, fun σ H env st S φ Q E I f => q σ H env st S φ Q E I ?_⟩
    cases e1 : ev Γ.cf Γ.gs true (.bop and es) env st with
    | err => rw [e1] at f; exact f
    | ok d s1 => rw [e1] at f; exact fun v H' S' φ' x I' r => f v H' S' φ' x I' r fun hb => by simp [isOwn] at hb
  | _ => exact plain (by funext env s; simp only [ev])
mutual
theorem sE (Γok : CtxOk Γ) : ∀ (c : Ex) (L : LC) (o : Bool) (e : Expr), mE Γ.m c L.sc e = true → SE Γ L o e (ev Γ.cf Γ.gs o c)
  | .var i, L, o, e, h => se_var _ _ h
  | .int i, L, o, e, h => by
    unfold mE at h
    split at h
    · cases of_decide_eq_true h
      exact se_const (d := .int i) (fun X => pe_int) (fun _ _ => by unfold ev; rfl) fun _ _ _ _ => .int i
    · cases h
  | .str x, L, o, e, h => by
    unfold mE at h
    split at h
    · cases of_decide_eq_true h
      exact se_const (d := .str x) (fun X => pe_str) (fun _ _ => by unfold ev; rfl) fun _ _ _ _ => .str x
    · cases h
  | .bl b, L, o, e, h => by
    unfold mE at h
    split at h
    · cases of_decide_eq_true h
      exact se_const (d := .bl b) (fun X => pe_bl) (fun _ _ => by unfold ev; rfl) fun _ _ _ _ => .bl b
    · cases h
  | .non, L, o, e, h => by
    unfold mE at h
    split at h
    · exact se_const (d := .non) (fun X => pe_non) (fun _ _ => by unfold ev; rfl) fun _ _ _ _ => .non
    · cases h
  | .gl k, L, o, e, h => se_gl Γok h
  | .tup es, L, o, e, h => by
    unfold mE at h
    split at h
    · simp only [Bool.and_eq_true, decide_eq_true_eq] at h
      exact se_tup h.2 (sEs Γok es L false _ h.1)
    · cases h
  | .fz f, L, o, e, h => by
    unfold mE at h
    exact se_fz (sF Γok f L e h)
  | .alloc f, L, o, e, h => by
    unfold mE at h
    exact se_alloc (sF Γok f L e h)
  | .bin op a b, L, o, e, h => by
    unfold mE at h
    split at h
    · simp only [Bool.and_eq_true, decide_eq_true_eq] at h
      obtain ⟨⟨h1, h2⟩, h3⟩ := h
      subst h1
      exact se_bin (sE Γok a L true _ h2) (sE Γok b L true _ h3)
    · cases h
  | .neg a, L, o, e, h => by
    unfold mE at h
    split at h
    · exact se_neg (sE Γok a L true _ h)
    · cases h
  | .not a, L, o, e, h => by
    unfold mE at h
    split at h
    · exact se_not (sE Γok a L true _ h)
    · cases h
  | .cmp op a b, L, o, e, h => by
    unfold mE at h
    split at h
    · simp only [Bool.and_eq_true, decide_eq_true_eq] at h
      obtain ⟨⟨⟨h1, hm⟩, h2⟩, h3⟩ := h
      subst h1
      obtain ⟨t, p, q⟩ := sx_cmp (o := o) (op := op) (by simpa using hm) (sE Γok a L true _ h2) (sE Γok b L true _ h3)
      exact ⟨t, fun X g => (p X g).1, q⟩
    · cases h
  | .chn op op' a b c, L, o, e, h => by
    unfold mE at h
    split at h
    · simp only [Bool.and_eq_true, decide_eq_true_eq] at h
      obtain ⟨⟨⟨⟨⟨h1, h2⟩, hm⟩, h3⟩, h4⟩, h5⟩ := h
      subst h1 h2
      obtain ⟨t, p, q⟩ := sx_chn (o := o) (op := op) (op' := op') (by simpa using hm) (sE Γok a L true _ h3) (sE Γok b L true _ h4) (sE Γok c L true _ h5)
      exact ⟨t, fun X g => (p X g).1, q⟩
    · cases h
  | .bop and es, L, o, e, h => by
    unfold mE at h
    split at h
    · rename_i op xs pos
      simp only [Bool.and_eq_true, decide_eq_true_eq] at h
      obtain ⟨h1, h2⟩ := h
      subst h1
      have := sBop Γok and es L o xs pos h2
      rw [show ev Γ.cf Γ.gs o (.bop and es) = evB Γ.cf Γ.gs o and es by funext env s; simp only [ev]]
      exact this
    · cases h
  | .ite c a b, L, o, e, h => by
    unfold mE at h
    split at h
    · simp only [Bool.and_eq_true] at h
      obtain ⟨⟨⟨h1, h2⟩, h3⟩, h4⟩ := h
      exact se_ite (sT Γok c L _ h1 h2) (sE Γok a L false _ h3) (sE Γok b L false _ h4)
    · cases h
  | .idx a i, L, o, e, h => by
    unfold mE at h
    split at h
    · simp only [Bool.and_eq_true] at h
      exact se_idx (notSlice_of h.2) (sE Γok a L true _ h.1) (sE Γok i L true _ h.2)
    · cases h
  | .slc a lo hi, L, o, e, h => by
    unfold mE at h
    split at h
    · simp only [Bool.and_eq_true] at h
      exact se_slc (sE Γok a L true _ h.1.1) (sO Γok lo L _ h.1.2) (sO Γok hi L _ h.2)
    · cases h
  | .rev a, L, o, e, h => by
    unfold mE at h
    split at h
    · exact se_rev (sE Γok a L true _ h)
    · cases h
  | .up a, L, o, e, h => by
    unfold mE at h
    split at h
    · rename_i x g apos cpos
      simp only [Bool.and_eq_true, decide_eq_true_eq] at h
      obtain ⟨⟨⟨h1, h2⟩, h3⟩, h4⟩ := h
      subst h1
      cases x with
      | Name y p => exact se_up h2 (sE Γok a L true _ h4)
      | _ => cases h3
    · cases h
  | .call f .nil, L, o, e, h => by
    unfold mE at h
    split at h
    · rename_i x p xs pos
      simp only [Bool.and_eq_true, decide_eq_true_eq] at h
      obtain ⟨⟨⟨h1, h2⟩, h3⟩, h4⟩ := h
      cases xs with
      | nil => exact se_call0 Γok h1 h2 h3
      | cons y ys => simp [mEs] at h4
    · cases h
  | .call f (.c e1 es), L, o, e, h => by
    unfold mE at h
    split at h
    · rename_i x p xs pos
      simp only [Bool.and_eq_true, decide_eq_true_eq] at h
      obtain ⟨⟨⟨h1, h2⟩, h3⟩, h4⟩ := h
      refine se_call Γok ?_ h1 h2 h3 (stars_of h4) (sAs Γok (.c e1 es) L _ h4)
      intro z; subst z; simp [mEs] at h4
    · cases h
  | .blt b es, L, o, e, h => by
    unfold mE at h
    split at h
    · rename_i x p y ys pos
      simp only [Bool.and_eq_true, decide_eq_true_eq] at h
      obtain ⟨⟨⟨⟨h1, h2⟩, h3⟩, h4⟩, h5⟩ := h
      exact se_blt Γok h1 h2 h3 h4 (stars_of h5) (sEs Γok es L true _ h5)
    · cases h
  | .isi a t, L, o, e, h => by
    unfold mE at h
    split at h
    · rename_i x p y z pz pos
      simp only [Bool.and_eq_true, decide_eq_true_eq] at h
      obtain ⟨⟨⟨⟨⟨⟨⟨⟨h1, h2⟩, h3⟩, h4⟩, h5⟩, h6⟩, h7⟩, h8⟩, h9⟩ := h
      subst h1
      exact se_isi Γok h2 h3 h5 h6 h7 h8 (fun env r => star_of h9) (sE Γok a L true _ h9)
    · cases h
  | .popL i .n, L, o, e, h => by
    unfold mE at h
    split at h
    · rename_i x p a apos xs cpos
      simp only [Bool.and_eq_true, decide_eq_true_eq] at h
      obtain ⟨⟨⟨⟨⟨h1, h2⟩, h3⟩, h4⟩, h5⟩, h6⟩ := h
      subst h4
      refine se_popL Γok h1 h2 h3 h5 ?_
      cases xs with
      | nil => exact .inl ⟨rfl, rfl⟩
      | cons y ys =>
        cases ys with
        | nil => simp [mO] at h6
        | cons z zs => simp at h6
    · cases h
  | .popL i (.s c), L, o, e, h => by
    unfold mE at h
    split at h
    · rename_i x p a apos xs cpos
      simp only [Bool.and_eq_true, decide_eq_true_eq] at h
      obtain ⟨⟨⟨⟨⟨h1, h2⟩, h3⟩, h4⟩, h5⟩, h6⟩ := h
      subst h4
      refine se_popL Γok h1 h2 h3 h5 ?_
      cases xs with
      | nil => simp [mO] at h6
      | cons y ys =>
        cases ys with
        | nil =>
          have h7 : mE Γ.m c L.sc y = true := by simpa [mO] using h6
          exact .inr ⟨y, c, rfl, rfl, fun env r => star_of h7, sE Γok c L true _ h7⟩
        | cons z zs => simp at h6
    · cases h
  | .fld a f, L, o, e, h => by
    unfold mE at h
    split at h
    · simp only [Bool.and_eq_true, decide_eq_true_eq] at h
      obtain ⟨⟨h1, h2⟩, h3⟩ := h
      subst h1
      exact se_fld h2 (sE Γok a L true _ h3)
    · cases h
  | .mth x a f k es, L, o, e, h => by
    unfold mE at h
    split at h
    · rename_i ob g apos xs cpos
      simp only [Bool.and_eq_true, decide_eq_true_eq] at h
      obtain ⟨⟨⟨⟨⟨⟨h1, h2⟩, h3⟩, h4⟩, h5⟩, h6⟩, h7⟩ := h
      subst h1
      cases xs with
      | nil =>
        cases es with
        | nil => exact se_mth0 Γok h3 h2 h4 (sE Γok a L true _ h6)
        | c e es => simp [mEs] at h7
      | cons y ys => exact se_mth Γok h3 h2 h4 h5 (by simp) (stars_of h7) (sE Γok a L true _ h6) (sEs Γok es L false _ h7)
    · cases h
  | .new x k es, L, o, e, h => by
    unfold mE at h
    split at h
    · simp only [Bool.and_eq_true, decide_eq_true_eq] at h
      obtain ⟨⟨⟨⟨h1, h2⟩, h3⟩, h4⟩, h5⟩ := h
      subst h1
      exact se_new Γok h2 h3 h4 (stars_of h5) (sEs Γok es L false _ h5)
    · cases h
termination_by c => 2 * sizeOf c
decreasing_by all_goals first | (simp_wf; omega) | (simp_wf; done)
theorem sT (Γok : CtxOk Γ) : ∀ (c : Ex) (L : LC) (e : Expr), mE Γ.m c L.sc e = true → tstB c = true → ST Γ L e fun env s => (ev Γ.cf Γ.gs true c env s).bind fun d s => truthS s d
  | .var i, L, e, h, _ => by
    refine st_of ?_ (sE Γok (.var i) L true e h)
    unfold mE at h; split at h
    · exact fun _ _ => rfl
    · cases h
  | .int i, L, e, h, _ => by
    refine st_of ?_ (sE Γok (.int i) L true e h)
    unfold mE at h; split at h
    · exact fun _ _ => rfl
    · cases h
  | .str i, L, e, h, _ => by
    refine st_of ?_ (sE Γok (.str i) L true e h)
    unfold mE at h; split at h
    · exact fun _ _ => rfl
    · cases h
  | .bl i, L, e, h, _ => by
    refine st_of ?_ (sE Γok (.bl i) L true e h)
    unfold mE at h; split at h
    · exact fun _ _ => rfl
    · cases h
  | .non, L, e, h, _ => by
    refine st_of ?_ (sE Γok .non L true e h)
    unfold mE at h; split at h
    · exact fun _ _ => rfl
    · cases h
  | .gl k, L, e, h, _ => by
    refine st_of ?_ (sE Γok (.gl k) L true e h)
    unfold mE at h; split at h
    · exact fun _ _ => rfl
    · cases h
  | .tup es, L, e, h, t => by cases t
  | .fz f, L, e, h, t => by cases t
  | .alloc f, L, e, h, t => by cases t
  | .bin op a b, L, e, h, _ => by
    refine st_of ?_ (sE Γok (.bin op a b) L true e h)
    unfold mE at h; split at h
    · exact fun _ _ => rfl
    · cases h
  | .neg a, L, e, h, _ => by
    refine st_of ?_ (sE Γok (.neg a) L true e h)
    unfold mE at h; split at h
    · exact fun _ _ => rfl
    · cases h
  | .not a, L, e, h, t => by
    unfold mE at h
    split at h
    · exact st_not (sT Γok a L _ h t)
    · cases h
  | .cmp op a b, L, e, h, _ => by
    unfold mE at h
    split at h
    · simp only [Bool.and_eq_true, decide_eq_true_eq] at h
      obtain ⟨⟨⟨h1, hm⟩, h2⟩, h3⟩ := h
      subst h1
      obtain ⟨t, p, q⟩ := sx_cmp (o := true) (op := op) (by simpa using hm) (sE Γok a L true _ h2) (sE Γok b L true _ h3)
      exact ⟨tTest t, fun X g => (p X g).2, fun σ H env st S φ Q E I f => st_bl (fun _ _ _ _ h => ev_cmp_bl h) q E I f⟩
    · cases h
  | .chn op op' a b c, L, e, h, _ => by
    unfold mE at h
    split at h
    · simp only [Bool.and_eq_true, decide_eq_true_eq] at h
      obtain ⟨⟨⟨⟨⟨h1, h2⟩, hm⟩, h3⟩, h4⟩, h5⟩ := h
      subst h1 h2
      obtain ⟨t, p, q⟩ := sx_chn (o := true) (op := op) (op' := op') (by simpa using hm) (sE Γok a L true _ h3) (sE Γok b L true _ h4) (sE Γok c L true _ h5)
      exact ⟨tTest t, fun X g => (p X g).2, fun σ H env st S φ Q E I f => st_bl (fun _ _ _ _ h => ev_chn_bl h) q E I f⟩
    · cases h
  | .bop and es, L, e, h, t => by
    unfold mE at h
    split at h
    · rename_i op xs pos
      simp only [Bool.and_eq_true, decide_eq_true_eq] at h
      obtain ⟨h1, h2⟩ := h
      subst h1
      have := (sBopT Γok and es L xs pos h2 t).st
      simp only [ev]
      exact this
    · cases h
  | .ite c a b, L, e, h, t => by cases t
  | .idx a i, L, e, h, _ => by
    refine st_of ?_ (sE Γok (.idx a i) L true e h)
    unfold mE at h; split at h
    · exact fun _ _ => rfl
    · cases h
  | .slc a lo hi, L, e, h, _ => by
    refine st_of ?_ (sE Γok (.slc a lo hi) L true e h)
    unfold mE at h; split at h
    · exact fun _ _ => rfl
    · cases h
  | .rev a, L, e, h, _ => by
    refine st_of ?_ (sE Γok (.rev a) L true e h)
    unfold mE at h; split at h
    · exact fun _ _ => rfl
    · cases h
  | .up a, L, e, h, _ => by
    refine st_of ?_ (sE Γok (.up a) L true e h)
    unfold mE at h; split at h
    · exact fun _ _ => rfl
    · cases h
  | .call f es, L, e, h, _ => by
    refine st_of ?_ (sE Γok (.call f es) L true e h)
    unfold mE at h; split at h
    · exact fun _ _ => rfl
    · cases h
  | .blt f es, L, e, h, _ => by
    refine st_of ?_ (sE Γok (.blt f es) L true e h)
    unfold mE at h; split at h
    · exact fun _ _ => rfl
    · cases h
  | .isi f es, L, e, h, _ => by
    refine st_of ?_ (sE Γok (.isi f es) L true e h)
    unfold mE at h; split at h
    · exact fun _ _ => rfl
    · cases h
  | .popL f es, L, e, h, _ => by
    refine st_of ?_ (sE Γok (.popL f es) L true e h)
    unfold mE at h; split at h
    · exact fun _ _ => rfl
    · cases h
  | .fld a f, L, e, h, _ => by
    refine st_of ?_ (sE Γok (.fld a f) L true e h)
    unfold mE at h; split at h
    · exact fun _ _ => rfl
    · cases h
  | .mth x a f k es, L, e, h, _ => by
    refine st_of ?_ (sE Γok (.mth x a f k es) L true e h)
    unfold mE at h; split at h
    · exact fun _ _ => rfl
    · cases h
  | .new x k es, L, e, h, _ => by
    refine st_of ?_ (sE Γok (.new x k es) L true e h)
    unfold mE at h; split at h
    · exact fun _ _ => rfl
    · cases h
termination_by c => 2 * sizeOf c + 1
decreasing_by all_goals first | (simp_wf; omega) | (simp_wf; done)
theorem sEs (Γok : CtxOk Γ) : ∀ (cs : Exs) (L : LC) (o : Bool) (es : List Expr), mEs Γ.m cs L.sc es = true → SL Γ L o es (evL Γ.cf Γ.gs o cs)
  | .nil, L, o, es, h => by
    unfold mEs at h
    split at h
    · exact sl_nil
    · cases h
  | .c c cs, L, o, es, h => by
    unfold mEs at h
    split at h
    · simp only [Bool.and_eq_true] at h
      exact sl_cons (fun env => star_of h.1) (sE Γok c L o _ h.1) (sEs Γok cs L o _ h.2)
    · cases h
termination_by c => 2 * sizeOf c
decreasing_by all_goals first | (simp_wf; omega) | (simp_wf; done)
theorem sAs (Γok : CtxOk Γ) : ∀ (cs : Exs) (L : LC) (es : List Expr), mEs Γ.m cs L.sc es = true → SA Γ L es cs Γ.cf Γ.gs
  | .nil, L, es, h => by
    unfold mEs at h
    split at h
    · exact sa_nil
    · cases h
  | .c c cs, L, es, h => by
    unfold mEs at h
    split at h
    · simp only [Bool.and_eq_true] at h
      exact sa_cons (fun env => star_of h.1) (se1_of (sE Γok c L true _ h.1) (sE Γok c L false _ h.1) h.1) (sAs Γok cs L _ h.2)
    · cases h
termination_by c => 2 * sizeOf c
decreasing_by all_goals first | (simp_wf; omega) | (simp_wf; done)
theorem sBop (Γok : CtxOk Γ) (and : Bool) : ∀ (cs : Exs) (L : LC) (o : Bool) (es : List Expr) (pos : Pos), mEs Γ.m cs L.sc es = true → SE Γ L o (.BoolOp (bopOf and) es pos) (evB Γ.cf Γ.gs o and cs)
  | .nil, L, o, es, pos, h => ⟨fun _ _ _ => False, fun X _ => ⟨fun _ _ _ _ _ _ q => q.elim⟩, fun σ H env st S φ Q E I f => by unfold evB at f; exact f⟩
  | .c c .nil, L, o, es, pos, h => by
    unfold mEs at h
    split at h
    · rename_i x xs
      simp only [Bool.and_eq_true] at h
      have h2 := h.2
      unfold mEs at h2
      split at h2
      · exact se_bop1 (sE Γok c L o _ h.1)
      · cases h2
    · cases h
  | .c c (.c c' cs), L, o, es, pos, h => by
    unfold mEs at h
    split at h
    · rename_i x xs
      simp only [Bool.and_eq_true] at h
      have h2 := h.2
      have ih := sBop Γok and (.c c' cs) L o xs pos h2
      unfold mEs at h2
      split at h2
      · exact se_bopc (sE Γok c L o _ h.1) ih
      · cases h2
    · cases h
termination_by c => 2 * sizeOf c
decreasing_by all_goals first | (simp_wf; omega) | (simp_wf; done)
theorem sBopT (Γok : CtxOk Γ) (and : Bool) : ∀ (cs : Exs) (L : LC) (es : List Expr) (pos : Pos), mEs Γ.m cs L.sc es = true → tstsB cs = true → SW Γ L (.BoolOp (bopOf and) es pos) fun env s => (evB Γ.cf Γ.gs true and cs env s).bind fun d s => truthS s d
  | .nil, L, es, pos, h, _ => ⟨fun _ _ _ => False, fun X _ => ⟨fun _ _ _ _ _ _ _ q => q.elim⟩, fun σ H env st S φ Q E I f => by unfold evB at f; exact f⟩
  | .c c .nil, L, es, pos, h, t => by
    have t' := Bool.and_eq_true_iff.mp (show (tstB c && tstsB .nil) = true from t)
    unfold mEs at h
    split at h
    · rename_i x xs
      simp only [Bool.and_eq_true] at h
      have h2 := h.2
      unfold mEs at h2
      split at h2
      · exact sw_bop1 (sT Γok c L _ h.1 t'.1)
      · cases h2
    · cases h
  | .c c (.c c' cs), L, es, pos, h, t => by
    have t' := Bool.and_eq_true_iff.mp (show (tstB c && tstsB (.c c' cs)) = true from t)
    unfold mEs at h
    split at h
    · rename_i x xs
      simp only [Bool.and_eq_true] at h
      have h2 := h.2
      have ih := sBopT Γok and (.c c' cs) L xs pos h2 t'.2
      unfold mEs at h2
      split at h2
      · exact sw_bopc (sT Γok c L _ h.1 t'.1) ih
      · cases h2
    · cases h
termination_by c => 2 * sizeOf c
decreasing_by all_goals first | (simp_wf; omega) | (simp_wf; done)
theorem sO (Γok : CtxOk Γ) : ∀ (c : OEx) (L : LC) (e : Option Expr), mO Γ.m c L.sc e = true → SO' Γ L e (evO Γ.cf Γ.gs c)
  | .n, L, e, h => by
    unfold mO at h
    split at h
    · exact so_none
    · cases h
  | .s c, L, e, h => by
    unfold mO at h
    split at h
    · exact so_some (sE Γok c L true _ h)
    · cases h
termination_by c => 2 * sizeOf c
decreasing_by all_goals first | (simp_wf; omega) | (simp_wf; done)
theorem sC (Γok : CtxOk Γ) : ∀ (c : OEx) (L : LC) (e : List Expr), mC Γ.m c L.sc e = true → SC Γ L e (evC Γ.cf Γ.gs c)
  | .n, L, e, h => by
    unfold mC at h
    split at h
    · exact sc_nil
    · cases h
  | .s c, L, e, h => by
    unfold mC at h
    split at h
    · simp only [Bool.and_eq_true] at h
      exact sc_one (sT Γok c L _ h.1 h.2)
    · cases h
termination_by c => 2 * sizeOf c
decreasing_by all_goals first | (simp_wf; omega) | (simp_wf; done)
theorem sF (Γok : CtxOk Γ) : ∀ (c : Fx) (L : LC) (e : Expr), mF Γ.m c L.sc e = true → SF Γ L e (evF Γ.cf Γ.gs c)
  | .dsp es, L, e, h => by
    unfold mF at h
    split at h
    · simp only [Bool.and_eq_true, decide_eq_true_eq] at h
      exact sf_dsp h.2 (sEs Γok es L false _ h.1)
    · cases h
  | .cp1 elt tg it cond vs, L, e, h => by
    unfold mF at h
    split at h
    · rename_i x t i ifs a scope pos
      simp only [Bool.and_eq_true, decide_eq_true_eq] at h
      obtain ⟨⟨⟨⟨⟨⟨⟨h1, h2⟩, h3⟩, h4⟩, h5⟩, h6⟩, h7⟩, h8⟩ := h
      subst h1
      obtain ⟨te, p, q⟩ := sf_cp1 (pos := pos) Γok (sI Γok it L true t i h2) h3 h4 h5 (sg_of (L := ⟨relS scope L.sc, fbC scope, L.xk⟩) Γok h6) (sC Γok cond ⟨relS scope L.sc, fbC scope, L.xk⟩ ifs h7) (sE Γok elt ⟨relS scope L.sc, fbC scope, L.xk⟩ false x h8) (folded_of h2)
      exact ⟨te, fun X g => (p X g).1, q⟩
    · cases h
  | .cp2 elt tg it cond tg1 it1 cond1 vs vs1, L, e, h => by
    unfold mF at h
    split at h
    · rename_i x t i ifs a t1 i1 ifs1 a1 scope pos
      simp only [Bool.and_eq_true, decide_eq_true_eq] at h
      obtain ⟨⟨⟨⟨⟨⟨⟨⟨⟨⟨⟨⟨⟨h1, h1'⟩, h2⟩, h3⟩, h4⟩, h5⟩, h6⟩, h7⟩, h8⟩, h9⟩, h10⟩, h11⟩, h12⟩, h13⟩ := h
      subst h1 h1'
      have hv1 : ∀ j ∈ vs1, j ∈ vs := fun j hj => by
        have := List.all_eq_true.mp h5 j hj
        simpa using this
      obtain ⟨te, p, q⟩ := sf_cp2 (pos := pos) Γok (sI Γok it L true t i h2) h3 h4 hv1 h6 h7 (sg_of (L := ⟨relS scope L.sc, fbC scope, L.xk⟩) Γok h8) (sC Γok cond ⟨relS scope L.sc, fbC scope, L.xk⟩ ifs h9) (sI Γok it1 ⟨relS scope L.sc, fbC scope, L.xk⟩ false t1 i1 h10)
        (sg_of (L := ⟨relS scope L.sc, fbC scope, L.xk⟩) Γok h11) (sC Γok cond1 ⟨relS scope L.sc, fbC scope, L.xk⟩ ifs1 h12) (sE Γok elt ⟨relS scope L.sc, fbC scope, L.xk⟩ false x h13) (folded_of h2) (folded_of h10)
      exact ⟨te, fun X g => (p X g).1, q⟩
    · cases h
  | .lrg a, L, e, h => by
    unfold mF at h
    split at h
    · simp only [Bool.and_eq_true, decide_eq_true_eq] at h
      obtain ⟨⟨⟨⟨⟨⟨⟨⟨h1, h2⟩, h3⟩, h4⟩, h5⟩, h6⟩, h7⟩, h8⟩, h9⟩ := h
      exact sf_lrg Γok h1 h2 h3 h4 h5 h6 h7 h8 (fun env r => star_of h9) (sE Γok a L true _ h9)
    · cases h
  | .lof a, L, e, h => by
    unfold mF at h
    split at h
    · simp only [Bool.and_eq_true, decide_eq_true_eq] at h
      obtain ⟨⟨⟨⟨h1, h2⟩, h3⟩, h4⟩, h5⟩ := h
      exact sf_lof Γok h1 h2 h3 h4 (fun env r => star_of h5) (sE Γok a L true _ h5)
    · cases h
termination_by c => 2 * sizeOf c
decreasing_by all_goals first | (simp_wf; omega) | (simp_wf; done)
theorem sI (Γok : CtxOk Γ) : ∀ (c : Src) (L : LC) (o : Bool) (t e : Expr), mI Γ.m c L.sc t e = true → SS Γ L o t e (evI Γ.cf Γ.gs o c)
  | .seq a, L, o, t, e, h => by
    unfold mI at h
    exact ss_seq (sE Γok a L o _ h)
  | .rg1 a, L, o, t, e, h => by
    unfold mI at h
    split at h
    · simp only [Bool.and_eq_true, decide_eq_true_eq] at h
      obtain ⟨⟨⟨⟨h1, h2⟩, h3⟩, h4⟩, h5⟩ := h
      exact ss_rg1 Γok h1 h2 h3 (fun env r => star_of h5) (sE Γok a L true _ h5)
    · cases h
  | .rg2 a b, L, o, t, e, h => by
    unfold mI at h
    split at h
    · simp only [Bool.and_eq_true, decide_eq_true_eq] at h
      obtain ⟨⟨⟨⟨⟨h1, h2⟩, h3⟩, h4⟩, h5⟩, h6⟩ := h
      exact ss_rg2 Γok h1 h2 h3 (fun env r => star_of h5) (fun env r => star_of h6) (sE Γok a L true _ h5) (sE Γok b L true _ h6)
    · cases h
  | .rg3 a b c, L, o, t, e, h => by
    unfold mI at h
    split at h
    · simp only [Bool.and_eq_true, decide_eq_true_eq] at h
      obtain ⟨⟨⟨⟨⟨⟨h1, h2⟩, h3⟩, h4⟩, h5⟩, h6⟩, h7⟩ := h
      exact ss_rg3 Γok h1 h2 h3 (fun env r => star_of h5) (fun env r => star_of h6) (fun env r => star_of h7) (sE Γok a L true _ h5) (sE Γok b L true _ h6) (sE Γok c L true _ h7)
    · cases h
  | .enm a, L, o, t, e, h => by
    unfold mI at h
    split at h
    · simp only [Bool.and_eq_true, decide_eq_true_eq] at h
      obtain ⟨⟨⟨⟨⟨h0, h1⟩, h2⟩, h3⟩, h4⟩, h5⟩ := h
      cases t with
      | Tuple elts kk tpos => exact ss_enm Γok h1 h2 h3 (fun env r => star_of h5) (sE Γok a L o _ h5)
      | _ => cases h0
    · cases h
  | .zip a b, L, o, t, e, h => by
    unfold mI at h
    split at h
    · simp only [Bool.and_eq_true, decide_eq_true_eq] at h
      obtain ⟨⟨⟨⟨⟨⟨h0, h1⟩, h2⟩, h3⟩, h4⟩, h5⟩, h6⟩ := h
      cases t with
      | Tuple elts kk tpos => exact ss_zip Γok h1 h2 h3 (fun env r => star_of h5) (fun env r => star_of h6) (sE Γok a L o _ h5) (sE Γok b L o _ h6)
      | _ => cases h0
    · cases h
termination_by c => 2 * sizeOf c
decreasing_by all_goals first | (simp_wf; omega) | (simp_wf; done)
end
end
end PV
set_option maxRecDepth 100000
set_option maxHeartbeats 4000000
/-! Statements. -/
namespace PV
open PySem PySem.Spec PyProof.Rows L2
/-- a def's entry -/
structure Ent where
  S : Addr → Prop
  φ : List Addr
  H : Hp
structure KP (S : Addr → Prop) (φ : List Addr) (H : Hp) (S' : Addr → Prop) (φ' : List Addr) (H' : Hp) : Prop where
  sub : ∀ a, S a → S' a
  same : ∀ a, S a → H' a = H a
  pre : ∃ ψ, φ' = φ ++ ψ
structure FI (K : PySem.W.Frag) (E0 : Ent) (S : Addr → Prop) (φ : List Addr) (H : Hp) (σ : L2.St) (env : Env) (st : Sto) : Prop where
  ei : EI K S φ H σ env
  si : SI K S φ H st
  ent : Stp E0.S E0.φ E0.H S φ H
  own : ∀ (i : Nat) ds a, env[i]? = some (some (.own ds)) → σ[i]? = some (some (.ref a)) → E0.H a = none
section
variable {K : PySem.W.Frag} {XE : XK} {E0 : Ent} {S S' S2 : Addr → Prop} {φ φ' φ2 : List Addr} {H H' H2 : Hp} {σ : L2.St} {env : Env} {st st' : Sto}
theorem KP.refl : KP S φ H S φ H := ⟨fun _ h => h, fun _ _ => rfl, [], by simp⟩
theorem KP.trans (x : KP S φ H S' φ' H') (y : KP S' φ' H' S2 φ2 H2) : KP S φ H S2 φ2 H2 :=
  ⟨fun a h => y.sub a (x.sub a h), fun a h => (y.same a (x.sub a h)).trans (x.same a h), by
    obtain ⟨ψ, e⟩ := x.pre
    obtain ⟨ψ2, e2⟩ := y.pre
    exact ⟨ψ ++ ψ2, by rw [e2, e, List.append_assoc]⟩⟩
theorem Stp.kp (x : Stp S φ H S' φ' H') (I : SI K S φ H st) : KP S φ H S' φ' H' := ⟨x.sub, x.same I.dom I.dis, let ⟨ψ, e, _⟩ := x.phi; ⟨ψ, e⟩⟩
theorem FI.go (F : FI K E0 S φ H σ env st) (x : Stp S φ H S' φ' H') (I : SI K S' φ' H' st') : FI K E0 S' φ' H' σ env st' :=
  ⟨F.ei.mono x F.si, I, F.ent.trans x, F.own⟩
def FinX (K : PySem.W.Frag) (XE : XK) (E0 : Ent) (S : Addr → Prop) (φ : List Addr) (H : Hp) (Dn : Ends) : Out Flow → Prop
  | .ok (.nx env') st' => ∀ σ' H' S' φ', KP S φ H S' φ' H' → FI K E0 S' φ' H' σ' env' st' → Dn.nx σ' H'
  | .ok (.ct env') st' => ∀ σ' H' S' φ', KP S φ H S' φ' H' → FI K E0 S' φ' H' σ' env' st' → Dn.ct σ' H'
  | .ok (.bk env') st' => ∀ σ' H' S' φ', KP S φ H S' φ' H' → FI K E0 S' φ' H' σ' env' st' → Dn.bk σ' H'
  | .ok (.ret d) st' => ∀ v H' S' φ', Stp E0.S E0.φ E0.H S' φ' H' → SI K S' φ' H' st' → Rep K S' φ' H' v d → Dn.rt v H'
  | .ok (.rs x d) st' => ∀ H' S' φ' q v, Stp E0.S E0.φ E0.H S' φ' H' → SI K S' φ' H' st' → H' q = some (.xd [("step", v)]) → Rep K S' φ' H' v d → XE (.ref (He.ga K x)) (some q) H'
  | .err => False
theorem FinX.kp {Dn : Ends} {m : Out Flow} (x : KP S φ H S' φ' H') (h : FinX K XE E0 S φ H Dn m) : FinX K XE E0 S' φ' H' Dn m := by
  cases m with
  | err => exact h
  | ok f s =>
    cases f with
    | nx env' => exact fun σ' H2 S2 φ2 y F => h σ' H2 S2 φ2 (x.trans y) F
    | ct env' => exact fun σ' H2 S2 φ2 y F => h σ' H2 S2 φ2 (x.trans y) F
    | bk env' => exact fun σ' H2 S2 φ2 y F => h σ' H2 S2 φ2 (x.trans y) F
    | ret d => exact h
    | rs x d => exact h
theorem FinX.bind {α : Type} {Dn : Ends} {m : Out α} {f : α → Sto → Out Flow} (h : FinX K XE E0 S φ H Dn (m.bind f)) : ∃ x s, m = .ok x s ∧ FinX K XE E0 S φ H Dn (f x s) := by
  cases m with
  | ok x s => exact ⟨x, s, rfl, h⟩
  | err => exact False.elim h
end
structure GoodS (Γ : Ctx) (L : LC) (X : Cx) : Prop extends Good Γ L X where
  own : PassesOwn (model X.prog X.w) X.A X.env X.xe
  tk : Takes X (fun c d _ H => L.xk c d H)
  stk : X.stack = X.env :: X.outer
  frm : X.env.frame = some X.env.locals
def SX (Γ : Ctx) (L : LC) (s : Stmt) (m : Env → Sto → Out Flow) : Prop :=
  ∃ t : TS, (∀ X, GoodS Γ L X → PS X s t) ∧ ∀ E0 σ H env st S φ Dn, FI Γ.K E0 S φ H σ env st → FinX Γ.K L.xk E0 S φ H Dn (m env st) → t Dn σ H
def SXs (Γ : Ctx) (L : LC) (s : List Stmt) (m : Env → Sto → Out Flow) : Prop :=
  ∃ t : TS, (∀ X, GoodS Γ L X → PSs X s t) ∧ ∀ E0 σ H env st S φ Dn, FI Γ.K E0 S φ H σ env st → FinX Γ.K L.xk E0 S φ H Dn (m env st) → t Dn σ H
section
variable {Γ : Ctx} {L : LC} {e : Expr}
theorem sx_never {s : Stmt} {m : Env → Sto → Out Flow} (h : ∀ env s, m env s = .err) : SX Γ L s m :=
  ⟨tNever, fun X _ => ps_never, fun E0 σ H env st S φ Dn F f => by rw [h] at f; exact False.elim f⟩
theorem sx_pass {pos : Pos} : SX Γ L (.Pass pos) fun env s => .ok (.nx env) s :=
  ⟨tNext, fun X _ => ps_pass, fun E0 σ H env st S φ Dn F f => f σ H S φ .refl F⟩
theorem sx_brk {pos : Pos} : SX Γ L (.Break pos) fun env s => .ok (.bk env) s :=
  ⟨tBreak, fun X _ => ps_break, fun E0 σ H env st S φ Dn F f => f σ H S φ .refl F⟩
theorem sx_cnt {pos : Pos} : SX Γ L (.Continue pos) fun env s => .ok (.ct env) s :=
  ⟨tCont, fun X _ => ps_continue, fun E0 σ H env st S φ Dn F f => f σ H S φ .refl F⟩
theorem sx_retN {pos : Pos} : SX Γ L (.Return none pos) fun env s => .ok (.ret .non) s :=
  ⟨tRetN, fun X _ => ps_retN, fun E0 σ H env st S φ Dn F f => f .non H S φ F.ent F.si .non⟩
/-- a list of one's own becomes a value -/
theorem FI.frz {K : PySem.W.Frag} {E0 : Ent} {S : Addr → Prop} {φ : List Addr} {H : Hp} {σ : L2.St} {env : Env} {st : Sto} (F : FI K E0 S φ H σ env st) (i : Nat) : ∃ S', KP S φ H S' φ H ∧ FI K E0 S' φ H σ (frzAt env i) st := by
  unfold frzAt
  split
  · rename_i ds he
    obtain ⟨a, vs, e1, e2, e3, e4, e5⟩ := F.ei.own i ds he
    have n0 := F.own i ds a he e1
    refine ⟨PV.add S a, ⟨fun _ h => .inl h, fun _ _ => rfl, [], by simp⟩, ⟨by simp [F.ei.len], fun j d h => ?_, fun j es h => ?_, fun j l es es' b h1 h2 => ?_⟩, F.si.add e4 (by rw [e2]; simp), F.ent.addS n0, fun j es b h => ?_⟩
    · rcases set_get h with ⟨rfl, q, hi⟩ | ⟨n, h⟩
      · cases q; exact ⟨_, e1, .lst (.inr rfl) e2 (e5.tr (fun _ _ => rfl) (fun _ q => .inl q) ⟨[], by simp⟩)⟩
      · obtain ⟨v, q, r⟩ := F.ei.val j d h
        exact ⟨v, q, r.tr (fun _ _ => rfl) (fun _ q => .inl q) ⟨[], by simp⟩⟩
    · rcases set_get h with ⟨_, q, _⟩ | ⟨n, h⟩
      · cases q
      · obtain ⟨b, ws, q1, q2, q3, q4, q5⟩ := F.ei.own j es h
        refine ⟨b, ws, q1, q2, fun z => ?_, q4, q5.tr (fun _ _ => rfl) (fun _ q => .inl q) ⟨[], by simp⟩⟩
        rcases z with z | z
        · exact q3 z
        · subst z; exact n (F.ei.inj i j ds es b he h e1 q1)
    · rcases set_get h1 with ⟨_, q, _⟩ | ⟨n, h1⟩
      · cases q
      · rcases set_get h2 with ⟨_, q, _⟩ | ⟨n2, h2⟩
        · cases q
        · exact F.ei.inj j l es es' b h1 h2
    · rcases set_get h with ⟨_, q, _⟩ | ⟨n, h⟩
      · cases q
      · exact F.own j es b h
  · exact ⟨S, .refl, F⟩
theorem FI.frzE {K : PySem.W.Frag} {E0 : Ent} {S : Addr → Prop} {φ : List Addr} {H : Hp} {σ : L2.St} {env : Env} {st : Sto} (F : FI K E0 S φ H σ env st) (c : Ex) : ∃ S', KP S φ H S' φ H ∧ FI K E0 S' φ H σ (PV.frzE env c) st := by
  cases c with
  | var i => exact F.frz i
  | _ => exact ⟨S, .refl, F⟩
theorem FI.frzI {K : PySem.W.Frag} {E0 : Ent} {S : Addr → Prop} {φ : List Addr} {H : Hp} {σ : L2.St} {env : Env} {st : Sto} (F : FI K E0 S φ H σ env st) (c : Src) : ∃ S', KP S φ H S' φ H ∧ FI K E0 S' φ H σ (PV.frzI env c) st := by
  cases c with
  | seq e => exact F.frzE e
  | enm e => exact F.frzE e
  | zip a b =>
    obtain ⟨S1, k1, F1⟩ := F.frzE a
    obtain ⟨S2, k2, F2⟩ := F1.frzE b
    exact ⟨S2, k1.trans k2, F2⟩
  | _ => exact ⟨S, .refl, F⟩
theorem FI.frzRs {K : PySem.W.Frag} {E0 : Ent} {φ : List Addr} {H : Hp} {σ : L2.St} {st : Sto} : ∀ (c : Exs) {env : Env} {S : Addr → Prop}, FI K E0 S φ H σ env st → ∃ S', KP S φ H S' φ H ∧ FI K E0 S' φ H σ (PV.frzRs env c) st
  | .nil, env, S, F => ⟨S, .refl, F⟩
  | .c e es, env, S, F => by
    cases e with
    | var i =>
      obtain ⟨S1, k1, F1⟩ := F.frz i
      obtain ⟨S2, k2, F2⟩ := FI.frzRs es F1
      exact ⟨S2, k1.trans k2, F2⟩
    | _ => exact FI.frzRs es F
theorem FI.frzR {K : PySem.W.Frag} {E0 : Ent} {S : Addr → Prop} {φ : List Addr} {H : Hp} {σ : L2.St} {env : Env} {st : Sto} (F : FI K E0 S φ H σ env st) (c : Ex) : ∃ S', KP S φ H S' φ H ∧ FI K E0 S' φ H σ (PV.frzR env c) st := by
  cases c with
  | var i => exact F.frz i
  | tup es => exact FI.frzRs es F
  | _ => exact ⟨S, .refl, F⟩
theorem sx_ret {c : Ex} {cf gs} {pos : Pos} (h : SE Γ L false e (ev cf gs false c)) : SX Γ L (.Return (some e) pos) fun env s => (ev cf gs false c (frzR env c) s).bind fun d s => .ok (.ret d) s := by
  obtain ⟨t, p, q⟩ := h
  refine ⟨tRet t, fun X g => ps_ret (p X g.toGood), fun E0 σ H env st S φ Dn F f => ?_⟩
  obtain ⟨d, s1, e1, f1⟩ := f.bind
  obtain ⟨S', k, F'⟩ := F.frzR c
  have e1' : ev cf gs false c (PV.frzR env c) st = .ok d s1 := e1
  exact SE.use q F'.ei F'.si e1' fun v H1 S1 φ1 x1 E1 I1 r1 => f1 v H1 S1 φ1 (F'.ent.trans x1) I1 r1.val
theorem sx_ite {c : Expr} {a b : List Stmt} {cc : Ex} {cf gs} {pos : Pos} {ma mb : Env → Sto → Out Flow} (h1 : ST Γ L c fun env s => (ev cf gs true cc env s).bind fun d s => truthS s d) (h2 : SXs Γ L a ma) (h3 : SXs Γ L b mb) :
    SX Γ L (.If c a b pos) fun env s => (ev cf gs true cc env s).bind fun x s => (truthS s x).bind fun t s => if t = true then ma env s else mb env s := by
  obtain ⟨t1, p1, q1⟩ := h1
  obtain ⟨t2, p2, q2⟩ := h2
  obtain ⟨t3, p3, q3⟩ := h3
  refine ⟨tIfS t1 t2 t3, fun X g => ps_if (p1 X g.toGood) (p2 X g) (p3 X g), fun E0 σ H env st S φ Dn F f => ?_⟩
  obtain ⟨d1, s1, e1, f1⟩ := f.bind
  obtain ⟨k, s2, ek, f2⟩ := f1.bind
  refine q1 σ H env st S φ _ F.ei F.si ?_
  simp only [e1, Out.bind, ek]
  intro H1 S1 φ1 x1 I1
  have F1 := F.go x1 I1
  have f3 := f2.kp (x1.kp F.si)
  cases k with
  | true => exact q2 E0 σ H1 env s2 S1 φ1 Dn F1 f3
  | false => exact q3 E0 σ H1 env s2 S1 φ1 Dn F1 f3
theorem sxs_nil : SXs Γ L [] fun env s => .ok (.nx env) s := ⟨tNext, fun X _ => pss_nil, fun E0 σ H env st S φ Dn F f => f σ H S φ .refl F⟩
theorem sxs_cons {s : Stmt} {ss : List Stmt} {m ms : Env → Sto → Out Flow} (h1 : SX Γ L s m) (h2 : SXs Γ L ss ms) : SXs Γ L (s :: ss) fun env st => (m env st).bind fun fl s => match fl with
    | .nx env' => ms env' s
    | .ret d => .ok (.ret d) s
    | .bk env' => .ok (.bk env') s
    | .ct env' => .ok (.ct env') s
    | .rs x d => .ok (.rs x d) s := by
  obtain ⟨t1, p1, q1⟩ := h1
  obtain ⟨t2, p2, q2⟩ := h2
  refine ⟨tSeq t1 t2, fun X g => pss_cons (p1 X g) (p2 X g), fun E0 σ H env st S φ Dn F f => ?_⟩
  obtain ⟨fl, s1, e1, f1⟩ := f.bind
  refine q1 E0 σ H env st S φ _ F ?_
  rw [e1]
  cases fl with
  | nx env' => exact fun σ' H' S' φ' k F' => q2 E0 σ' H' env' s1 S' φ' Dn F' (f1.kp k)
  | ret d => exact f1
  | bk env' => exact f1
  | ct env' => exact f1
  | rs x d => exact f1

/-! ### loops -/
theorem FI.bind {K : PySem.W.Frag} {E0 : Ent} {S : Addr → Prop} {φ : List Addr} {H : Hp} {σ σ' : L2.St} {env env' : Env} {st : Sto} (F : FI K E0 S φ H σ env st) (E : EI K S φ H σ' env') (h : ∀ (i : Nat) ds, env'[i]? = some (some (.own ds)) → env[i]? = some (some (.own ds)) ∧ σ'[i]? = σ[i]?) : FI K E0 S φ H σ' env' st :=
  ⟨E, F.si, F.ent, fun i ds a h1 h2 => let ⟨q1, q2⟩ := h i ds h1; F.own i ds a q1 (by rw [← q2]; exact h2)⟩
end
end PV
set_option maxRecDepth 100000
set_option maxHeartbeats 4000000
/-! Loops, stores, changes. -/
namespace PV
open PySem PySem.Spec PyProof.Rows L2
section
variable {Γ : Ctx} {L : LC} {e : Expr}
theorem sx_for {c : Tg} {it : Src} {tg i : Expr} {b : List Stmt} {pos : Pos} {cf gs} {mb : Env → Sto → Out Flow} (hI : SS Γ L false tg i (evI cf gs false it)) (hG : SG Γ L tg c) (hB : SXs Γ L b mb) (hs : ∀ env v, foldedSetIterable i env v = pure v) :
    SX Γ L (.For tg i b [] pos) fun env s => (evI cf gs false it (frzI env it) s).bind fun xs s => forF (fun d env s => match bindT c d env with
    | some env1 => mb env1 s
    | none => .err) xs (frzI env it) s := by
  obtain ⟨tI, pI, qI⟩ := hI
  obtain ⟨tG, pG, qG⟩ := hG
  obtain ⟨tB, pB, qB⟩ := hB
  refine ⟨tFor tI tG tB, fun X g => ps_for g.own g.calm (pI X g.toGood) (pG X g.toGood) (pB X g) (hs _), fun E0 σ H env st S φ Dn F f => ?_⟩
  obtain ⟨xs, s1, e1, f1⟩ := f.bind
  obtain ⟨S0, k0, F0⟩ := F.frzI it
  refine qI σ H (frzI env it) st S0 φ _ F0.ei F0.si ?_
  rw [e1]
  intro J H1 S1 φ1 x1 I1 JO
  have F1 := F0.go x1 I1
  have k1 := k0.trans (x1.kp F0.si)
  obtain ⟨wt, hw, hJ⟩ := JO
  refine ⟨fun i m σ2 H2 => m = xs.length - i ∧ i ≤ xs.length ∧ ∃ S2 φ2 env2 st2, KP S1 φ1 H1 S2 φ2 H2 ∧ FI Γ.K E0 S2 φ2 H2 σ2 env2 st2 ∧ FinX Γ.K L.xk E0 S2 φ2 H2 Dn (forF (fun d env s => match bindT c d env with
    | some env1 => mb env1 s
    | none => .err) (xs.drop i) env2 st2), ⟨xs.length, by simp, by simp, S1, φ1, _, _, .refl, F1, by simpa using f1.kp k1⟩, ?_⟩
  rintro i m σ2 H2 ⟨hm, hi, S2, φ2, env2, st2, k2, F2, f2⟩
  obtain ⟨g1, g2, g3⟩ := hJ S2 φ2 H2 (fun a ha => k2.same a ((hw a ha).2.2 rfl)) k2.same k2.sub k2.pre
  by_cases hlt : i < xs.length
  · right
    refine ⟨g1 i hlt, fun σ' H' => ∃ m', m' < m ∧ (m' = xs.length - (i + 1) ∧ i + 1 ≤ xs.length ∧ ∃ S2 φ2 env2 st2, KP S1 φ1 H1 S2 φ2 H' ∧ FI Γ.K E0 S2 φ2 H' σ' env2 st2 ∧ FinX Γ.K L.xk E0 S2 φ2 H' Dn (forF (fun d env s => match bindT c d env with
      | some env1 => mb env1 s
      | none => .err) (xs.drop (i + 1)) env2 st2)), fun σ' H' h => h, fun x H3 hy => ?_⟩
    have hd : xs[i]? = some xs[i] := List.getElem?_eq_getElem hlt
    obtain ⟨S3, x3, I3, r3⟩ := g3 i xs[i] x H3 hd hy st2 F2.si
    have F3 := F2.go x3 I3
    rw [List.drop_eq_getElem_cons hlt] at f2
    have f2' : FinX Γ.K L.xk E0 S2 φ2 H2 Dn (((match bindT c xs[i] env2 with
      | some env1 => mb env1 st2
      | none => .err) : Out Flow).bind fun fl s => match fl with
        | .nx env' => forF (fun d env s => match bindT c d env with
          | some env1 => mb env1 s
          | none => .err) (xs.drop (i + 1)) env' s
        | .ct env' => forF (fun d env s => match bindT c d env with
          | some env1 => mb env1 s
          | none => .err) (xs.drop (i + 1)) env' s
        | .bk env' => .ok (.nx env') s
        | .ret d => .ok (.ret d) s
        | .rs x d => .ok (.rs x d) s) := f2
    have k3 : KP S2 φ2 H2 S3 φ2 H3 := x3.kp F2.si
    cases eb : bindT c xs[i] env2 with
    | none => rw [eb] at f2'; exact False.elim f2'
    | some env3 =>
      simp only [eb] at f2'
      refine qG x _ σ2 H3 env2 env3 S3 φ2 st2 _ F3.ei I3 r3 eb fun σ3 w3 E4 => ?_
      have F4 : FI Γ.K E0 S3 φ2 H3 σ3 env3 st2 := FI.bind F3 E4 w3.2
      refine qB E0 σ3 H3 env3 st2 S3 φ2 _ F4 ?_
      obtain ⟨fl, s5, e5, f5⟩ := f2'.bind
      rw [e5]
      cases fl with
      | nx env' => exact fun σ' H' S' φ' k F' => ⟨xs.length - (i + 1), by omega, rfl, hlt, S', φ', env', s5, (k2.trans k3).trans k, F', f5.kp (k3.trans k)⟩
      | ct env' => exact fun σ' H' S' φ' k F' => ⟨xs.length - (i + 1), by omega, rfl, hlt, S', φ', env', s5, (k2.trans k3).trans k, F', f5.kp (k3.trans k)⟩
      | bk env' => exact f5.kp k3
      | ret d => exact f5
      | rs x d => exact f5
  · left
    have hi' : i = xs.length := by omega
    subst hi'
    refine ⟨g2, ?_⟩
    rw [List.drop_length] at f2
    exact f2 σ2 H2 S2 φ2 .refl F2
theorem sx_while {c : Expr} {b : List Stmt} {pos : Pos} {mc : Env → Sto → Out Bool} {mb : Env → Sto → Out Flow} (hC : ST Γ L c mc) (hB : SXs Γ L b mb) :
    SX Γ L (.While c b [] pos) fun env s => whileF mc mb env s := by
  obtain ⟨tC, pC, qC⟩ := hC
  obtain ⟨tB, pB, qB⟩ := hB
  refine ⟨tWhile tC tB, fun X g => ps_while g.own (pC X g.toGood) (pB X g), fun E0 σ H env st S φ Dn F f => ?_⟩
  obtain ⟨n, fn⟩ : ∃ n, FinX Γ.K L.xk E0 S φ H Dn (whileN mc mb n env st) := by
    simp only [whileF] at f
    split at f
    · exact ⟨_, f⟩
    · exact False.elim f
  refine ⟨fun m σ2 H2 => ∃ S2 φ2 env2 st2, KP S φ H S2 φ2 H2 ∧ FI Γ.K E0 S2 φ2 H2 σ2 env2 st2 ∧ FinX Γ.K L.xk E0 S2 φ2 H2 Dn (whileN mc mb m env2 st2), ⟨n, S, φ, env, st, .refl, F, fn⟩, ?_⟩
  rintro m σ2 H2 ⟨S2, φ2, env2, st2, k2, F2, f2⟩
  cases m with
  | zero => exact False.elim f2
  | succ m =>
    have f2' : FinX Γ.K L.xk E0 S2 φ2 H2 Dn ((mc env2 st2).bind fun t s => if t = true then (mb env2 s).bind fun fl s => (match fl with
      | .nx env' => whileN mc mb m env' s
      | .ct env' => whileN mc mb m env' s
      | .bk env' => .ok (.nx env') s
      | .ret d => .ok (.ret d) s
      | .rs x d => .ok (.rs x d) s) else .ok (.nx env2) s) := f2
    obtain ⟨t, s3, e3, f3⟩ := f2'.bind
    refine qC σ2 H2 env2 st2 S2 φ2 _ F2.ei F2.si ?_
    rw [e3]
    intro H3 S3 φ3 x3 I3
    have F3 := F2.go x3 I3
    have k3 := x3.kp F2.si
    cases t with
    | false =>
      rw [if_neg Bool.false_ne_true] at f3 ⊢
      exact f3 σ2 H3 S3 φ3 k3 F3
    | true =>
      rw [if_pos rfl] at f3 ⊢
      obtain ⟨fl, s5, e5, f5⟩ := f3.bind
      refine ⟨fun σ' H' => ∃ m', m' < m + 1 ∧ ∃ S2 φ2 env2 st2, KP S φ H S2 φ2 H' ∧ FI Γ.K E0 S2 φ2 H' σ' env2 st2 ∧ FinX Γ.K L.xk E0 S2 φ2 H' Dn (whileN mc mb m' env2 st2), fun _ _ h => h, qB E0 σ2 H3 env2 s3 S3 φ3 _ F3 ?_⟩
      rw [e5]
      cases fl with
      | nx env' => exact fun σ' H' S' φ' k F' => ⟨m, by omega, S', φ', env', s5, (k2.trans k3).trans k, F', f5.kp (k3.trans k)⟩
      | ct env' => exact fun σ' H' S' φ' k F' => ⟨m, by omega, S', φ', env', s5, (k2.trans k3).trans k, F', f5.kp (k3.trans k)⟩
      | bk env' => exact f5.kp k3
      | ret d => exact f5
      | rs x d => exact f5

/-! ### stores -/
def isLcE : Expr → Bool
  | .ListComp _ _ _ _ => true
  | .SetComp _ _ _ _ => true
  | .DictComp _ _ _ _ _ => true
  | _ => false
theorem noSwap {v : Expr} (h : isLcE v = false) (t : Option Expr) (n : Nat) (env : PySem.Env) : swapsWith v t n env = pure false := by
  cases v <;> first | rfl | cases h
theorem noSwapS {v : Expr} (h : isLcE v = false) (t : Expr) (n : Nat) (env : PySem.Env) : swapsWithSole [t] v n env = pure false := noSwap h (some t) n env
/-- what a store into slot i says -/
def SFA (Γ : Ctx) (L : LC) (i : Nat) (x : Str) (px : Pos) (e : Expr) (pos : Pos) (m : Env → Sto → Out (List D)) : Prop :=
  ∃ t : TE, (∀ X, GoodS Γ L X → PS X (.Assign [.Name x px] e pos) (tAsg t (gName i))) ∧ ∀ σ H env st S φ Q, EI Γ.K S φ H σ env → SI Γ.K S φ H st → FinF Γ.K S φ H Q (m env st) → t σ H Q
theorem FI.setV {K : PySem.W.Frag} {E0 : Ent} {S : Addr → Prop} {φ : List Addr} {H : Hp} {σ : L2.St} {env : Env} {st : Sto} {i : Nat} {v : V} {d : D} (F : FI K E0 S φ H σ env st) (r : Rep K S φ H v d) : FI K E0 S φ H (σ.set i (some v)) (env.set i (some (.val d))) st :=
  FI.bind F (F.ei.setV r) kept_set
/-- a new list of one's own comes into slot i -/
theorem FI.setO {K : PySem.W.Frag} {E0 : Ent} {S : Addr → Prop} {φ : List Addr} {H : Hp} {σ : L2.St} {env : Env} {st : Sto} {i : Nat} {a : Addr} {vs : List V} {ds : List D} (F : FI K E0 S φ H σ env st) (h0 : E0.H a = none)
    (hn : ∀ (j : Nat) es, env[j]? = some (some (.own es)) → σ[j]? ≠ some (some (.ref a))) (h1 : ¬ S a) (h2 : a ∉ φ) (h3 : H a = some (.lst vs)) (r : RepL K S φ H vs ds) :
    FI K E0 S φ H (σ.set i (some (.ref a))) (env.set i (some (.own ds))) st := by
  refine ⟨⟨by simp [F.ei.len], fun j d h => ?_, fun j es h => ?_, fun j l es es' b h1 h2 h3 h4 => ?_⟩, F.si, F.ent, fun j es b h h' => ?_⟩
  · rcases set_get h with ⟨_, e, _⟩ | ⟨n, h⟩
    · cases e
    · obtain ⟨w, e, q⟩ := F.ei.val j d h
      exact ⟨w, by rw [List.getElem?_set_ne n]; exact e, q⟩
  · rcases set_get h with ⟨rfl, e, hi⟩ | ⟨n, h⟩
    · cases e; exact ⟨a, vs, List.getElem?_set_self (by rw [← F.ei.len]; exact hi), h3, h1, h2, r⟩
    · obtain ⟨b, ws, e, q⟩ := F.ei.own j es h
      exact ⟨b, ws, by rw [List.getElem?_set_ne n]; exact e, q⟩
  · rcases set_get h1 with ⟨rfl, e, hi⟩ | ⟨n, h1⟩
    · rw [List.getElem?_set_self (by rw [← F.ei.len]; exact hi)] at h3
      cases h3
      rcases set_get h2 with ⟨rfl, e, _⟩ | ⟨n2, h2⟩
      · rfl
      · rw [List.getElem?_set_ne n2] at h4
        exact absurd h4 (hn l es' h2)
    · rw [List.getElem?_set_ne n] at h3
      rcases set_get h2 with ⟨rfl, e, hi⟩ | ⟨n2, h2⟩
      · rw [List.getElem?_set_self (by rw [← F.ei.len]; exact hi)] at h4
        cases h4
        exact absurd h3 (hn j es h1)
      · rw [List.getElem?_set_ne n2] at h4
        exact F.ei.inj j l es es' b h1 h2 h3 h4
  · rcases set_get h with ⟨rfl, e, hi⟩ | ⟨n, h⟩
    · rw [List.getElem?_set_self (by rw [← F.ei.len]; exact hi)] at h'
      cases h'; exact h0
    · rw [List.getElem?_set_ne n] at h'
      exact F.own j es b h h'
theorem FI.fresh {K : PySem.W.Frag} {E0 : Ent} {S : Addr → Prop} {φ : List Addr} {H : Hp} {σ : L2.St} {env : Env} {st : Sto} {a : Addr} (F : FI K E0 S φ H σ env st) (h : H a = none) : E0.H a = none ∧ ∀ (j : Nat) es, env[j]? = some (some (.own es)) → σ[j]? ≠ some (some (.ref a)) :=
  ⟨F.ent.free h, fun j es e q => by
    obtain ⟨b, vs, e1, e2, _⟩ := F.ei.own j es e
    rw [q] at e1; cases e1
    rw [h] at e2; cases e2⟩
theorem sx_own {i : Nat} {x : Str} {px pos : Pos} {m : Env → Sto → Out (List D)} (h : SFA Γ L i x px e pos m) : SX Γ L (.Assign [.Name x px] e pos) fun env s => (m env s).bind fun ds s => .ok (.nx (env.set i (some (.own ds)))) s := by
  obtain ⟨t, p, q⟩ := h
  refine ⟨_, p, fun E0 σ H env st S φ Dn F f => ?_⟩
  obtain ⟨ds, s1, e1, f1⟩ := f.bind
  refine q σ H env st S φ _ F.ei F.si ?_
  rw [e1]
  intro a vs H' S' φ' x' I' hn h1 h2 h3 r
  have F' := F.go x' I'
  obtain ⟨n1, n2⟩ := F.fresh hn
  exact f1 _ H' S' φ' (x'.kp F.si) (F'.setO n1 n2 h1 h2 h3 r)
theorem sx_fz {i : Nat} {x : Str} {px pos : Pos} {m : Env → Sto → Out (List D)} (h : SFA Γ L i x px e pos m) : SX Γ L (.Assign [.Name x px] e pos) fun env s => (m env s).bind fun ds s => .ok (.nx (env.set i (some (.val (.lst ds))))) s := by
  obtain ⟨t, p, q⟩ := h
  refine ⟨_, p, fun E0 σ H env st S φ Dn F f => ?_⟩
  obtain ⟨ds, s1, e1, f1⟩ := f.bind
  refine q σ H env st S φ _ F.ei F.si ?_
  rw [e1]
  intro a vs H' S' φ' x' I' hn h1 h2 h3 r
  have x2 : Stp S φ H (PV.add S' a) φ' H' := x'.addS hn
  have I2 := I'.add h2 (by rw [h3]; simp)
  have F' := F.go x2 I2
  have r' : Rep Γ.K (PV.add S' a) φ' H' (.ref a) (.lst ds) := .lst (.inr rfl) h3 (r.tr (fun _ _ => rfl) (fun _ q => .inl q) ⟨[], by simp⟩)
  exact f1 _ H' _ φ' (x2.kp F.si) (F'.setV r')
theorem sfa_of (Γok : CtxOk Γ) {i : Nat} {x : Str} {px pos : Pos} {c : Fx} (h1 : Γ.m.N[i]? = some x) (h2 : locB L.sc x = true) (h3 : L.fb x = true ∨ L.sc.names.lookup x = some .local) (h : mF Γ.m c L.sc e = true) : SFA Γ L i x px e pos (evF Γ.cf Γ.gs c) := by
  have plain : isLcE e = false → SFA Γ L i x px e pos (evF Γ.cf Γ.gs c) := fun hl => by
    obtain ⟨t, p, q⟩ := sF Γok c L e h
    exact ⟨t, fun X g => ps_set (by rw [g.N]; exact Γok.nd) (by rw [g.N]; exact h1) (by rw [g.sc]; exact loc_of h2) (p X g.toGood) (noSwap hl _ _ _) (by rw [g.fn, g.sc]; exact h3), q⟩
  cases c with
  | dsp es =>
    refine plain ?_
    unfold mF at h
    split at h
    · rfl
    · cases h
  | lrg a =>
    refine plain ?_
    unfold mF at h
    split at h
    · rfl
    · cases h
  | lof a =>
    refine plain ?_
    unfold mF at h
    split at h
    · rfl
    · cases h
  | cp1 elt tg it cond vs =>
    unfold mF at h
    split at h
    · rename_i x' t i' ifs a scope p
      simp only [Bool.and_eq_true, decide_eq_true_eq] at h
      obtain ⟨⟨⟨⟨⟨⟨⟨g1, g2⟩, g3⟩, g4⟩, g5⟩, g6⟩, g7⟩, g8⟩ := h
      subst g1
      obtain ⟨te, p, q⟩ := sf_cp1 (pos := p) Γok (sI Γok it L true t i' g2) g3 g4 g5 (sg_of (L := ⟨relS scope L.sc, fbC scope, L.xk⟩) Γok g6) (sC Γok cond ⟨relS scope L.sc, fbC scope, L.xk⟩ ifs g7) (sE Γok elt ⟨relS scope L.sc, fbC scope, L.xk⟩ false _ g8) (folded_of g2)
      refine ⟨te, fun X g => ?_, q⟩
      cases hb : (X.env.blockKind == .function && X.env.kindOf x == some .local && px.line == (Expr.ListComp x' [⟨t, i', ifs, 0⟩] scope _).pos.line && !(scope.names.any fun (n, k) => n == x && (k == .local || k == .cell))) with
      | true =>
        have hk : L.sc.names.lookup x = some .local := by
          simp only [Bool.and_eq_true] at hb
          have := hb.1.1.2
          rw [← g.sc]
          exact eq_of_beq this
        exact (p X g.toGood).2 i x px pos h1 hk (congrArg (fun b => (pure b : Sem Bool)) hb)
      | false =>
        exact ps_set (by rw [g.N]; exact Γok.nd) (by rw [g.N]; exact h1) (by rw [g.sc]; exact loc_of h2) (p X g.toGood).1 (congrArg (fun b => (pure b : Sem Bool)) hb) (by rw [g.fn, g.sc]; exact h3)
    · cases h
  | cp2 elt tg it cond tg1 it1 cond1 vs vs1 =>
    unfold mF at h
    split at h
    · rename_i x' t i' ifs a t1 i1 ifs1 a1 scope p
      simp only [Bool.and_eq_true, decide_eq_true_eq] at h
      obtain ⟨⟨⟨⟨⟨⟨⟨⟨⟨⟨⟨⟨⟨g1, g1'⟩, g2⟩, g3⟩, g4⟩, g5⟩, g6⟩, g7⟩, g8⟩, g9⟩, g10⟩, g11⟩, g12⟩, g13⟩ := h
      subst g1 g1'
      have hv1 : ∀ j ∈ vs1, j ∈ vs := fun j hj => by
        have := List.all_eq_true.mp g5 j hj
        simpa using this
      obtain ⟨te, p, q⟩ := sf_cp2 (pos := p) Γok (sI Γok it L true t i' g2) g3 g4 hv1 g6 g7 (sg_of (L := ⟨relS scope L.sc, fbC scope, L.xk⟩) Γok g8) (sC Γok cond ⟨relS scope L.sc, fbC scope, L.xk⟩ ifs g9) (sI Γok it1 ⟨relS scope L.sc, fbC scope, L.xk⟩ false t1 i1 g10)
        (sg_of (L := ⟨relS scope L.sc, fbC scope, L.xk⟩) Γok g11) (sC Γok cond1 ⟨relS scope L.sc, fbC scope, L.xk⟩ ifs1 g12) (sE Γok elt ⟨relS scope L.sc, fbC scope, L.xk⟩ false _ g13) (folded_of g2) (folded_of g10)
      refine ⟨te, fun X g => ?_, q⟩
      cases hb : (X.env.blockKind == .function && X.env.kindOf x == some .local && px.line == (Expr.ListComp x' [⟨t, i', ifs, 0⟩, ⟨t1, i1, ifs1, 0⟩] scope _).pos.line && !(scope.names.any fun (n, k) => n == x && (k == .local || k == .cell))) with
      | true =>
        have hk : L.sc.names.lookup x = some .local := by
          simp only [Bool.and_eq_true] at hb
          have := hb.1.1.2
          rw [← g.sc]
          exact eq_of_beq this
        exact (p X g.toGood).2 i x px pos h1 hk (congrArg (fun b => (pure b : Sem Bool)) hb)
      | false =>
        exact ps_set (by rw [g.N]; exact Γok.nd) (by rw [g.N]; exact h1) (by rw [g.sc]; exact loc_of h2) (p X g.toGood).1 (congrArg (fun b => (pure b : Sem Bool)) hb) (by rw [g.fn, g.sc]; exact h3)
    · cases h
/-- target = e -/
theorem sx_asg {c : Ex} {k : Tg} {tg : Expr} {pos : Pos} {cf gs} (hG : SG Γ L tg k) (hE : SE Γ L false e (ev cf gs false c))
    (hs : ∀ X, GoodS Γ L X → ∀ te g, PE X e te → PG X tg g → PS X (.Assign [tg] e pos) (tAsg te g)) :
    SX Γ L (.Assign [tg] e pos) fun env s => (ev cf gs false c env s).bind fun d s => match bindT k d env with
    | some env' => .ok (.nx env') s
    | none => .err := by
  obtain ⟨g, pG, qG⟩ := hG
  obtain ⟨t, p, q⟩ := hE
  refine ⟨tAsg t g, fun X gd => hs X gd _ _ (p X gd.toGood) (pG X gd.toGood), fun E0 σ H env st S φ Dn F f => ?_⟩
  obtain ⟨d, s1, e1, f1⟩ := f.bind
  refine SE.use q F.ei F.si e1 fun v H1 S1 φ1 x1 E1 I1 r1 => ?_
  have F1 := F.go x1 I1
  cases eb : bindT k d env with
  | none => rw [eb] at f1; exact False.elim f1
  | some env1 =>
    rw [eb] at f1
    exact qG v d σ H1 env env1 S1 φ1 s1 _ E1 I1 r1.val eb fun σ' w E2 => f1 σ' H1 S1 φ1 (x1.kp F.si) (FI.bind F1 E2 w.2)
theorem asg_name (Γok : CtxOk Γ) {x : Str} {px pos : Pos} (hl : isLcE e = false) : ∀ X, GoodS Γ L X → ∀ te g, PE X e te → PG X (.Name x px) g → PS X (.Assign [.Name x px] e pos) (tAsg te g) :=
  fun X gd te g he hg => ps_asg he hg (noSwapS hl _ _ _) rfl rfl
theorem asg_tup {ts : List Expr} {k : Nat} {pt pos : Pos} (hv : isTupE e = false) (hl : isLcE e = false) : ∀ X, GoodS Γ L X → ∀ te g, PE X e te → PG X (.Tuple ts k pt) g → PS X (.Assign [.Tuple ts k pt] e pos) (tAsg te g) :=
  fun X gd te g he hg => ps_asg he hg (noSwapS hl _ _ _) (by cases e <;> first | rfl | cases hv) rfl
theorem sx_ex {c : Ex} {pos : Pos} {cf gs} (hl : isLcE e = false) (hE : SE Γ L false e (ev cf gs false c)) : SX Γ L (.Expr e pos) fun env s => (ev cf gs false c env s).bind fun _ s => .ok (.nx env) s := by
  obtain ⟨t, p, q⟩ := hE
  refine ⟨tDrop t, fun X gd => ps_expr (p X gd.toGood) (noSwap hl _ _ _), fun E0 σ H env st S φ Dn F f => ?_⟩
  obtain ⟨d, s1, e1, f1⟩ := f.bind
  exact SE.use q F.ei F.si e1 fun v H1 S1 φ1 x1 E1 I1 r1 => f1 σ H1 S1 φ1 (x1.kp F.si) (F.go x1 I1)

/-! ### changes of a list -/
section
variable {K : PySem.W.Frag} {XE : XK} {E0 : Ent} {S S' S2 : Addr → Prop} {φ φ' φ2 : List Addr} {H H' H2 : Hp} {σ : L2.St} {env : Env} {st st' : Sto} {i : Nat} {f : List D → Option (List D)}
/-- the list that slot i holds -/
theorem chg_at {Dn : Ends} (F : FI K E0 S φ H σ env st) (h : FinX K XE E0 S φ H Dn (chg env i st f)) :
    ∃ a vs ds ds', σ[i]? = some (some (.ref a)) ∧ H a = some (.lst vs) ∧ RepL K S φ H vs ds ∧ f ds = some ds' ∧ ∀ vs', RepL K S φ H vs' ds' → Dn.nx σ (upd H a (.lst vs')) := by
  unfold chg at h
  split at h
  · rename_i ds he
    obtain ⟨a, vs, e1, e2, e3, e4, e5⟩ := F.ei.own i ds he
    split at h
    · rename_i ds' hf
      refine ⟨a, vs, ds, ds', e1, e2, e5, hf, fun vs' r' => ?_⟩
      have hS : ∀ b, S b → upd H a (.lst vs') b = H b := fun b hb => upd_ne (fun q => e3 (by rw [← q]; exact hb))
      have tr : ∀ {ws : List V} {es : List D}, RepL K S φ H ws es → RepL K S φ (upd H a (.lst vs')) ws es := fun r => r.tr hS (fun _ q => q) ⟨[], by simp⟩
      have n0 := F.own i ds a he e1
      have hd : ∀ b, H b ≠ none → upd H a (.lst vs') b ≠ none := fun b hb => by
        by_cases q : b = a
        · rw [q, upd_same]; simp
        · rw [upd_ne q]; exact hb
      refine h σ _ S φ ⟨fun _ q => q, hS, [], by simp⟩ ⟨⟨by simp [F.ei.len], fun j d hj => ?_, fun j es hj => ?_, fun j l es es' b h1 h2 h3 h4 => ?_⟩, ⟨fun b hb => hd b (F.si.dom b hb), F.si.dis, F.si.len, F.si.nd, fun n b o' h1 h2 => ?_⟩, ⟨fun b o hb hn => ?_, fun b hb => hd b (F.ent.some b hb), F.ent.sub, F.ent.new, F.ent.phi⟩, fun j es b hj hb => ?_⟩
      · rcases set_get hj with ⟨_, q, _⟩ | ⟨n, hj⟩
        · cases q
        · obtain ⟨v, q1, q2⟩ := F.ei.val j d hj
          exact ⟨v, q1, q2.tr hS (fun _ q => q) ⟨[], by simp⟩⟩
      · rcases set_get hj with ⟨rfl, q, hi⟩ | ⟨n, hj⟩
        · cases q; exact ⟨a, vs', e1, upd_same, e3, e4, tr r'⟩
        · obtain ⟨b, ws, q1, q2, q3, q4, q5⟩ := F.ei.own j es hj
          have hb : b ≠ a := fun q => n (F.ei.inj i j ds es a he hj e1 (by rw [← q]; exact q1))
          exact ⟨b, ws, q1, by rw [upd_ne hb]; exact q2, q3, q4, tr q5⟩
      · have back : ∀ {j : Nat} {es : List D}, (env.set i (some (.own ds')))[j]? = some (some (.own es)) → ∃ es', env[j]? = some (some (.own es')) := fun {j es} hj => by
          rcases set_get hj with ⟨rfl, q, hi⟩ | ⟨n, hj⟩
          · exact ⟨_, he⟩
          · exact ⟨_, hj⟩
        obtain ⟨_, h1⟩ := back h1
        obtain ⟨_, h2⟩ := back h2
        exact F.ei.inj j l _ _ b h1 h2 h3 h4
      · exact (F.si.obj n b o' h1 h2).tr hS (fun _ q => q) ⟨[], by simp⟩ (upd_ne (fun q => e4 (by rw [← q]; exact List.mem_of_getElem? h1)))
      · rw [upd_ne (fun q => by rw [q, n0] at hb; cases hb)]; exact F.ent.keep b o hb hn
      · rcases set_get hj with ⟨rfl, q, hi⟩ | ⟨n, hj⟩
        · exact F.own _ _ b he hb
        · exact F.own j es b hj hb
    · exact False.elim h
  · rename_i n he
    obtain ⟨v, e1, r⟩ := F.ei.val i _ he
    cases r with
    | @loc a _ hφ =>
      split at h
      · rename_i ds hs
        obtain ⟨vs, hv, rv⟩ := F.si.obj n a (.lst ds) hφ hs
        split at h
        · rename_i ds' hf
          refine ⟨a, vs, ds, ds', e1, hv, rv, hf, fun vs' r' => ?_⟩
          have hm : a ∈ φ := List.mem_of_getElem? hφ
          have x := Stp.chg (S := S) (o := .lst vs') (H := H) hm
          exact h σ _ S φ ⟨fun _ q => q, fun b hb => upd_ne (fun q => F.si.dis a hm (by rw [← q]; exact hb)), [], by simp⟩ ⟨F.ei.mono x F.si, F.si.chg hφ r', F.ent.trans x, F.own⟩
        · exact False.elim h
      · exact False.elim h
  · exact False.elim h
end
theorem getL_v {K : PySem.W.Frag} {S : Addr → Prop} {φ : List Addr} {H : Hp} {σ : L2.St} {env : Env} {st : Sto} {i : Nat} {ds : List D} (E : EI K S φ H σ env) (h : getL env i st = some ds) : ∃ a, σ[i]? = some (some (.ref a)) := by
  unfold getL at h
  split at h
  · rename_i es he
    obtain ⟨a, vs, e1, _⟩ := E.own i es he
    exact ⟨a, e1⟩
  · rename_i n he
    obtain ⟨v, e1, r⟩ := E.val i _ he
    cases r
    exact ⟨_, e1⟩
  · cases h
theorem getL_at {K : PySem.W.Frag} {S : Addr → Prop} {φ : List Addr} {H : Hp} {σ : L2.St} {env : Env} {st : Sto} {i : Nat} {ds : List D} (E : EI K S φ H σ env) (I : SI K S φ H st) (h : getL env i st = some ds) : ∃ a vs, σ[i]? = some (some (.ref a)) ∧ H a = some (.lst vs) ∧ RepL K S φ H vs ds := by
  unfold getL at h
  split at h
  · rename_i es he
    cases h
    obtain ⟨a, vs, e1, e2, _, _, r⟩ := E.own i ds he
    exact ⟨a, vs, e1, e2, r⟩
  · rename_i n he
    obtain ⟨v, e1, r⟩ := E.val i _ he
    cases r with
    | @loc a _ hφ =>
      split at h
      · rename_i es hs
        cases h
        obtain ⟨vs, hv, rv⟩ := I.obj n a (.lst ds) hφ hs
        exact ⟨a, vs, e1, hv, rv⟩
      · cases h
  · cases h
theorem isSome_get {α : Type} {x : Option α} (h : ¬ x.isNone = true) : ∃ a, x = some a := by
  cases x with
  | none => exact absurd rfl h
  | some a => exact ⟨a, rfl⟩
theorem pvar_of {i : Nat} {x : Str} {p : Pos} (h1 : Γ.m.N[i]? = some x) (h2 : visB L.sc x = true) (h3 : okN x = true) : ∀ X, Good Γ L X → PE X (.Name x p) (tVar i) := fun X g => by
  obtain ⟨n1, n2, _⟩ := okN_of h3
  exact pe_var (by rw [g.N]; exact h1) (by rw [g.sc]; exact vis_of h2) n1 n2
theorem sx_app {i : Nat} {x : Str} {y : Expr} {c : Ex} {p apos cpos pos : Pos} {cf gs} (h1 : Γ.m.N[i]? = some x) (h2 : visB L.sc x = true) (h3 : okN x = true) (hl : (apos.endLine == cpos.line) = true)
    (hst : ∀ env r, starEach (y :: r) env = (false, eval y env) :: starEach r env) (hE : SE Γ L false y (ev cf gs false c)) :
    SX Γ L (.Expr (.Call (.Attribute (.Name x p) ("append" : Str) apos) [y] [] cpos) pos) fun env s => if (getL env i s).isNone = true then .err else (ev cf gs false c env s).bind fun d s => chg env i s fun ds => if ds.length < LINE then some (ds ++ [d]) else none := by
  obtain ⟨t, p1, q1⟩ := hE
  refine ⟨tDrop (tBM Γ.K "list" rAppend (tVar i) (tCons t tNil)), fun X g => by
    rw [← g.K]
    exact ps_expr (pe_bm PySem.F.plainAttrs_list PySem.F.slot_list_append PySem.F.type_list_append mt_append (pvar_of h1 h2 h3 X g.toGood) (pa_cons (p1 X g.toGood) pa_nil (hst _ _)) rfl (by rw [hst]; rfl) hl (hst _ _) rfl) rfl, fun E0 σ H env st S φ Dn F f => ?_⟩
  by_cases hG : (getL env i st).isNone = true
  · simp only [hG, if_true] at f; exact False.elim f
  simp only [hG, Bool.false_eq_true, if_false] at f
  obtain ⟨ds00, hG2⟩ := isSome_get hG
  obtain ⟨a0, vs0, g1, g2, _⟩ := getL_at F.ei F.si hG2
  obtain ⟨d, s1, e1, f1⟩ := f.bind
  refine ⟨_, g1, .inl ⟨rfl, vs0, .inl (.inl g2)⟩, ?_⟩
  refine SE.use q1 F.ei F.si e1 fun v H1 S1 φ1 x1 E1 I1 r1 => ?_
  have F1 := F.go x1 I1
  obtain ⟨a, vs, ds, ds', k1, k2, k3, k4, k5⟩ := chg_at F1 (f1.kp (x1.kp F.si))
  rw [g1] at k1; cases k1
  by_cases hz : ds.length < LINE
  · rw [if_pos hz] at k4; cases k4
    exact ⟨_, vs, v, rfl, rfl, k2, by rw [k3.length]; exact hz, k5 _ (k3.append (.cons r1.val .nil))⟩
  · rw [if_neg hz] at k4; cases k4
theorem sx_ext {i : Nat} {x : Str} {y : Expr} {c : Ex} {p apos cpos pos : Pos} {cf gs} (h1 : Γ.m.N[i]? = some x) (h2 : visB L.sc x = true) (h3 : okN x = true) (hl : (apos.endLine == cpos.line) = true)
    (hst : ∀ env r, starEach (y :: r) env = (false, eval y env) :: starEach r env) (hE : SE Γ L true y (ev cf gs true c)) :
    SX Γ L (.Expr (.Call (.Attribute (.Name x p) ("extend" : Str) apos) [y] [] cpos) pos) fun env s => if (getL env i s).isNone = true then .err else (ev cf gs true c env s).bind fun d s => (match d with
    | .lst zs => chg env i s fun ds => if ds.length + zs.length ≤ LINE then some (ds ++ zs) else none
    | _ => .err) := by
  obtain ⟨t, p1, q1⟩ := hE
  refine ⟨tDrop (tBM Γ.K "list" rExtend (tVar i) (tCons t tNil)), fun X g => by
    rw [← g.K]
    exact ps_expr (pe_bm PySem.F.plainAttrs_list PySem.F.slot_list_extend PySem.F.type_list_extend mt_extend (pvar_of h1 h2 h3 X g.toGood) (pa_cons (p1 X g.toGood) pa_nil (hst _ _)) rfl (by rw [hst]; rfl) hl (hst _ _) rfl) rfl, fun E0 σ H env st S φ Dn F f => ?_⟩
  by_cases hG : (getL env i st).isNone = true
  · simp only [hG, if_true] at f; exact False.elim f
  simp only [hG, Bool.false_eq_true, if_false] at f
  obtain ⟨ds00, hG2⟩ := isSome_get hG
  obtain ⟨a0, vs0, g1, g2, _⟩ := getL_at F.ei F.si hG2
  obtain ⟨d, s1, e1, f1⟩ := f.bind
  cases d with
  | lst zs =>
    refine ⟨_, g1, .inl ⟨rfl, vs0, .inl (.inl g2)⟩, ?_⟩
    refine SE.use q1 F.ei F.si e1 fun v H1 S1 φ1 x1 E1 I1 r1 => ?_
    have F1 := F.go x1 I1
    obtain ⟨a, vs, ds, ds', k1, k2, k3, k4, k5⟩ := chg_at F1 (f1.kp (x1.kp F.si))
    rw [g1] at k1; cases k1
    obtain ⟨b, ws, rfl, hb, rb⟩ := r1.rd0.lst
    by_cases hz : ds.length + zs.length ≤ LINE
    · rw [if_pos hz] at k4; cases k4
      exact ⟨_, b, vs, ws, rfl, rfl, k2, hb, by rw [k3.length, rb.length]; exact hz, k5 _ (k3.append rb)⟩
    · rw [if_neg hz] at k4; cases k4
  | _ => exact False.elim f1
theorem sx_setV {i : Nat} {x : Str} {y : Expr} {c ck : Ex} {p sp pos : Pos} {cf gs} (h1 : Γ.m.N[i]? = some x) (h2 : visB L.sc x = true) (h3 : okN x = true) (hl : isLcE e = false)
    (hy : ∀ env v, assign (.Subscript (.Name x p) y sp) env v = (do
      let ov ← holding [v] (eval (.Name x p) env)
      let iv ← holding [v, ov] (eval y env)
      standAt sp
      holding [v, ov, iv] (setItem ov iv v)
      release [v, ov, iv] []))
    (hE : SE Γ L false e (ev cf gs false c)) (hK : SE Γ L true y (ev cf gs true ck)) :
    SX Γ L (.Assign [.Subscript (.Name x p) y sp] e pos) fun env s => if (getL env i s).isNone = true then .err else (ev cf gs false c env s).bind fun d s => (ev cf gs true ck env s).bind fun x s => (match x with
    | .int k => chg env i s fun ds => (L2.ixN ds.length k).map fun j => ds.set j d
    | _ => .err) := by
  obtain ⟨t, p1, q1⟩ := hE
  obtain ⟨t2, p2, q2⟩ := hK
  refine ⟨tAsg t (gSub (tVar i) t2 rSetL), fun X g => ps_asg (p1 X g.toGood) (pg_sub (pvar_of h1 h2 h3 X g.toGood) (p2 X g.toGood) set_list (hy _)) (noSwapS hl _ _ _) rfl rfl, fun E0 σ H env st S φ Dn F f => ?_⟩
  by_cases hG : (getL env i st).isNone = true
  · simp only [hG, if_true] at f; exact False.elim f
  simp only [hG, Bool.false_eq_true, if_false] at f
  obtain ⟨ds00, hG2⟩ := isSome_get hG
  obtain ⟨a0, vs0, g1, g2, _⟩ := getL_at F.ei F.si hG2
  obtain ⟨d, s1, e1, f1⟩ := f.bind
  obtain ⟨x, s2, e2, f2⟩ := f1.bind
  refine SE.use q1 F.ei F.si e1 fun v H1 S1 φ1 x1 E1 I1 r1 => ?_
  cases x with
  | int k =>
    refine ⟨_, g1, ?_⟩
    refine SE.use q2 E1 I1 e2 fun w H2 S2 φ2 x2 E2 I2 r2 => ?_
    have F2 := (F.go x1 I1).go x2 I2
    obtain ⟨a, vs, ds, ds', k1, k2, k3, k4, k5⟩ := chg_at F2 (f2.kp ((x1.kp F.si).trans (x2.kp I1)))
    rw [g1] at k1; cases k1
    cases ej : L2.ixN ds.length k with
    | none => rw [ej] at k4; cases k4
    | some j =>
      rw [ej] at k4; cases k4
      exact ⟨_, vs, k, j, rfl, r2.rd0.int, k2, by rw [k3.length]; exact ej, k5 _ (k3.set j (r1.val.mono x2 I1))⟩
  | _ => exact False.elim f2

/-! ### op= -/
def ipR (op : BOp) : TIp := ipI fun i j => (augI op i j).getD 0
def augB : BOp → Bool
  | .add => true
  | .sub => true
  | _ => false
theorem ip_of {X : Cx} {op : BOp} (h : augB op = true) : PIp X op.py (ipR op) := by
  cases op with
  | add => exact ip_add
  | sub => exact ip_sub
  | _ => cases h
theorem sx_aug {i : Nat} {x : Str} {c : Ex} {px pos : Pos} {cf gs} {op : BOp} (Γok : CtxOk Γ) (h1 : Γ.m.N[i]? = some x) (h2 : locB L.sc x = true) (h3 : L.fb x = true ∨ L.sc.names.lookup x = some .local) (ho : augB op = true) (hE : SE Γ L true e (ev cf gs true c)) :
    SX Γ L (.AugAssign (.Name x px) op.py e pos) fun env s => (match env[i]? with
    | some (some (.val (.int a))) => (ev cf gs true c env s).bind fun y s => (match y with
      | .int b => (match augI op a b with
        | some c => .ok (.nx (env.set i (some (.val (.int c))))) s
        | none => .err)
      | _ => .err)
    | _ => .err) := by
  obtain ⟨t, p, q⟩ := hE
  refine ⟨tAug i t (ipR op), fun X g => ps_aug (by rw [g.N]; exact Γok.nd) (by rw [g.N]; exact h1) (by rw [g.sc]; exact loc_of h2) (p X g.toGood) (ip_of ho) (by rw [g.fn, g.sc]; exact h3), fun E0 σ H env st S φ Dn F f => ?_⟩
  simp only at f
  split at f
  · rename_i a he
    obtain ⟨v, e1, r⟩ := F.ei.val i _ he
    cases r
    refine ⟨_, e1, ?_⟩
    obtain ⟨d, s1, ed, f1⟩ := f.bind
    refine SE.use q F.ei F.si ed fun w H1 S1 φ1 x1 E1 I1 r1 => ?_
    cases d with
    | int b =>
      simp only at f1
      cases r1.rd0.int
      split at f1
      · rename_i c hc
        refine ⟨a, b, rfl, rfl, ?_⟩
        show Dn.nx (σ.set i (some (.int ((augI op a b).getD 0)))) H1
        rw [hc]
        exact f1 _ H1 S1 φ1 (x1.kp F.si) ((F.go x1 I1).setV (.int _))
      · exact False.elim f1
    | _ => exact False.elim f1
  · exact False.elim f
theorem sx_augV {i : Nat} {x : Str} {y : Expr} {c ck : Ex} {p sp pos : Pos} {cf gs} {op : BOp} (h1 : Γ.m.N[i]? = some x) (h2 : visB L.sc x = true) (h3 : okN x = true) (ho : augB op = true)
    (hy : ∀ ov iv new, augStore y ov iv new = (do holding [new, ov, iv] (setItem ov iv new); release [new, ov, iv] []; pure .next)) (hK : SE Γ L true y (ev cf gs true ck)) (hE : SE Γ L true e (ev cf gs true c)) :
    SX Γ L (.AugAssign (.Subscript (.Name x p) y sp) op.py e pos) fun env s => (ev cf gs true ck env s).bind fun x s => (match x with
    | .int k => (match getL env i s with
      | some ds => (match L2.atI ds k with
        | some (.int a) => (ev cf gs true c env s).bind fun y s => (match y with
          | .int b => (match augI op a b with
            | some c => chg env i s fun ds => (L2.ixN ds.length k).map fun j => ds.set j (.int c)
            | none => .err)
          | _ => .err)
        | _ => .err)
      | none => .err)
    | _ => .err) := by
  obtain ⟨t1, p1, q1⟩ := hK
  obtain ⟨t2, p2, q2⟩ := hE
  refine ⟨tAugS (tVar i) t1 t2 rGetL (ipR op) rSetL, fun X g => ps_augS (pvar_of h1 h2 h3 X g.toGood) (p1 X g.toGood) get_list (p2 X g.toGood) (ip_of ho) set_list hy, fun E0 σ H env st S φ Dn F f => ?_⟩
  obtain ⟨dk, s1, e1, f1⟩ := f.bind
  cases dk with
  | int k =>
    simp only at f1
    split at f1
    · rename_i ds hg
      split at f1
      · rename_i a hat
        obtain ⟨d2, s2, e2, f2⟩ := f1.bind
        obtain ⟨ad, g1⟩ := getL_v F.ei hg
        refine ⟨_, g1, ?_⟩
        refine SE.use q1 F.ei F.si e1 fun v H1 S1 φ1 x1 E1 I1 r1 => ?_
        obtain ⟨ad', vs, g2, g3, g4⟩ := getL_at E1 I1 hg
        rw [g1] at g2; cases g2
        obtain ⟨va, hva, ra⟩ := g4.atI hat
        cases ra
        refine ⟨ad, vs, k, _, rfl, r1.rd0.int, g3, hva, ?_⟩
        refine SE.use q2 E1 I1 e2 fun w H2 S2 φ2 x2 E2 I2 r2 => ?_
        cases d2 with
        | int b =>
          simp only at f2
          split at f2
          · rename_i c hc
            have F2 := (F.go x1 I1).go x2 I2
            obtain ⟨a3, vs3, ds3, ds3', k1, k2, k3, k4, k5⟩ := chg_at F2 (f2.kp ((x1.kp F.si).trans (x2.kp I1)))
            rw [g1] at k1; cases k1
            cases r2.rd0.int
            refine ⟨a, b, rfl, rfl, ?_⟩
            simp only [hc, Option.getD_some]
            cases ej : L2.ixN ds3.length k with
            | none => rw [ej] at k4; cases k4
            | some j =>
              rw [ej] at k4; cases k4
              exact ⟨ad, vs3, k, j, rfl, r1.rd0.int, k2, by rw [k3.length]; exact ej, k5 _ (k3.set j (.int c))⟩
          · exact False.elim f2
        | _ => exact False.elim f2
      · exact False.elim f1
    · exact False.elim f1
  | _ => exact False.elim f1
end
end PV
set_option maxRecDepth 100000
set_option maxHeartbeats 4000000
/-! Stores side by side; all statements. -/
namespace PV
open PySem PySem.Spec PyProof.Rows L2
inductive RepP (K : PySem.W.Frag) (S : Addr → Prop) (φ : List Addr) (H : Hp) : (Addr → Prop) → List V → List SV → Prop
  | nil {T : Addr → Prop} : RepP K S φ H T [] []
  | val {T : Addr → Prop} {v : V} {d : D} {vs : List V} {sv : List SV} : Rep K S φ H v d → RepP K S φ H T vs sv → RepP K S φ H T (v :: vs) (.val d :: sv)
  | own {T : Addr → Prop} {a : Addr} {ws : List V} {ds : List D} {vs : List V} {sv : List SV} : ¬ T a → ¬ S a → a ∉ φ → H a = some (.lst ws) → RepL K S φ H ws ds → RepP K S φ H (fun b => T b ∨ b = a) vs sv → RepP K S φ H T (.ref a :: vs) (.own ds :: sv)
def FinP (K : PySem.W.Frag) (S : Addr → Prop) (φ : List Addr) (H : Hp) (Q : List V → Hp → Prop) : Out (List SV) → Prop
  | .ok sv st' => ∀ vs H' S' φ', Stp S φ H S' φ' H' → SI K S' φ' H' st' → RepP K S' φ' H' (fun a => H a ≠ none) vs sv → Q vs H'
  | .err => False
def SP (Γ : Ctx) (L : LC) (es : List Expr) (m : Env → Sto → Out (List SV)) : Prop :=
  ∃ t : TA, (∀ X, Good Γ L X → PA X es t) ∧ ∀ σ H env st S φ Q, EI Γ.K S φ H σ env → SI Γ.K S φ H st → FinP Γ.K S φ H Q (m env st) → t σ H Q
def setSt (σ : L2.St) : List Nat → List V → L2.St
  | i :: is, v :: vs => setSt (σ.set i (some v)) is vs
  | _, _ => σ
section
variable {K : PySem.W.Frag} {XE : XK} {E0 : Ent} {S S' : Addr → Prop} {φ φ' : List Addr} {H H' : Hp} {σ : L2.St} {env : Env} {st : Sto}
theorem RepP.mono {T T' : Addr → Prop} {vs : List V} {sv : List SV} (h : RepP K S φ H T vs sv) : (∀ a, T' a → T a) → RepP K S φ H T' vs sv := by
  intro ht
  induction h generalizing T' with
  | nil => exact .nil
  | val r _ ih => exact .val r (ih ht)
  | own n1 n2 n3 h1 h2 _ ih => exact .own (fun q => n1 (ht _ q)) n2 n3 h1 h2 (ih fun b q => q.elim (fun q => .inl (ht b q)) .inr)
theorem RepP.length {T : Addr → Prop} {vs : List V} {sv : List SV} (h : RepP K S φ H T vs sv) : vs.length = sv.length := by
  induction h with
  | nil => rfl
  | val _ _ ih => simp [ih]
  | own _ _ _ _ _ _ ih => simp [ih]
theorem RepP.alloc0 {T : Addr → Prop} {vs : List V} {sv : List SV} {p : Addr} {o : HO} (I : SI K S φ H st) (hp : H p = none) (h : RepP K S φ H T vs sv) : RepP K S φ (upd H p o) T vs sv := by
  induction h with
  | nil => exact .nil
  | val r _ ih => exact .val (r.mono (Stp.alloc0 hp) I) ih
  | own n1 n2 n3 h1 h2 _ ih => exact .own n1 n2 n3 (by rw [upd_ne (ne_of_none h1 hp)]; exact h1) (h2.mono (Stp.alloc0 hp) I) ih
theorem FI.setAll : ∀ {is : List Nat} {vs : List V} {sv : List SV} {σ : L2.St} {env env' : Env} {T : Addr → Prop}, FI K E0 S φ H σ env st → RepP K S φ H T vs sv → (∀ a, E0.H a ≠ none → T a) →
    (∀ (j : Nat) es b, env[j]? = some (some (.own es)) → σ[j]? = some (some (.ref b)) → T b) → setAll env is sv = some env' → FI K E0 S φ H (setSt σ is vs) env' st
  | [], vs, sv, σ, env, env', T, F, r, h1, h2, e => by
    cases sv with
    | nil => cases r; cases e; exact F
    | cons x sv => cases e
  | i :: is, vs, sv, σ, env, env', T, F, r, h1, h2, e => by
    cases r with
    | nil => cases e
    | val r rs =>
      simp only [setSt]
      refine FI.setAll (F.setV r) rs h1 (fun j es b q1 q2 => ?_) e
      rcases set_get q1 with ⟨_, q, _⟩ | ⟨n, q⟩
      · cases q
      · rw [List.getElem?_set_ne n] at q2; exact h2 j es b q q2
    | own n1 n2 n3 g1 g2 rs =>
      simp only [setSt]
      refine FI.setAll (F.setO (Classical.byContradiction fun q => n1 (h1 _ q)) (fun j es q1 q2 => n1 (h2 j es _ q1 q2)) n2 n3 g1 g2) rs (fun a q => .inl (h1 a q)) (fun j es b q1 q2 => ?_) e
      rcases set_get q1 with ⟨rfl, q, hi⟩ | ⟨n, q⟩
      · rw [List.getElem?_set_self (by rw [← F.ei.len]; exact hi)] at q2; cases q2; exact .inr rfl
      · rw [List.getElem?_set_ne n] at q2; exact .inl (h2 j es b q q2)
theorem setAll_len : ∀ {is : List Nat} {sv : List SV} {env env' : Env}, setAll env is sv = some env' → is.length = sv.length
  | [], [], _, _, _ => rfl
  | [], _ :: _, _, _, e => by cases e
  | _ :: _, [], _, _, e => by cases e
  | i :: is, v :: sv, env, env', e => by
    have : setAll (env.set i (some v)) is sv = some env' := e
    simp [setAll_len this]
end
section
variable {Γ : Ctx} {L : LC} {e : Expr}
theorem FinP.bind {α : Type} {K : PySem.W.Frag} {S : Addr → Prop} {φ : List Addr} {H : Hp} {Q : List V → Hp → Prop} {m : Out α} {f : α → Sto → Out (List SV)} (h : FinP K S φ H Q (m.bind f)) : ∃ x st, m = .ok x st ∧ FinP K S φ H Q (f x st) := by
  cases m with
  | ok x st => exact ⟨x, st, rfl, h⟩
  | err => exact h.elim
theorem sp_nil {cf gs} : SP Γ L [] (evP cf gs .nil) :=
  ⟨tNil, fun X _ => pa_nil, fun σ H env st S φ Q E I f => by unfold evP at f; exact f [] H S φ .refl I .nil⟩
theorem sp_v {c : Ex} {ps : Pxs} {es : List Expr} {cf gs} (hst : ∀ env, starEach (e :: es) env = (false, eval e env) :: starEach es env) (h1 : SE Γ L false e (ev cf gs false c)) (h2 : SP Γ L es (evP cf gs ps)) : SP Γ L (e :: es) (evP cf gs (.v c ps)) := by
  obtain ⟨t1, p1, q1⟩ := h1
  obtain ⟨t2, p2, q2⟩ := h2
  refine ⟨tCons t1 t2, fun X g => pa_cons (p1 X g) (p2 X g) (hst _), fun σ H env st S φ Q E I f => ?_⟩
  unfold evP at f
  obtain ⟨d, s1, e1, f1⟩ := f.bind
  obtain ⟨r, s2, e2, f2⟩ := f1.bind
  refine SE.use q1 E I e1 fun v H1 S1 φ1 x1 E1 I1 r1 => ?_
  refine q2 σ H1 env s1 S1 φ1 _ E1 I1 ?_
  rw [e2]
  exact fun vs H2 S2 φ2 x2 I2 rs => f2 _ H2 S2 φ2 (x1.trans x2) I2 (.val (r1.val.mono x2 I1) (rs.mono fun a h => x1.some a h))
theorem sp_o {c : Fx} {ps : Pxs} {es : List Expr} {cf gs} (hst : ∀ env, starEach (e :: es) env = (false, eval e env) :: starEach es env) (h1 : SF Γ L e (evF cf gs c)) (h2 : SP Γ L es (evP cf gs ps)) : SP Γ L (e :: es) (evP cf gs (.o c ps)) := by
  obtain ⟨t1, p1, q1⟩ := h1
  obtain ⟨t2, p2, q2⟩ := h2
  refine ⟨tCons t1 t2, fun X g => pa_cons (p1 X g) (p2 X g) (hst _), fun σ H env st S φ Q E I f => ?_⟩
  unfold evP at f
  obtain ⟨d, s1, e1, f1⟩ := f.bind
  obtain ⟨r, s2, e2, f2⟩ := f1.bind
  refine q1 σ H env st S φ _ E I ?_
  rw [e1]
  intro a ws H1 S1 φ1 x1 I1 hn n1 n2 h1 r1
  refine q2 σ H1 env s1 S1 φ1 _ (E.mono x1 I) I1 ?_
  rw [e2]
  refine fun vs H2 S2 φ2 x2 I2 rs => f2 _ H2 S2 φ2 (x1.trans x2) I2 (.own (fun q => q hn) (fun q => ?_) (fun q => ?_) (x2.keep a _ h1 n2) (r1.mono x2 I1) (rs.mono fun b h => ?_))
  · rcases x2.new a q with q | q
    · exact n1 q
    · rw [h1] at q; cases q
  · obtain ⟨ψ, eψ, hf⟩ := x2.phi
    rw [eψ] at q
    rcases List.mem_append.mp q with q | q
    · exact n2 q
    · have := hf a q; rw [h1] at this; cases this
  · rcases h with h | h
    · exact x1.some b h
    · rw [h, h1]; simp

/-! ### a, b = x, y -/
def noStar : Expr → Bool
  | .Starred _ _ => false
  | _ => true
def nmsB (m : MC) (fb : Str → Bool) (sc : Scope) : List Nat → List Expr → Bool
  | [], [] => true
  | i :: is, .Name x _ :: ts => decide (m.N[i]? = some x) && locB sc x && (fb x || decide (sc.names.lookup x = some .local)) && nmsB m fb sc is ts
  | _, _ => false
def swB (sc : Scope) (is : List Nat) (ts es : List Expr) : Bool := match is, ts, es with
  | [i, j], [.Name x px, .Name y py], [a, b] => decide (i ≠ j) && decide (x ≠ y) && (py.line == px.line) && (sc.names.lookup x == some .local) && (sc.names.lookup y == some .local) && (sc.kind == .function) && noStar a && noStar b && !([a, b].all (foldedForSure 8)) && !([a, b].all (constantsAlone 8))
  | [i, j, l], [.Name x px, .Name y py, .Name z pz], [a, b, c] => decide (i ≠ j) && decide (i ≠ l) && decide (j ≠ l) && decide (x ≠ y) && decide (x ≠ z) && decide (y ≠ z) && (py.line == px.line) && (pz.line == px.line) && (sc.names.lookup x == some .local) && (sc.names.lookup y == some .local) && (sc.names.lookup z == some .local) && (sc.kind == .function) && noStar a && noStar b && noStar c && !([a, b, c].all (foldedForSure 8)) && !([a, b, c].all (constantsAlone 8))
  | _, _, _ => false
def notLocal (sc : Scope) : Expr → Bool
  | .Name x _ => !(sc.names.lookup x == some .local)
  | .Attribute _ _ _ => true
  | _ => false
def unB (sc : Scope) (ts es : List Expr) : Bool := !(ts.length == 2 || ts.length == 3) || es.all (foldedForSure 8) || ts.any (notLocal sc)
theorem fm_lt {α β : Type} {f : α → Option β} : ∀ {l : List α}, (∃ x ∈ l, f x = none) → (l.filterMap f).length < l.length
  | [], h => by obtain ⟨x, hx, _⟩ := h; cases hx
  | a :: l, h => by
    have le := List.length_filterMap_le f l
    cases e : f a with
    | none => rw [List.filterMap_cons_none e]; simp only [List.length_cons]; omega
    | some b =>
      rw [List.filterMap_cons_some e]
      obtain ⟨x, hx, hn⟩ := h
      rcases List.mem_cons.mp hx with q | q
      · rw [q, e] at hn; cases hn
      · have := fm_lt (f := f) (l := l) ⟨x, q, hn⟩
        simp only [List.length_cons]; omega
def gNs : List Nat → TGs
  | [] => gNil
  | i :: is => gCons (gName i) (gNs is)
theorem gNs_sem : ∀ {is : List Nat} {vs : List V} {σ : L2.St} {H : Hp} {Q : L2.St → Hp → Prop}, vs.length = is.length → Q (setSt σ is vs) H → gNs is vs σ H Q
  | [], vs, σ, H, Q, hl, h => by
    cases vs with
    | nil => exact ⟨rfl, h⟩
    | cons v vs => cases hl
  | i :: is, vs, σ, H, Q, hl, h => by
    cases vs with
    | nil => cases hl
    | cons v vs => exact ⟨v, vs, rfl, gNs_sem (by simpa using hl) h⟩
theorem pgs_nms (Γok : CtxOk Γ) : ∀ {is : List Nat} {ts : List Expr}, nmsB Γ.m L.fb L.sc is ts = true → ∀ X, Good Γ L X → PGs X ts (gNs is) ∧ (∀ env, (assignEach ts env).length = is.length) ∧ ∀ env, (assignEach ts env).findIdx? (·.1) = none
  | [], [], _, X, g => ⟨pgs_nil, fun _ => rfl, fun _ => rfl⟩
  | i :: is, .Name x p :: ts, h, X, g => by
    have h' : (decide (Γ.m.N[i]? = some x) && locB L.sc x && (L.fb x || decide (L.sc.names.lookup x = some .local)) && nmsB Γ.m L.fb L.sc is ts) = true := h
    simp only [Bool.and_eq_true, Bool.or_eq_true, decide_eq_true_eq] at h'
    obtain ⟨⟨⟨h1, h2⟩, h3⟩, h4⟩ := h'
    obtain ⟨a, b, c⟩ := pgs_nms Γok h4 X g
    have hs : ∀ env, assignEach (.Name x p :: ts) env = (false, assign (.Name x p) env) :: assignEach ts env := fun _ => rfl
    exact ⟨pgs_cons (pg_name (by rw [g.N]; exact Γok.nd) (by rw [g.N]; exact h1) (by rw [g.sc]; exact loc_of h2) (by rw [g.fn, g.sc]; exact h3)) a rfl, fun env => by rw [hs]; simp [b env], fun env => by rw [hs, List.findIdx?_cons]; simp [c env]⟩
theorem sw_un {ts es : List Expr} {kt k2 : Nat} {pt p2 : Pos} {env : PySem.Env} {sc : Scope} (hs : env.scope = sc) (h : unB sc ts es = true) : swappedStores [.Tuple ts kt pt] (.Tuple es k2 p2) env = pure none := by
  unfold unB at h
  rw [Bool.or_eq_true, Bool.or_eq_true] at h
  unfold swappedStores
  dsimp only
  rcases h with (h | h) | h
  · rw [h]; exact if_pos rfl
  · split
    · rfl
    · split
      · rfl
      · split
        all_goals first | rfl | exact if_pos h | (rename_i q; exact absurd h q)
  · obtain ⟨x, hx, hn⟩ := List.any_eq_true.mp h
    split
    · rfl
    · split
      · rfl
      · refine if_pos ?_
        rw [Bool.or_eq_true]
        left
        rw [bne_iff_ne]
        refine Nat.ne_of_lt (fm_lt ⟨x, hx, ?_⟩)
        cases x with
        | Name y p =>
          have e : (env.kindOf y == some .local) = false := by
            unfold Env.kindOf
            rw [hs]
            simpa [notLocal] using hn
          show (if (env.kindOf y == some .local && _) = true then some y else none) = none
          rw [e]; rfl
        | Attribute o f p => rfl
        | _ => cases hn
theorem kind_of {env : PySem.Env} {sc : Scope} (h : env.scope = sc) (hk : (sc.kind == ScopeKind.function) = true) : (env.blockKind != ScopeKind.function) = false := by
  have e : sc.kind = .function := eq_of_beq hk
  unfold Env.blockKind
  rw [h, e]; rfl
theorem star_any {a : Expr} (h : noStar a = true) : (match a with | .Starred .. => true | _ => false) = false := by
  cases a <;> first | rfl | cases h
theorem sw_2 {x y : Str} {px py : Pos} {a b : Expr} {i j kt k2 : Nat} {pt p2 : Pos} {env : PySem.Env} {sc : Scope} (hs : env.scope = sc) (h : swB sc [i, j] [.Name x px, .Name y py] [a, b] = true) : i ≠ j ∧ sc.names.lookup x = some .local ∧ sc.names.lookup y = some .local ∧ swappedStores [.Tuple [.Name x px, .Name y py] kt pt] (.Tuple [a, b] k2 p2) env = pure (some [x, y]) := by
  simp only [swB, Bool.and_eq_true, decide_eq_true_eq, Bool.not_eq_true'] at h
  obtain ⟨⟨⟨⟨⟨⟨⟨⟨⟨h1, h2⟩, h3⟩, h4⟩, h5⟩, h6⟩, h7⟩, h8⟩, h9⟩, h10⟩ := h
  have k := kind_of hs h6
  refine ⟨h1, eq_of_beq h4, eq_of_beq h5, ?_⟩
  have hx : (env.kindOf x == some .local) = true := by unfold Env.kindOf; rw [hs]; exact h4
  have hy : (env.kindOf y == some .local) = true := by unfold Env.kindOf; rw [hs]; exact h5
  have hd : [x, y].eraseDups = [x, y] := by simp [List.eraseDups_cons, h2, Ne.symm h2]
  unfold swappedStores
  simp only [k, List.length_cons, List.length_nil, List.any_cons, List.any_nil, h9, h10, List.head?_cons, Option.map_some, Option.getD_some, Expr.pos, List.filterMap_cons, List.filterMap_nil, hx, hy, h3, beq_self_eq_true, Bool.and_self, if_true, hd]
  refine (if_neg (by decide)).trans ((if_neg fun q => ?_).trans rfl)
  simp only [Bool.or_eq_true, Bool.or_false] at q
  rcases q with q | q
  · cases a <;> first | (cases h7; done) | (cases q; done)
  · cases b <;> first | (cases h8; done) | (cases q; done)
theorem sw_3 {x y z : Str} {px py pz : Pos} {a b c : Expr} {i j l kt k2 : Nat} {pt p2 : Pos} {env : PySem.Env} {sc : Scope} (hs : env.scope = sc) (h : swB sc [i, j, l] [.Name x px, .Name y py, .Name z pz] [a, b, c] = true) : i ≠ j ∧ i ≠ l ∧ j ≠ l ∧ sc.names.lookup x = some .local ∧ sc.names.lookup y = some .local ∧ sc.names.lookup z = some .local ∧ swappedStores [.Tuple [.Name x px, .Name y py, .Name z pz] kt pt] (.Tuple [a, b, c] k2 p2) env = pure (some [x, y, z]) := by
  simp only [swB, Bool.and_eq_true, decide_eq_true_eq, Bool.not_eq_true'] at h
  obtain ⟨⟨⟨⟨⟨⟨⟨⟨⟨⟨⟨⟨⟨⟨⟨⟨g1, g2⟩, g3⟩, g4⟩, g5⟩, g6⟩, g7⟩, g8⟩, g9⟩, g10⟩, g11⟩, g12⟩, g13⟩, g14⟩, g15⟩, g16⟩, g17⟩ := h
  have k := kind_of hs g12
  refine ⟨g1, g2, g3, eq_of_beq g9, eq_of_beq g10, eq_of_beq g11, ?_⟩
  have hx : (env.kindOf x == some .local) = true := by unfold Env.kindOf; rw [hs]; exact g9
  have hy : (env.kindOf y == some .local) = true := by unfold Env.kindOf; rw [hs]; exact g10
  have hz : (env.kindOf z == some .local) = true := by unfold Env.kindOf; rw [hs]; exact g11
  have hd : [x, y, z].eraseDups = [x, y, z] := by simp [List.eraseDups_cons, g4, g5, g6, Ne.symm g4, Ne.symm g5, Ne.symm g6]
  unfold swappedStores
  simp only [k, List.length_cons, List.length_nil, List.any_cons, List.any_nil, g16, g17, List.head?_cons, Option.map_some, Option.getD_some, Expr.pos, List.filterMap_cons, List.filterMap_nil, hx, hy, hz, g7, g8, beq_self_eq_true, Bool.and_self, if_true, hd]
  refine (if_neg (by decide)).trans ((if_neg fun q => ?_).trans rfl)
  simp only [Bool.or_eq_true, Bool.or_false] at q
  rcases q with q | q | q
  · cases a <;> first | (cases g13; done) | (cases q; done)
  · cases b <;> first | (cases g14; done) | (cases q; done)
  · cases c <;> first | (cases g15; done) | (cases q; done)
theorem FinP.imp {K : PySem.W.Frag} {S : Addr → Prop} {φ : List Addr} {H : Hp} {Q Q' : List V → Hp → Prop} {m : Out (List SV)} (h : FinP K S φ H Q m) (k : ∀ vs H, Q vs H → Q' vs H) : FinP K S φ H Q' m := by
  cases m with
  | ok sv s => exact fun vs H' S' φ' x I r => k _ _ (h vs H' S' φ' x I r)
  | err => exact h
/-- the side-by-side store: what is asked of the values -/
def ParQ (is : List Nat) (Dn : Ends) (σ : L2.St) (vs : List V) (H : Hp) : Prop := vs.length = is.length ∧ Dn.nx (setSt σ is vs) H ∧ ∀ p, H p = none → Dn.nx (setSt σ is vs) (upd H p (.tup vs))
theorem par_ps (Γok : CtxOk Γ) {is : List Nat} {ts es : List Expr} {kt k2 : Nat} {pt p2 pos : Pos} (hn : nmsB Γ.m L.fb L.sc is ts = true) (hz : is.length ≤ 1000) (h : (unB L.sc ts es || swB L.sc is ts es) = true) :
    ∃ tX : TA → TS, (∀ X ta, GoodS Γ L X → PA X es ta → PS X (.Assign [.Tuple ts kt pt] (.Tuple es k2 p2) pos) (tX ta)) ∧ ∀ (t : TA) Dn σ H, (∀ Q : List V → Hp → Prop, (∀ vs H, ParQ is Dn σ vs H → Q vs H) → t σ H Q) → tX t Dn σ H := by
  rw [Bool.or_eq_true] at h
  rcases h with h | h
  · refine ⟨fun ta => tAsg (tTup ta) (gTup Γ.K is.length (gNs is)), fun X ta g ha => ?_, fun t Dn σ H q => q _ fun vs H1 z => ?_⟩
    · obtain ⟨a, b, c⟩ := pgs_nms Γok hn X g.toGood
      rw [← g.K]
      exact ps_asg (pe_tup ha) (pg_tup g.calm a (b _) (c _)) rfl (sw_un g.sc h) rfl
    · obtain ⟨z1, z2, z3⟩ := z
      exact ⟨by rw [z1]; exact Nat.le_trans hz (by decide), fun p hp => ⟨p, vs, rfl, .inl (.inl upd_same), z1, gNs_sem z1 (z3 p hp)⟩⟩
  · unfold swB at h
    split at h
    · rename_i i j x px y py a b
      have h' : swB L.sc [i, j] [.Name x px, .Name y py] [a, b] = true := h
      refine ⟨fun ta => tPar i j ta, fun X ta g ha => ?_, fun t Dn σ H q => q _ fun vs H1 z => ?_⟩
      · obtain ⟨g1, g2, g3, g4⟩ := sw_2 (kt := kt) (pt := pt) (k2 := k2) (p2 := p2) (env := X.env) g.sc h'
        have n1 : nmsB Γ.m L.fb L.sc [i, j] [.Name x px, .Name y py] = true := hn
        simp only [nmsB, Bool.and_eq_true, decide_eq_true_eq] at n1
        exact ps_par g.calm (by rw [g.N]; exact Γok.nd) (by rw [g.N]; exact n1.1.1.1) (by rw [g.N]; exact n1.2.1.1.1) g1 (by rw [g.sc]; exact g2) (by rw [g.sc]; exact g3) ha g4 rfl
      · obtain ⟨z1, z2, z3⟩ := z
        match vs, z1, z2 with
        | [v, w], _, z2 => exact ⟨v, w, rfl, z2⟩
    · rename_i i j l x px y py z pz a b c
      have h' : swB L.sc [i, j, l] [.Name x px, .Name y py, .Name z pz] [a, b, c] = true := h
      refine ⟨fun ta => tPar3 i j l ta, fun X ta g ha => ?_, fun t Dn σ H q => q _ fun vs H1 z => ?_⟩
      · obtain ⟨g1, g2, g3, g4, g5, g6, g7⟩ := sw_3 (kt := kt) (pt := pt) (k2 := k2) (p2 := p2) (env := X.env) g.sc h'
        have n1 : nmsB Γ.m L.fb L.sc [i, j, l] [.Name x px, .Name y py, .Name z pz] = true := hn
        simp only [nmsB, Bool.and_eq_true, decide_eq_true_eq] at n1
        exact ps_par3 g.calm (by rw [g.N]; exact Γok.nd) (by rw [g.N]; exact n1.1.1.1) (by rw [g.N]; exact n1.2.1.1.1) (by rw [g.N]; exact n1.2.2.1.1.1) g1 g2 g3 (by rw [g.sc]; exact g4) (by rw [g.sc]; exact g5) (by rw [g.sc]; exact g6) ha g7 rfl
      · obtain ⟨z1, z2, z3⟩ := z
        match vs, z1, z2 with
        | [v, w, u], _, z2 => exact ⟨v, w, u, rfl, z2⟩
    · cases h
theorem sx_par (Γok : CtxOk Γ) {is : List Nat} {ts es : List Expr} {kt k2 : Nat} {pt p2 pos : Pos} {cf gs} {ps : Pxs} (hn : nmsB Γ.m L.fb L.sc is ts = true) (hz : is.length ≤ 1000) (h : (unB L.sc ts es || swB L.sc is ts es) = true) (hP : SP Γ L es (evP cf gs ps)) :
    SX Γ L (.Assign [.Tuple ts kt pt] (.Tuple es k2 p2) pos) fun env s => (evP cf gs ps env s).bind fun vs s => match setAll env is vs with
    | some env' => .ok (.nx env') s
    | none => .err := by
  obtain ⟨tX, pX, qX⟩ := par_ps (kt := kt) (pt := pt) (k2 := k2) (p2 := p2) (pos := pos) Γok hn hz h
  obtain ⟨t, p, q⟩ := hP
  refine ⟨tX t, fun X g => pX X t g (p X g.toGood), fun E0 σ H env st S φ Dn F f => qX t Dn σ H fun Q hQ => ?_⟩
  obtain ⟨sv, s1, e1, f1⟩ := f.bind
  refine q σ H env st S φ Q F.ei F.si ?_
  rw [e1]
  intro vs H1 S1 φ1 x1 I1 r
  cases ea : setAll env is sv with
  | none => rw [ea] at f1; exact False.elim f1
  | some env1 =>
    rw [ea] at f1
    have F1 := F.go x1 I1
    have own : ∀ (j : Nat) es b, env[j]? = some (some (.own es)) → σ[j]? = some (some (.ref b)) → H b ≠ none := fun j es b h1 h2 => by
      obtain ⟨c, ws, g1, g2, _⟩ := F.ei.own j es h1
      rw [h2] at g1; cases g1; rw [g2]; simp
    refine hQ vs H1 ⟨by rw [r.length, setAll_len ea], f1 _ H1 S1 φ1 (x1.kp F.si) (F1.setAll r (fun a h => F.ent.some a h) own ea), fun pp hp => ?_⟩
    have x2 : Stp S1 φ1 H1 S1 φ1 (upd H1 pp (.tup vs)) := Stp.alloc0 hp
    exact f1 _ _ S1 φ1 ((x1.kp F.si).trans (x2.kp I1)) ((F1.go x2 (I1.alloc0 hp)).setAll (r.alloc0 I1 hp) (fun a h => F.ent.some a h) own ea)
end
end PV
set_option maxRecDepth 100000
set_option maxHeartbeats 4000000
/-! self.a, self.b = x, y. -/
namespace PV
open PySem PySem.Spec PyProof.Rows L2
def putVs (us : List (Str × V)) : List (Str × V) → List (Str × V)
  | [] => us
  | (f, y) :: r => putVs (putF f y us) r
section
variable {K : PySem.W.Frag} {S : Addr → Prop} {φ : List Addr} {H : Hp}
theorem put_rep {f : Str} {v : V} {d : D} (r : Rep K S φ H v d) : ∀ {us : List (Str × V)} {fs : List (Str × D)}, us.map (·.1) = fs.map (·.1) → RepL K S φ H (us.map (·.2)) (fs.map (·.2)) → (putF f v us).map (·.1) = (putD f d fs).map (·.1) ∧ RepL K S φ H ((putF f v us).map (·.2)) ((putD f d fs).map (·.2))
  | [], [], _, _ => ⟨rfl, .cons r .nil⟩
  | [], _ :: _, e, _ => by cases e
  | _ :: _, [], e, _ => by cases e
  | (g, w) :: us, (g', d') :: fs, e, h => by
    simp only [List.map_cons, List.cons.injEq] at e
    obtain ⟨e1, e2⟩ := e
    subst e1
    cases h with
    | cons h1 h2 =>
      unfold putF putD
      by_cases q : g = f
      · rw [if_pos q, if_pos q]
        exact ⟨by simp [e2], .cons r h2⟩
      · rw [if_neg q, if_neg q]
        obtain ⟨a, b⟩ := put_rep r e2 h2
        exact ⟨by simp [a], .cons h1 b⟩
theorem puts_rep : ∀ {fs : List Str} {vs : List V} {ds : List D} {us : List (Str × V)} {gs : List (Str × D)}, RepL K S φ H vs ds → us.map (·.1) = gs.map (·.1) → RepL K S φ H (us.map (·.2)) (gs.map (·.2)) →
    (putVs us (fs.zip vs)).map (·.1) = (putDs gs (fs.zip ds)).map (·.1) ∧ RepL K S φ H ((putVs us (fs.zip vs)).map (·.2)) ((putDs gs (fs.zip ds)).map (·.2))
  | [], vs, ds, us, gs, _, e, h => ⟨e, h⟩
  | f :: fs, [], ds, us, gs, r, e, h => by cases r; exact ⟨e, h⟩
  | f :: fs, v :: vs, ds, us, gs, r, e, h => by
    cases r with
    | cons r1 r2 =>
      obtain ⟨a, b⟩ := put_rep (f := f) r1 e h
      exact puts_rep (fs := fs) r2 a b
theorem putD_mem {f : Str} {d : D} {q : Str × D} : ∀ {fs : List (Str × D)}, q ∈ putD f d fs → q.1 = f ∨ q ∈ fs
  | [], h => by
    have : q = (f, d) := by simpa [putD] using h
    exact .inl (by rw [this])
  | (g, e) :: fs, h => by
    unfold putD at h
    by_cases c : g = f
    · rw [if_pos c] at h
      rcases List.mem_cons.mp h with z | z
      · exact .inl (by rw [z]; exact c)
      · exact .inr (List.mem_cons_of_mem _ z)
    · rw [if_neg c] at h
      rcases List.mem_cons.mp h with z | z
      · exact .inr (by rw [z]; exact List.mem_cons_self)
      · rcases putD_mem z with z | z
        · exact .inl z
        · exact .inr (List.mem_cons_of_mem _ z)
theorem putDs_mem {q : Str × D} : ∀ {ps fs : List (Str × D)}, q ∈ putDs fs ps → (∃ p ∈ ps, q.1 = p.1) ∨ q ∈ fs
  | [], fs, h => .inr h
  | (f, d) :: ps, fs, h => by
    rcases putDs_mem (ps := ps) h with ⟨p, hp, e⟩ | h
    · exact .inl ⟨p, List.mem_cons_of_mem _ hp, e⟩
    · rcases putD_mem h with e | h
      · exact .inl ⟨_, List.mem_cons_self, e⟩
      · exact .inr h
theorem upd_upd {a : Addr} {o o' : HO} : upd (upd H a o) a o' = upd H a o' := by
  funext b
  by_cases q : b = a
  · rw [q, upd_same, upd_same]
  · rw [upd_ne q, upd_ne q, upd_ne q]
theorem upd_self {a : Addr} {o : HO} (h : H a = some o) : upd H a o = H := by
  funext b
  by_cases q : b = a
  · rw [q, upd_same, h]
  · rw [upd_ne q]
end
/-- targets self.f, .. -/
def gFl (K : PySem.W.Frag) (i : Nat) : List Str → TGs
  | [] => gNil
  | f :: r => gCons (gFld K (tVar i) f) (gFl K i r)
theorem gFl_sem {K : PySem.W.Frag} {i : Nat} {a C dx : Addr} {σ : L2.St} (hσ : σ[i]? = some (some (.ref a))) (hc : Cls K C) : ∀ {fs : List Str} {vs : List V} {us : List (Str × V)} {H : Hp} {Q : L2.St → Hp → Prop}, vs.length = fs.length → (∀ f ∈ fs, NoAttr K C f) → us.length + fs.length < 1000 →
    H a = some (.ins C dx us) → Q σ (upd H a (.ins C dx (putVs us (fs.zip vs)))) → gFl K i fs vs σ H Q
  | [], vs, us, H, Q, hl, hn, hz, hH, hq => by
    cases vs with
    | nil => exact ⟨rfl, by rw [← upd_self hH]; exact hq⟩
    | cons v vs => cases hl
  | f :: fs, vs, us, H, Q, hl, hn, hz, hH, hq => by
    cases vs with
    | nil => cases hl
    | cons v vs =>
      simp only [List.length_cons] at hz
      refine ⟨v, vs, rfl, _, hσ, a, C, dx, us, rfl, hH, hc, hn f List.mem_cons_self, by omega, ?_⟩
      refine gFl_sem hσ hc (by simpa using hl) (fun g hg => hn g (List.mem_cons_of_mem _ hg)) ?_ upd_same (by rw [upd_upd]; exact hq)
      have := length_putF f v us
      omega
/-- the instance that slot i holds is written -/
theorem FI.putF {K : PySem.W.Frag} {E0 : Ent} {S : Addr → Prop} {φ : List Addr} {H : Hp} {σ : L2.St} {env : Env} {st : Sto} {n : Nat} {a dx : Addr} {x : Str} {us : List (Str × V)} {fs : List (Str × D)} (F : FI K E0 S φ H σ env st) (hφ : φ[n]? = some a)
    (e : us.map (·.1) = fs.map (·.1)) (r : RepL K S φ H (us.map (·.2)) (fs.map (·.2))) (c : Cls K (He.ga K x)) (na : ∀ q ∈ fs, NoAttr K (He.ga K x) q.1) :
    KP S φ H S φ (upd H a (.ins (He.ga K x) dx us)) ∧ FI K E0 S φ (upd H a (.ins (He.ga K x) dx us)) σ env (st.set n (.obj x fs)) := by
  have hm : a ∈ φ := List.mem_of_getElem? hφ
  have hS : ∀ b, S b → upd H a (.ins (He.ga K x) dx us) b = H b := fun b hb => upd_ne (fun q => F.si.dis a hm (by rw [← q]; exact hb))
  have x1 : Stp S φ H S φ (upd H a (.ins (He.ga K x) dx us)) := Stp.chg hm
  exact ⟨⟨fun _ q => q, hS, [], by simp⟩, F.ei.mono x1 F.si, F.si.chgO hφ (o := .obj x fs) ⟨dx, us, upd_same, e, r.tr hS (fun _ q => q) ⟨[], by simp⟩, c, na⟩, F.ent.trans x1, F.own⟩
/-- the targets self.f, .. -/
def fldsB (m : MC) (sc : Scope) (i : Nat) : List Str → List Expr → Bool
  | [], [] => true
  | f :: fs, .Attribute (.Name y p) g _ :: ts => decide (f = g) && decide (m.N[i]? = some y) && visB sc y && okN y && fldsB m sc i fs ts
  | _, _ => false
section
variable {Γ : Ctx} {L : LC} {e : Expr}
theorem pgs_flds {i : Nat} : ∀ {fs : List Str} {ts : List Expr}, fldsB Γ.m L.sc i fs ts = true → ∀ X, Good Γ L X → PGs X ts (gFl Γ.K i fs) ∧ (∀ env, (assignEach ts env).length = fs.length) ∧ ∀ env, (assignEach ts env).findIdx? (·.1) = none
  | [], [], _, X, g => ⟨pgs_nil, fun _ => rfl, fun _ => rfl⟩
  | f :: fs, .Attribute (.Name y p) g' p2 :: ts, h, X, g => by
    have h' : (decide (f = g') && decide (Γ.m.N[i]? = some y) && visB L.sc y && okN y && fldsB Γ.m L.sc i fs ts) = true := h
    simp only [Bool.and_eq_true, decide_eq_true_eq] at h'
    obtain ⟨⟨⟨⟨h1, h2⟩, h3⟩, h4⟩, h5⟩ := h'
    subst h1
    obtain ⟨a, b, c⟩ := pgs_flds h5 X g
    have hs : ∀ env, assignEach (.Attribute (.Name y p) f p2 :: ts) env = (false, assign (.Attribute (.Name y p) f p2) env) :: assignEach ts env := fun _ => rfl
    have pf := pg_fld (o := .Name y p) (f := f) (pos := p2) (pvar_of h2 h3 h4 X g)
    rw [g.K] at pf
    exact ⟨pgs_cons pf a rfl, fun env => by rw [hs]; simp [b env], fun env => by rw [hs, List.findIdx?_cons]; simp [c env]⟩
theorem sx_setF (Γok : CtxOk Γ) {i : Nat} {x : Str} {fs : List Str} {cs : Exs} {ts es : List Expr} {kt k2 : Nat} {pt p2 pos : Pos} {cf gs} (hT : fldsB Γ.m L.sc i fs ts = true) (hu : unB L.sc ts es = true) (hz : fs.length ≤ 1000) (hna : ∀ f ∈ fs, NoAttr Γ.K (He.ga Γ.K x) f) (hE : SL Γ L false es (evL cf gs false cs)) :
    SX Γ L (.Assign [.Tuple ts kt pt] (.Tuple es k2 p2) pos) fun env s => (evL cf gs false cs env s).bind fun ds s => (match env[i]? with
    | some (some (.val (.loc n))) => (match s[n]? with
      | some (.obj x' f0) => if x' = x ∧ fs.length = ds.length ∧ f0.length + fs.length < 1000 then .ok (.nx env) (s.set n (.obj x (putDs f0 (fs.zip ds)))) else .err
      | _ => .err)
    | _ => .err) := by
  obtain ⟨t, p, q⟩ := hE
  refine ⟨tAsg (tTup t) (gTup Γ.K fs.length (gFl Γ.K i fs)), fun X g => ?_, fun E0 σ H env st S φ Dn F f => ?_⟩
  · obtain ⟨a, b, c⟩ := pgs_flds hT X g.toGood
    rw [← g.K] at a ⊢
    exact ps_asg (pe_tup (p X g.toGood)) (pg_tup g.calm a (b _) (c _)) rfl (sw_un g.sc hu) rfl
  · obtain ⟨ds, s1, e1, f1⟩ := f.bind
    refine q σ H env st S φ _ F.ei F.si ?_
    rw [e1]
    intro vs H1 S1 φ1 x1 I1 r1
    have F1 := F.go x1 I1
    have rl := pd_rep r1
    split at f1
    · rename_i n he
      split at f1
      · rename_i x' f0 hs
        split at f1
        · rename_i hc
          obtain ⟨rfl, hlen, hsz⟩ := hc
          obtain ⟨v, ev', rv⟩ := F1.ei.val i _ he
          cases rv with
          | @loc ad _ hφ =>
            refine ⟨by rw [rl.length, ← hlen]; exact Nat.le_trans hz (by decide), fun pp hp => ?_⟩
            have x2 : Stp S1 φ1 H1 S1 φ1 (upd H1 pp (.tup vs)) := Stp.alloc0 hp
            have F2 := F1.go x2 (I1.alloc0 hp)
            obtain ⟨dx, us, g1, g2, g3, g4, g5⟩ := F2.si.obj n ad (.obj x' f0) hφ hs
            have hul : us.length = f0.length := by have := congrArg List.length g2; simpa using this
            refine ⟨pp, vs, rfl, .inl (.inl upd_same), by rw [rl.length, hlen], gFl_sem ev' g4 (by rw [rl.length, hlen]) hna (by omega) g1 ?_⟩
            obtain ⟨r2, r3⟩ := puts_rep (fs := fs) (rl.mono x2 I1) g2 g3
            obtain ⟨k1, F3⟩ := F2.putF hφ r2 r3 g4 fun q hq => by
              rcases putDs_mem hq with ⟨z, hz2, e⟩ | hq
              · rw [e]; exact hna _ (List.of_mem_zip hz2).1
              · exact g5 q hq
            exact f1 σ _ S1 φ1 (((x1.kp F.si).trans (x2.kp I1)).trans k1) F3
        · exact False.elim f1
      · exact False.elim f1
    · exact False.elim f1
theorem sx_setF1 (Γok : CtxOk Γ) {i : Nat} {x y f : Str} {ce : Ex} {v : Expr} {p p2 pos : Pos} {cf gs} (h2 : Γ.m.N[i]? = some y) (h3 : visB L.sc y = true) (h4 : okN y = true) (hl : isLcE v = false) (hna : NoAttr Γ.K (He.ga Γ.K x) f) (hE : SE Γ L false v (ev cf gs false ce)) :
    SX Γ L (.Assign [.Attribute (.Name y p) f p2] v pos) fun env s => (evL cf gs false (.c ce .nil) env s).bind fun ds s => (match env[i]? with
    | some (some (.val (.loc n))) => (match s[n]? with
      | some (.obj x' f0) => if x' = x ∧ [f].length = ds.length ∧ f0.length + [f].length < 1000 then .ok (.nx env) (s.set n (.obj x (putDs f0 ([f].zip ds)))) else .err
      | _ => .err)
    | _ => .err) := by
  obtain ⟨t, pp, q⟩ := hE
  refine ⟨sFld Γ.K (tVar i) t f, fun X g => ?_, fun E0 σ H env st S φ Dn F fl => ?_⟩
  · rw [← g.K]
    exact ps_fld (pvar_of h2 h3 h4 X g.toGood) (pp X g.toGood) (noSwap hl _ _ _)
  · have e0 : evL cf gs false (.c ce .nil) env st = (ev cf gs false ce env st).bind fun d s => .ok [d] s := by
      (simp only [evL]) <;> rfl
    have fl' : FinX Γ.K L.xk E0 S φ H Dn ((evL cf gs false (.c ce .nil) env st).bind _) := fl
    rw [e0] at fl'
    cases e1 : ev cf gs false ce env st with
    | err => rw [e1] at fl'; exact False.elim fl'
    | ok d s1 =>
    rw [e1] at fl'
    have f1 : FinX Γ.K L.xk E0 S φ H Dn (match env[i]? with
    | some (some (.val (.loc n))) => (match s1[n]? with
      | some (.obj x' f0) => if x' = x ∧ [f].length = [d].length ∧ f0.length + [f].length < 1000 then .ok (.nx env) (s1.set n (.obj x (putDs f0 ([f].zip [d])))) else .err
      | _ => .err)
    | _ => .err) := fl'
    refine q σ H env st S φ _ F.ei F.si ?_
    rw [e1]
    intro v1 H1 S1 φ1 x1 I1 r1
    have F1 := F.go x1 I1
    have rl := r1.val
    split at f1
    · rename_i n he
      split at f1
      · rename_i x' f0 hs
        split at f1
        · rename_i hc
          obtain ⟨rfl, _, hsz⟩ := hc
          obtain ⟨v2, ev', rv⟩ := F1.ei.val i _ he
          cases rv with
          | @loc ad _ hφ =>
            obtain ⟨dx, us, g1, g2, g3, g4, g5⟩ := F1.si.obj n ad (.obj x' f0) hφ hs
            have hul : us.length = f0.length := by have := congrArg List.length g2; simpa using this
            have hsz' : f0.length + 1 < 1000 := hsz
            refine ⟨_, ev', ad, He.ga Γ.K x', dx, us, rfl, g1, g4, hna, by omega, ?_⟩
            obtain ⟨r2, r3⟩ := put_rep (f := f) rl g2 g3
            obtain ⟨k1, F3⟩ := F1.putF hφ r2 r3 g4 fun q hq => by
              rcases putD_mem hq with e | hq
              · rw [e]; exact hna
              · exact g5 q hq
            exact f1 σ _ S1 φ1 ((x1.kp F.si).trans k1) F3
        · exact False.elim f1
      · exact False.elim f1
    · exact False.elim f1
end
end PV
set_option maxRecDepth 100000
set_option maxHeartbeats 4000000
/-! Statements that raise, a try around a returned call, a store into a list of the store. -/
namespace PV
open PySem PySem.Spec PyProof.Rows L2
section
variable {Γ : Ctx} {L : LC} {a e : Expr}
theorem exC_err {K : PySem.W.Frag} {XE : XK} {E0 : Ent} {S : Addr → Prop} {φ : List Addr} {H : Hp} {Dn : Ends} {env : Env} {o : Out D} (h : FinX K XE E0 S φ H Dn (exC env .err o)) : ∃ x d st, o = .ok (.tup [.str x, d]) st ∧ FinX K XE E0 S φ H Dn (.ok (.rs x d) st) := by
  unfold exC at h
  split at h
  · rename_i q; cases q
  · exact ⟨_, _, _, rfl, h⟩
  · exact False.elim h
theorem tryC_err {K : PySem.W.Frag} {XE : XK} {E0 : Ent} {S : Addr → Prop} {φ : List Addr} {H : Hp} {Dn : Ends} {x : Str} {o : Out D} (h : FinX K XE E0 S φ H Dn (tryC x .err o)) : ∃ d st, o = .ok (.tup [.str x, d]) st ∧ FinX K XE E0 S φ H Dn (.ok (.ret .non) st) := by
  unfold tryC at h
  split at h
  · rename_i q; cases q
  · split at h
    · rename_i hx
      subst hx
      exact ⟨_, _, rfl, h⟩
    · exact False.elim h
  · exact False.elim h
/-- o.m(..), which may raise, as a statement -/
theorem sx_exM (Γok : CtxOk Γ) {ca : Ex} {x m : Str} {k : Nat} {cs : Exs} {es : List Expr} {apos pos epos : Pos} (hn : isNameE a = true) (hm : (x, m, k, es.length) ∈ Γ.m.ms) (hl : (apos.endLine == pos.line) = true) (hlen : es.length < 30) (hne : es ≠ [])
    (hst : ∀ y ∈ es, ∀ env r, starEach (y :: r) env = (false, eval y env) :: starEach r env) (h1 : SE Γ L true a (ev Γ.cf Γ.gs true ca)) (h2 : SL Γ L false es (evL Γ.cf Γ.gs false cs)) :
    SX Γ L (.Expr (.Call (.Attribute a m apos) es [] pos) epos) fun env s => (ev Γ.cf Γ.gs true ca env s).bind fun o s => (match o with
      | .loc n => (match s[n]? with
        | some (.obj x' fs) => if x' = x ∧ (fs.lookup m).isNone = true then (evL Γ.cf Γ.gs false cs env s).bind fun ds s => exC env (Γ.cf k (.loc n :: ds) s) (Γ.cf (RX + k) (.loc n :: ds) s) else .err
        | _ => .err)
      | _ => .err) := by
  obtain ⟨t1, p1, q1⟩ := h1
  obtain ⟨t2, p2, q2⟩ := h2
  obtain ⟨fa, fd, ps, c1, c2, c3, c4⟩ := Γok.ms x m k _ hm
  refine ⟨tDrop (tMeth (He.ga Γ.K x) m (spF Γ.K Γ.cf k) [] L.xk t1 t2), fun X g => ?_, fun E0 σ H env st S φ Dn F f => ?_⟩
  · have F : FnOk X.prog X.w X.K X.mg X.base (L2.CX X.prog X.w) Γ.k fa fd ps (spF Γ.K Γ.cf k) := by rw [g.prog, g.w, g.K, g.mg, g.base]; exact c4
    have pa := p2 X g.toGood
    have hc : Cls X.K (He.ga Γ.K x) := by rw [g.K]; exact c1
    have hme : Meth X.K (He.ga Γ.K x) m fa := by rw [g.K]; exact c2
    have hb : Binds X.K fd ps [] := by rw [g.K]; exact c3
    have po := p1 X g.toGood
    have hx : Passes (L2.CX X.prog X.w) X L.xk := passes_call g.tk (fun _ _ _ _ h => h)
    have hf : methodCallForm es.length (backTo pos (starEach es X.env)) (backToKw pos (keywordEach [] X.env)) = true := by
      have h1 : (backTo pos (starEach es X.env)).all (fun x => !x.1) = true := by
        have := star_plain (e := a) (es := es) (env := X.env) (pos := pos) hst
        rw [List.all_eq_not_any_not]
        simpa using this
      unfold methodCallForm
      rw [h1]
      simp only [Bool.true_and]
      show (true && decide (es.length + 0 < 30)) = true
      simp; omega
    refine ps_expr ?_ (noSwap rfl _ _ _)
    cases a with
    | Name id ip =>
      cases es with
      | nil => exact absurd rfl hne
      | cons y ys =>
        exact pe_meth po hc hme F (g.room.mono (Nat.le_succ _)) hb .nil hx pa (hst y List.mem_cons_self _ _) (star_plain (e := y) fun z hz => hst z (List.mem_cons_of_mem _ hz)) (mth_form hl hf)
    | _ => cases hn
  · obtain ⟨d, s1, e1, f1⟩ := f.bind
    refine SE.use q1 F.ei F.si e1 fun v H1 S1 φ1 x1 E1 I1 r1 => ?_
    cases d with
    | loc n =>
      obtain ⟨ad, rfl, hφ⟩ := r1.locv
      simp only at f1
      split at f1
      · rename_i x' fs hs
        split at f1
        · rename_i hx
          obtain ⟨rfl, hno⟩ := hx
          obtain ⟨dx, us, g1, g2, g3, g4, g5⟩ := I1.obj n ad (.obj x' fs) hφ hs
          obtain ⟨ds, s2, e2, f2⟩ := f1.bind
          refine ⟨ad, dx, us, rfl, g1, flds_none g2 (by simpa using hno), ?_⟩
          refine q2 σ H1 env s1 S1 φ1 _ E1 I1 ?_
          rw [e2]
          intro vs H2 S2 φ2 x2 I2 r2
          rw [List.append_nil]
          refine ⟨S2, φ2, s2, .loc n :: ds, I2, .cons (.loc ?_) (pd_rep r2), ?_⟩
          · obtain ⟨ψ, eψ, _⟩ := x2.phi
            rw [eψ, List.getElem?_append_left (List.getElem?_eq_some_iff.mp hφ).1]; exact hφ
          · cases e3 : Γ.cf k (.loc n :: ds) s2 with
            | err =>
              rw [e3] at f2
              obtain ⟨y, d, s4, e4, f4⟩ := exC_err f2
              refine .inr ⟨rfl, ?_⟩
              rw [e4]
              exact fun H' S' φ' q v x3 I' hq r' => f4 H' S' φ' q v (F.ent.trans ((x1.trans x2).trans x3)) I' hq r'
            | ok d s3 =>
              rw [e3] at f2
              refine .inl fun v H' S' φ' x3 I' r' => ?_
              exact f2 σ H' S' φ' (((x1.trans x2).trans x3).kp F.si) (F.go ((x1.trans x2).trans x3) I')
        · exact False.elim f1
      · exact False.elim f1
    | _ => exact False.elim f1
/-- raise C(e) -/
theorem sx_raise (Γok : CtxOk Γ) {x : Str} {c : Ex} {p pos rpos : Pos} (hx : x ∈ Γ.m.xs) (hg : glB L.sc x = true) (hk : okN x = true) (hst : ∀ env r, starEach (e :: r) env = (false, eval e env) :: starEach r env) (h1 : SE Γ L false e (ev Γ.cf Γ.gs false c)) :
    SX Γ L (.Raise (some (.Call (.Name x p) [e] [] pos)) none rpos) fun env s => (ev Γ.cf Γ.gs false c env s).bind fun d s => (match d with
      | .int i => if 0 ≤ i ∧ i ≤ 1000000000000 then .ok (.rs x (.int i)) s else .err
      | _ => .err) := by
  obtain ⟨t1, p1, q1⟩ := h1
  obtain ⟨xg, xo, ⟨fI, fd, m1, m2, m3, m4⟩, xe⟩ := Γok.xs x hx
  obtain ⟨n1, n2, n3⟩ := okN_of hk
  refine ⟨fun _ σ H => tMkO (He.ga Γ.K x) (spX Γ.K (He.ga Γ.K x)) [] (tCons t1 tNil) σ H fun cls d H' => L.xk cls d H', fun X g => ?_, fun E0 σ H env st S φ Dn F f => ?_⟩
  · have F : FnOk X.prog X.w X.K X.mg X.base (L2.CX X.prog X.w) 1 fI fd ["self", "step"] (spX Γ.K (He.ga Γ.K x)) := by rw [g.prog, g.w, g.K, g.mg, g.base]; exact m3
    have hr : Room (1 + 1) X.A := g.room.mono (by have := Γok.kk; omega)
    exact ps_raise g.calm g.tk (pmk_oex (by rw [g.K]; exact xo) (by rw [g.K]; exact m1) (by rw [g.K]; exact m2) F hr (by rw [g.K]; exact m4) .nil passL (g.gl hg) (by rw [g.mg]; exact xg) (pa_cons (p1 X g.toGood) pa_nil (hst _ _)) n1 (hst _ _) rfl)
  · obtain ⟨d, s1, e1, f1⟩ := f.bind
    refine SE.use q1 F.ei F.si e1 fun v H1 S1 φ1 x1 E1 I1 r1 => ?_
    cases d with
    | int i =>
      obtain rfl := r1.rd0.int
      simp only at f1
      split at f1
      · rename_i hi
        refine ⟨by show 1 ≤ 1000; decide, fun ad had => ⟨ad, i, rfl, hi, upd_same, fun dx h1 h2 => ?_⟩⟩
        have hd : H1 dx = none := by rw [upd_ne h2] at h1; exact h1
        refine ⟨rfl, dx, [("step", .int i)], upd_same, by rw [upd_ne h2, upd_same], hd, ?_⟩
        have eq : upd (del (upd (upd (upd H1 ad (exo ad (He.ga Γ.K x) none)) dx (exd dx [("step", .int i)])) ad (exo ad (He.ga Γ.K x) (some dx))) ad) dx (.xd [("step", .int i)]) = upd H1 dx (.xd [("step", V.int i)]) := by
          funext b
          by_cases c1 : b = dx
          · rw [c1, upd_same, upd_same]
          · rw [upd_ne c1, upd_ne c1]
            by_cases c2 : b = ad
            · rw [c2, del_same, had]
            · rw [del_ne c2, upd_ne c2, upd_ne c1, upd_ne c2]
        rw [eq]
        exact f1 (upd H1 dx (.xd [("step", .int i)])) S1 φ1 dx (.int i) ((F.ent.trans x1).trans (Stp.alloc0 hd)) (I1.alloc0 hd) upd_same (.int i)
      · exact False.elim f1
    | _ => exact False.elim f1
/-- try: return f(..) except C: return None -/
theorem sx_tryR (Γok : CtxOk Γ) {fi : Nat} {x y : Str} {cs : Exs} {es : List Expr} {p pos rp xp hp tp : Pos} {suite : Stmt} (hS : ∀ X : Cx, PS X suite tRetN) (hx : x ∈ Γ.m.xs) (hgx : glB L.sc x = true) (hkx : okN x = true)
    (hne : es ≠ []) (hf : Γ.m.fs[fi]? = some (y, es.length)) (hg : glB L.sc y = true) (hk : okN y = true)
    (hst : ∀ y ∈ es, ∀ env r, starEach (y :: r) env = (false, eval y env) :: starEach r env) (h : SA Γ L es cs Γ.cf Γ.gs) :
    SX Γ L (.Try [.Return (some (.Call (.Name y p) es [] pos)) rp] [.ExceptHandler (some (.Name x xp)) none [suite] hp] [] [] tp) fun env s => if borrows env cs = true then .err else (evL Γ.cf Γ.gs true cs env s).bind fun ds s => tryC x (Γ.cf fi ds s) (Γ.cf (RX + fi) ds s) := by
  obtain ⟨t, p1, q1⟩ := h
  obtain ⟨fa, fd, ps, h1, h2, h3, h4⟩ := Γok.fn fi y _ hf
  obtain ⟨n1, n2, n3⟩ := okN_of hk
  obtain ⟨m1, m2, m3⟩ := okN_of hkx
  obtain ⟨xg, xo, _, xe⟩ := Γok.xs x hx
  refine ⟨fun D σ H => tRet (tCallS (spF Γ.K Γ.cf fi) (WE (wOnly Γ.K (.ref (He.ga Γ.K x)) (fun _ _ _ => tRetN) (fun c d _ H => L.xk c d H) D)) t) D σ H, fun X g => ?_, fun E0 σ H env st S φ Dn F f => ?_⟩
  · have gg := g.toGood
    have ht : PS X (.Try [.Return (some (.Call (.Name y p) es [] pos)) rp] [.ExceptHandler (some (.Name x xp)) none [suite] hp] [] [] tp) (fun D σ H => (fun W => tRet (tCallS (spF Γ.K Γ.cf fi) (WE W) t)) (wOnly X.K (.ref (He.ga Γ.K x)) (fun _ _ _ => tRetN) (fun c d _ H => L.xk c d H) D) D σ H) := by
      refine ps_try_only (tb := fun W => tRet (tCallS (spF Γ.K Γ.cf fi) (WE W) t)) (ts := fun _ _ _ => tRetN) (Wout := fun c d _ H => L.xk c d H) g.stk g.frm ⟨g.gl hgx, m1, .inl (by rw [g.mg]; exact xg)⟩ g.tk (fun W pn xe tk own => ?_) (fun a oe cls d pn _ _ => pss_one (hS _))
      have g2 : Good Γ L (X.tr pn xe) := ⟨gg.prog, gg.w, gg.K, gg.mg, gg.base, gg.N, gg.calm, gg.room, gg.sc, gg.fn⟩
      have F : FnOk (X.tr pn xe).prog (X.tr pn xe).w (X.tr pn xe).K (X.tr pn xe).mg (X.tr pn xe).base (L2.CX (X.tr pn xe).prog (X.tr pn xe).w) Γ.k fa fd ps (spF Γ.K Γ.cf fi) := by rw [g2.prog, g2.w, g2.K, g2.mg, g2.base]; exact h4
      refine pss_one (ps_ret ?_)
      have pa := p1 _ g2
      cases es with
      | nil => exact absurd rfl hne
      | cons z zs => exact pe_callS F (g2.room.mono (Nat.le_succ _)) (g2.gl hg) (by rw [g2.mg]; exact h1) (by rw [g2.K]; exact h2) (by rw [g2.K]; exact h3) (fun σ => passAt tk σ) pa n1 (hst z List.mem_cons_self _ _) (star_plain (e := z) fun z hz => hst z (List.mem_cons_of_mem _ hz))
    rw [gg.K] at ht
    exact ht
  · dsimp only at f
    split at f
    · exact False.elim f
    · rename_i hb
      obtain ⟨ds, s1, e1, f1⟩ := f.bind
      refine q1 σ H env st S φ _ F.ei F.si ?_
      rw [e1]
      intro vs H1 S1 φ1 x1 I1 r1 w1
      refine ⟨S1, φ1, s1, ds, I1, w1 (by simpa using hb), ?_⟩
      cases e3 : Γ.cf fi ds s1 with
      | err =>
        rw [e3] at f1
        obtain ⟨d, s4, e4, f4⟩ := tryC_err f1
        refine .inr ⟨rfl, ?_⟩
        rw [e4]
        exact fun H' S' φ' q v x3 I' hq r' => ⟨true, xe, fun _ a ha => f4 .non H' S' φ' (F.ent.trans (x1.trans x3)) I' .non, fun z => by cases z⟩
      | ok d s3 =>
        rw [e3] at f1
        exact .inl fun v H' S' φ' x3 I' r' => f1 v H' S' φ' (F.ent.trans (x1.trans x3)) I' r'.val
/-- a[k] = e, a a list of the store -/
theorem sx_setE {y : Expr} {c ca ck : Ex} {sp pos : Pos} {cf gs} (hl : isLcE e = false)
    (hy : ∀ env v, assign (.Subscript a y sp) env v = (do
      let ov ← holding [v] (eval a env)
      let iv ← holding [v, ov] (eval y env)
      standAt sp
      holding [v, ov, iv] (setItem ov iv v)
      release [v, ov, iv] []))
    (hE : SE Γ L false e (ev cf gs false c)) (hA : SE Γ L true a (ev cf gs true ca)) (hK : SE Γ L true y (ev cf gs true ck)) :
    SX Γ L (.Assign [.Subscript a y sp] e pos) fun env s => (ev cf gs false c env s).bind fun d s => (ev cf gs true ca env s).bind fun o s => (ev cf gs true ck env s).bind fun x s => (match o, x with
      | .loc n, .int i => (match s[n]? with
        | some (.lst ds) => (match L2.ixN ds.length i with
          | some j => .ok (.nx env) (s.set n (.lst (ds.set j d)))
          | none => .err)
        | _ => .err)
      | _, _ => .err) := by
  obtain ⟨t, p1, q1⟩ := hE
  obtain ⟨t2, p2, q2⟩ := hA
  obtain ⟨t3, p3, q3⟩ := hK
  refine ⟨tAsg t (gSub t2 t3 rSetL), fun X g => ps_asg (p1 X g.toGood) (pg_sub (p2 X g.toGood) (p3 X g.toGood) set_list (hy _)) (noSwapS hl _ _ _) rfl rfl, fun E0 σ H env st S φ Dn F f => ?_⟩
  obtain ⟨d, s1, e1, f1⟩ := f.bind
  obtain ⟨o, s2, e2, f2⟩ := f1.bind
  obtain ⟨x, s3, e3, f3⟩ := f2.bind
  refine SE.use q1 F.ei F.si e1 fun v H1 S1 φ1 x1 E1 I1 r1 => ?_
  refine SE.use q2 E1 I1 e2 fun w H2 S2 φ2 x2 E2 I2 r2 => ?_
  refine SE.use q3 E2 I2 e3 fun u H3 S3 φ3 x3 E3 I3 r3 => ?_
  split at f3
  · rename_i n i
    obtain ⟨ad, rfl, hφ⟩ := r2.locv
    obtain rfl := r3.rd0.int
    have hφ3 : φ3[n]? = some ad := by
      obtain ⟨ψ, eψ, _⟩ := x3.phi
      rw [eψ, List.getElem?_append_left (List.getElem?_eq_some_iff.mp hφ).1]; exact hφ
    split at f3
    · rename_i ds hs
      obtain ⟨vs, hv, rv⟩ := I3.obj n ad (.lst ds) hφ3 hs
      split at f3
      · rename_i j hj
        have hm : ad ∈ φ3 := List.mem_of_getElem? hφ3
        have y := Stp.chg (S := S3) (o := .lst (vs.set j v)) (H := H3) hm
        have r' : RepL Γ.K S3 φ3 H3 (vs.set j v) (ds.set j d) := rv.set j ((r1.val.mono x2 I1).mono x3 I2)
        have z := ((x1.trans x2).trans x3).trans y
        have I4 := I3.chg hφ3 r'
        exact ⟨ad, vs, i, j, rfl, rfl, hv, by rw [rv.length]; exact hj, f3 σ _ S3 φ3 (z.kp F.si) (F.go z I4)⟩
      · exact False.elim f3
    · exact False.elim f3
  · exact False.elim f3
end
end PV
set_option maxRecDepth 100000
set_option maxHeartbeats 4000000
namespace PV
open PySem PySem.Spec PyProof.Rows L2
section
variable {Γ : Ctx} {L : LC} {e : Expr}
/-! ### what matches -/
section
variable (m : MC)
def mP (sc : Scope) : Pxs → List Expr → Bool
  | .nil, es => match es with
    | [] => true
    | _ => false
  | .v c ps, es => match es with
    | e :: es => mE m c sc e && mP sc ps es
    | _ => false
  | .o f ps, es => match es with
    | e :: es => mF m f sc e && mP sc ps es
    | _ => false
def isRetN : Stmt → Bool
  | .Return none _ => true
  | .Return (some (.Constant .none _ _)) _ => true
  | _ => false
def mtN (fb : Str → Bool) (sc : Scope) (i : Nat) (x : Str) : Bool := decide (m.N[i]? = some x) && locB sc x && (fb x || decide (sc.names.lookup x = some .local))
mutual
def mS (fb : Str → Bool) (sc : Scope) : Sm → Stmt → Bool
  | .asg tg c, s => match s with
    | .Assign [t] v _ => if isLcE v = true then (match tg, c, t with
      | .nm i, .fz f, .Name x _ => mtN m fb sc i x && mF m f sc v
      | _, _, _ => false) else mE m c sc v && mT m fb sc tg t && (match t with
        | .Name _ _ => true
        | .Tuple _ _ _ => !isTupE v
        | _ => false)
    | _ => false
  | .own i f, s => match s with
    | .Assign [.Name x _] v _ => mtN m fb sc i x && mF m f sc v
    | _ => false
  | .par is ps, s => match s with
    | .Assign [.Tuple ts _ _] (.Tuple es _ _) _ => nmsB m fb sc is ts && decide (is.length ≤ 1000) && (unB sc ts es || swB sc is ts es) && mP m sc ps es
    | _ => false
  | .ite c a b, s => match s with
    | .If t x y _ => mE m c sc t && tstB c && mSs fb sc a x && mSs fb sc b y
    | _ => false
  | .for tg it b, s => match s with
    | .For t i x [] _ => mI m it sc t i && mT m fb sc tg t && mSs fb sc b x
    | _ => false
  | .whl c b, s => match s with
    | .While t x [] _ => mE m c sc t && tstB c && mSs fb sc b x
    | _ => false
  | .ret c, s => match s with
    | .Return (some e) _ => mE m c sc e
    | _ => false
  | .retN, s => match s with
    | .Return none _ => true
    | _ => false
  | .pass, s => match s with
    | .Pass _ => true
    | _ => false
  | .brk, s => match s with
    | .Break _ => true
    | _ => false
  | .cnt, s => match s with
    | .Continue _ => true
    | _ => false
  | .ex c, s => match s with
    | .Expr e _ => mE m c sc e && !isLcE e
    | _ => false
  | .app i c, s => match s with
    | .Expr (.Call (.Attribute (.Name x _) a apos) [y] [] cpos) _ => decide (m.N[i]? = some x) && visB sc x && okN x && decide (a = ("append" : Str)) && (apos.endLine == cpos.line) && mE m c sc y
    | _ => false
  | .ext i c, s => match s with
    | .Expr (.Call (.Attribute (.Name x _) a apos) [y] [] cpos) _ => decide (m.N[i]? = some x) && visB sc x && okN x && decide (a = ("extend" : Str)) && (apos.endLine == cpos.line) && mE m c sc y
    | _ => false
  | .setV i k c, s => match s with
    | .Assign [.Subscript (.Name x _) y _] v _ => decide (m.N[i]? = some x) && visB sc x && okN x && !isLcE v && mE m k sc y && mE m c sc v
    | _ => false
  | .augV i k op c, s => match s with
    | .AugAssign (.Subscript (.Name x _) y _) p v _ => decide (op.py = p) && augB op && decide (m.N[i]? = some x) && visB sc x && okN x && mE m k sc y && mE m c sc v
    | _ => false
  | .pop _ _ _, _ => true
  | .aug i op c, s => match s with
    | .AugAssign (.Name x _) p v _ => decide (op.py = p) && augB op && mtN m fb sc i x && mE m c sc v
    | _ => false
  | .setF i x fs cs, s => match s with
    | .Assign [.Tuple ts _ _] (.Tuple es _ _) _ => fldsB m sc i fs ts && unB sc ts es && decide (fs.length ≤ 1000) && fs.all (fun f => decide ((x, f) ∈ m.na)) && mEs m cs sc es
    | .Assign [.Attribute (.Name y _) g _] v _ => !isLcE v && (match fs, cs with
      | [f], .c ce .nil => decide (f = g) && decide (m.N[i]? = some y) && visB sc y && okN y && decide ((x, f) ∈ m.na) && mE m ce sc v
      | _, _ => false)
    | _ => false
  | .never, _ => true
  | .setE a k c, s => match s with
    | .Assign [.Subscript x y _] v _ => !isLcE v && mE m c sc v && mE m a sc x && mE m k sc y
    | _ => false
  | .raise x c, s => match s with
    | .Raise (some (.Call (.Name y _) [v] [] _)) none _ => decide (x = y) && decide (x ∈ m.xs) && glB sc x && okN x && mE m c sc v
    | _ => false
  | .exM x a f k es, s => match s with
    | .Expr (.Call (.Attribute o g apos) xs [] cpos) _ => decide (f = g) && decide ((x, f, k, xs.length) ∈ m.ms) && isNameE o && (apos.endLine == cpos.line) && decide (xs.length < 30) && mE m a sc o && mEs m es sc xs && !xs.isEmpty
    | _ => false
  | .tryR x f es, s => match s with
    | .Try [.Return (some (.Call (.Name y _) xs [] _)) _] [.ExceptHandler (some (.Name z _)) none [r] _] [] [] _ => decide (x = z) && decide (x ∈ m.xs) && glB sc x && okN x && decide (m.fs[f]? = some (y, xs.length)) && glB sc y && okN y && mEs m es sc xs && !xs.isEmpty && isRetN r
    | _ => false
def mSs (fb : Str → Bool) (sc : Scope) : Sms → List Stmt → Bool
  | .nil, ss => match ss with
    | [] => true
    | _ => false
  | .c c cs, ss => match ss with
    | s :: ss => mS fb sc c s && mSs fb sc cs ss
    | _ => false
end
end
theorem starE {m : MC} {c : Ex} {sc : Scope} {e : Expr} {es : List Expr} (h : mE m c sc e = true) (env : PySem.Env) : starEach (e :: es) env = (false, eval e env) :: starEach es env := star_of h
theorem starF {m : MC} {c : Fx} {sc : Scope} {e : Expr} {es : List Expr} (h : mF m c sc e = true) (env : PySem.Env) : starEach (e :: es) env = (false, eval e env) :: starEach es env :=
  starE (c := .fz c) (by unfold mE; exact h) env
theorem sP (Γok : CtxOk Γ) : ∀ {ps : Pxs} {es : List Expr}, mP Γ.m L.sc ps es = true → SP Γ L es (evP Γ.cf Γ.gs ps)
  | .nil, es, h => by
    unfold mP at h
    split at h
    · exact sp_nil
    · cases h
  | .v c ps, es, h => by
    unfold mP at h
    split at h
    · rw [Bool.and_eq_true] at h
      exact sp_v (starE h.1) (sE Γok c L false _ h.1) (sP Γok h.2)
    · cases h
  | .o f ps, es, h => by
    unfold mP at h
    split at h
    · rw [Bool.and_eq_true] at h
      exact sp_o (starF h.1) (sF Γok f L _ h.1) (sP Γok h.2)
    · cases h
theorem SX.of {s : Stmt} {m m' : Env → Sto → Out Flow} (h : SX Γ L s m) (e : ∀ env s, m' env s = m env s) : SX Γ L s m' := by
  have : m' = m := by funext env s; exact e env s
  rw [this]; exact h
theorem mtN_of {i : Nat} {x : Str} (h : mtN Γ.m L.fb L.sc i x = true) : Γ.m.N[i]? = some x ∧ locB L.sc x = true ∧ (L.fb x = true ∨ L.sc.names.lookup x = some .local) := by
  unfold mtN at h
  simp only [Bool.and_eq_true, Bool.or_eq_true, decide_eq_true_eq] at h
  exact ⟨h.1.1, h.1.2, h.2⟩
theorem asg_sub {m : MC} {c : Ex} {sc : Scope} {y : Expr} {x : Str} {p sp : Pos} (h : mE m c sc y = true) : ∀ env v, assign (.Subscript (.Name x p) y sp) env v = (do
      let ov ← holding [v] (eval (.Name x p) env)
      let iv ← holding [v, ov] (eval y env)
      standAt sp
      holding [v, ov, iv] (setItem ov iv v)
      release [v, ov, iv] []) := fun env v => by
  cases y with
  | Slice l u s p =>
    exfalso
    cases c with
    | fz f => unfold mE at h; cases f <;> simp [mF] at h
    | alloc f => unfold mE at h; cases f <;> simp [mF] at h
    | _ => simp [mE] at h
  | _ => rfl
theorem aug_sub {m : MC} {c : Ex} {sc : Scope} {y : Expr} (h : mE m c sc y = true) : ∀ ov iv new, augStore y ov iv new = (do holding [new, ov, iv] (setItem ov iv new); release [new, ov, iv] []; pure .next) := fun ov iv new => by
  cases y with
  | Slice l u s p =>
    exfalso
    cases c with
    | fz f => unfold mE at h; cases f <;> simp [mF] at h
    | alloc f => unfold mE at h; cases f <;> simp [mF] at h
    | _ => simp [mE] at h
  | _ => rfl
theorem asg_subE {m : MC} {c : Ex} {sc : Scope} {y x : Expr} {sp : Pos} (h : mE m c sc y = true) : ∀ env v, assign (.Subscript x y sp) env v = (do
      let ov ← holding [v] (eval x env)
      let iv ← holding [v, ov] (eval y env)
      standAt sp
      holding [v, ov, iv] (setItem ov iv v)
      release [v, ov, iv] []) := fun env v => by
  cases y with
  | Slice l u s p =>
    exfalso
    cases c with
    | fz f => unfold mE at h; cases f <;> simp [mF] at h
    | alloc f => unfold mE at h; cases f <;> simp [mF] at h
    | _ => simp [mE] at h
  | _ => rfl
theorem retN_of {r : Stmt} (h : isRetN r = true) : ∀ X : Cx, PS X r tRetN := by
  unfold isRetN at h
  split at h
  · exact fun X => ps_retN
  · exact fun X => ps_ret pe_non
  · cases h
mutual
theorem sS (Γok : CtxOk Γ) : ∀ (c : Sm) (L : LC) (s : Stmt), mS Γ.m L.fb L.sc c s = true → SX Γ L s (exec Γ.cf Γ.gs c)
  | .asg tg c, L, s, h => by
    unfold mS at h
    split at h
    · rename_i t v pos
      split at h
      · split at h
        · rename_i i f x px
          rw [Bool.and_eq_true] at h
          obtain ⟨h1, h2, h3⟩ := mtN_of h.1
          refine (sx_fz (sfa_of Γok h1 h2 h3 h.2)).of fun env s => ?_
          unfold exec ev
          cases evF Γ.cf Γ.gs f env s <;> rfl
        · cases h
      · rename_i hl
        simp only [Bool.and_eq_true] at h
        have hl : isLcE v = false := by simpa using hl
        have hG := sg_of Γok h.1.2
        have hE := sE Γok c L false v h.1.1
        have h2 := h.2
        refine SX.of ?_ fun env s => by unfold exec; rfl
        split at h2
        · exact sx_asg hG hE (asg_name Γok hl)
        · exact sx_asg hG hE (asg_tup (by simpa using h2) hl)
        · cases h2
    · cases h
  | .own i f, L, s, h => by
    unfold mS at h
    split at h
    · rw [Bool.and_eq_true] at h
      obtain ⟨h1, h2, h3⟩ := mtN_of h.1
      exact (sx_own (sfa_of Γok h1 h2 h3 h.2)).of fun env s => by unfold exec; rfl
    · cases h
  | .par is ps, L, s, h => by
    unfold mS at h
    split at h
    · simp only [Bool.and_eq_true, decide_eq_true_eq] at h
      exact (sx_par Γok h.1.1.1 h.1.1.2 h.1.2 (sP Γok h.2)).of fun env s => by unfold exec; rfl
    · cases h
  | .ite c a b, L, s, h => by
    unfold mS at h
    split at h
    · simp only [Bool.and_eq_true] at h
      exact (sx_ite (sT Γok c L _ h.1.1.1 h.1.1.2) (sSs Γok a L _ h.1.2) (sSs Γok b L _ h.2)).of fun env s => by unfold exec; rfl
    · cases h
  | .for tg it b, L, s, h => by
    unfold mS at h
    split at h
    · simp only [Bool.and_eq_true] at h
      exact (sx_for (sI Γok it L false _ _ h.1.1) (sg_of Γok h.1.2) (sSs Γok b L _ h.2) (folded_of h.1.1)).of fun env s => by unfold exec; rfl
    · cases h
  | .whl c b, L, s, h => by
    unfold mS at h
    split at h
    · simp only [Bool.and_eq_true] at h
      exact (sx_while (sT Γok c L _ h.1.1 h.1.2) (sSs Γok b L _ h.2)).of fun env s => by unfold exec; rfl
    · cases h
  | .ret c, L, s, h => by
    unfold mS at h
    split at h
    · exact (sx_ret (sE Γok c L false _ h)).of fun env s => by unfold exec; rfl
    · cases h
  | .retN, L, s, h => by
    unfold mS at h
    split at h
    · exact sx_retN.of fun env s => by unfold exec; rfl
    · cases h
  | .pass, L, s, h => by
    unfold mS at h
    split at h
    · exact sx_pass.of fun env s => by unfold exec; rfl
    · cases h
  | .brk, L, s, h => by
    unfold mS at h
    split at h
    · exact sx_brk.of fun env s => by unfold exec; rfl
    · cases h
  | .cnt, L, s, h => by
    unfold mS at h
    split at h
    · exact sx_cnt.of fun env s => by unfold exec; rfl
    · cases h
  | .ex c, L, s, h => by
    unfold mS at h
    split at h
    · rw [Bool.and_eq_true] at h
      exact (sx_ex (by simpa using h.2) (sE Γok c L false _ h.1)).of fun env s => by unfold exec; rfl
    · cases h
  | .app i c, L, s, h => by
    unfold mS at h
    split at h
    · simp only [Bool.and_eq_true, decide_eq_true_eq] at h
      obtain ⟨⟨⟨⟨⟨h1, h2⟩, h3⟩, h4⟩, h5⟩, h6⟩ := h
      subst h4
      exact (sx_app h1 h2 h3 h5 (fun env r => star_of h6) (sE Γok c L false _ h6)).of fun env s => by unfold exec; rfl
    · cases h
  | .ext i c, L, s, h => by
    unfold mS at h
    split at h
    · simp only [Bool.and_eq_true, decide_eq_true_eq] at h
      obtain ⟨⟨⟨⟨⟨h1, h2⟩, h3⟩, h4⟩, h5⟩, h6⟩ := h
      subst h4
      exact (sx_ext h1 h2 h3 h5 (fun env r => star_of h6) (sE Γok c L true _ h6)).of fun env s => by unfold exec; rfl
    · cases h
  | .setV i k c, L, s, h => by
    unfold mS at h
    split at h
    · simp only [Bool.and_eq_true, decide_eq_true_eq] at h
      obtain ⟨⟨⟨⟨⟨h1, h2⟩, h3⟩, h4⟩, h5⟩, h6⟩ := h
      exact (sx_setV h1 h2 h3 (by simpa using h4) (asg_sub h5) (sE Γok c L false _ h6) (sE Γok k L true _ h5)).of fun env s => by unfold exec; rfl
    · cases h
  | .augV i k op c, L, s, h => by
    unfold mS at h
    split at h
    · simp only [Bool.and_eq_true, decide_eq_true_eq] at h
      obtain ⟨⟨⟨⟨⟨⟨g1, g2⟩, g3⟩, g4⟩, g5⟩, g6⟩, g7⟩ := h
      subst g1
      exact (sx_augV g3 g4 g5 g2 (aug_sub g6) (sE Γok k L true _ g6) (sE Γok c L true _ g7)).of fun env s => by (unfold exec) <;> rfl
    · cases h
  | .pop _ _ _, L, s, h => sx_never fun env s => by unfold exec; rfl
  | .aug i op c, L, s, h => by
    unfold mS at h
    split at h
    · simp only [Bool.and_eq_true, decide_eq_true_eq] at h
      obtain ⟨⟨⟨g1, g2⟩, g3⟩, g4⟩ := h
      subst g1
      obtain ⟨h1, h2, h3⟩ := mtN_of g3
      exact (sx_aug Γok h1 h2 h3 g2 (sE Γok c L true _ g4)).of fun env s => by (unfold exec) <;> rfl
    · cases h
  | .setF i x fs cs, L, s, h => by
    unfold mS at h
    split at h
    · simp only [Bool.and_eq_true, decide_eq_true_eq] at h
      obtain ⟨⟨⟨⟨h1, h2⟩, h3⟩, h4⟩, h5⟩ := h
      exact (sx_setF Γok h1 h2 h3 (fun f hf => Γok.na x f (by simpa using List.all_eq_true.mp h4 f hf)) (sEs Γok cs L false _ h5)).of fun env s => by (unfold exec) <;> rfl
    · rw [Bool.and_eq_true] at h
      obtain ⟨h0, h⟩ := h
      split at h
      · simp only [Bool.and_eq_true, decide_eq_true_eq] at h
        obtain ⟨⟨⟨⟨⟨h1, h2⟩, h3⟩, h4⟩, h5⟩, h6⟩ := h
        subst h1
        exact (sx_setF1 Γok h2 h3 h4 (by simpa using h0) (Γok.na x _ h5) (sE Γok _ L false _ h6)).of fun env s => by (unfold exec) <;> rfl
      · cases h
    · cases h
  | .never, L, s, h => sx_never fun env s => by unfold exec; rfl
  | .setE a k c, L, s, h => by
    unfold mS at h
    split at h
    · simp only [Bool.and_eq_true] at h
      obtain ⟨⟨⟨h1, h2⟩, h3⟩, h4⟩ := h
      exact (sx_setE (by simpa using h1) (asg_subE h4) (sE Γok c L false _ h2) (sE Γok a L true _ h3) (sE Γok k L true _ h4)).of fun env s => by (unfold exec) <;> rfl
    · cases h
  | .raise x c, L, s, h => by
    unfold mS at h
    split at h
    · simp only [Bool.and_eq_true, decide_eq_true_eq] at h
      obtain ⟨⟨⟨⟨h1, h2⟩, h3⟩, h4⟩, h5⟩ := h
      subst h1
      exact (sx_raise Γok h2 h3 h4 (fun env r => star_of h5) (sE Γok c L false _ h5)).of fun env s => by (unfold exec) <;> rfl
    · cases h
  | .exM x a f k es, L, s, h => by
    unfold mS at h
    split at h
    · rename_i ob g apos xs cpos epos
      simp only [Bool.and_eq_true, decide_eq_true_eq] at h
      obtain ⟨⟨⟨⟨⟨⟨⟨h1, h2⟩, h3⟩, h4⟩, h5⟩, h6⟩, h7⟩, h8⟩ := h
      subst h1
      exact (sx_exM Γok h3 h2 h4 h5 (fun z => by rw [z] at h8; cases h8) (stars_of h7) (sE Γok a L true _ h6) (sEs Γok es L false _ h7)).of fun env s => by (unfold exec) <;> rfl
    · cases h
  | .tryR x f es, L, s, h => by
    unfold mS at h
    split at h
    · simp only [Bool.and_eq_true, decide_eq_true_eq] at h
      obtain ⟨⟨⟨⟨⟨⟨⟨⟨⟨h1, h2⟩, h3⟩, h4⟩, h5⟩, h6⟩, h7⟩, h8⟩, h9⟩, h10⟩ := h
      subst h1
      exact (sx_tryR Γok (retN_of h10) h2 h3 h4 (fun z => by rw [z] at h9; cases h9) h5 h6 h7 (stars_of h8) (sAs Γok es L _ h8)).of fun env s => by (unfold exec) <;> rfl
    · cases h
theorem sSs (Γok : CtxOk Γ) : ∀ (c : Sms) (L : LC) (s : List Stmt), mSs Γ.m L.fb L.sc c s = true → SXs Γ L s (execs Γ.cf Γ.gs c)
  | .nil, L, s, h => by
    unfold mSs at h
    split at h
    · have e : execs Γ.cf Γ.gs .nil = fun env s => .ok (.nx env) s := by funext env s; unfold execs; rfl
      rw [e]; exact sxs_nil
    · cases h
  | .c c cs, L, s, h => by
    unfold mSs at h
    split at h
    · rw [Bool.and_eq_true] at h
      have e : execs Γ.cf Γ.gs (.c c cs) = fun env st => (exec Γ.cf Γ.gs c env st).bind fun fl s => match fl with
        | .nx env' => execs Γ.cf Γ.gs cs env' s
        | .ret d => .ok (.ret d) s
        | .bk env' => .ok (.bk env') s
        | .ct env' => .ok (.ct env') s
        | .rs x d => .ok (.rs x d) s := by
        funext env s
        (simp only [execs]) <;> rfl
      rw [e]; exact sxs_cons (sS Γok c L _ h.1) (sSs Γok cs L _ h.2)
    · cases h
end
end
end PV
set_option maxRecDepth 100000
set_option maxHeartbeats 4000000
/-! Every def keeps its promise, at every level. -/
namespace PV
open PySem PySem.Spec PyProof.Rows L2
structure PD where
  at_ : Str × Option Str
  name : Str
  qual : Str
  params : Arguments
  body : List Stmt
  scope : Scope
  fn : Fn
/-- what a program's defs may name: methods, classes made, no attributes -/
structure MX where
  ms : List (Str × Str × Nat × Nat) := []
  cl : List (Str × Nat × Nat) := []
  na : List (Str × Str) := []
  xs : List Str := []
def sigs (ds : List PD) : List (Str × Nat) := ds.map fun d => (d.name, d.fn.ps.length)
def fns (ds : List PD) : List Fn := ds.map PD.fn
def okD (sg : List (Str × Nat)) (gn fr : List Str) (mx : MX) (d : PD) : Bool := C8.scC d.fn.N d.fn.ps d.scope && mSs ⟨d.fn.N, sg, gn, fr, mx.ms, mx.cl, mx.na, mx.xs⟩ (fun _ => true) d.scope d.fn.body d.body
def BindOk (d : PD) : Prop := ∀ (kV doc pm : Value) (an : Option Addr) (cdv ct : Value) (us : List Value), us.length = d.fn.ps.length → bindArgs (PySem.W.fnOf d.name d.qual d.params d.body d.scope .none kV doc pm an cdv ct) ⟨us, []⟩ = pure (d.fn.ps.zip us)
/-- the first nf defs are the module's own, those behind them methods -/
structure ProgOk (P : Program) (w : World) (K : PySem.W.Frag) (mg : Str → Option Value) (base : Heap) (ds : List PD) (nf : Nat) (gs : List D) (gn fr : List Str) (mx : MX) : Prop where
  def_ : ∀ (i : Nat) d, ds[i]? = some d → ∃ fd, FunD K d.name d.qual d.params d.body d.scope [] [] (He.fAd K d.at_) fd
  glo : ∀ (i : Nat) d, i < nf → ds[i]? = some d → mg d.name = some (.ref (He.fAd K d.at_))
  bind : ∀ d ∈ ds, BindOk d
  ok : ∀ d ∈ ds, okD (sigs (ds.take nf)) gn fr mx d = true
  gl : ∀ (k : Nat) x d, gn[k]? = some x → gs[k]? = some d → ∃ v u, mg x = some u ∧ RelV v u ∧ Rep K (fun _ => False) [] (fun _ => none) v d
  fr : ∀ x ∈ fr, mg x = none
  ms : ∀ x f k n, (x, f, k, n) ∈ mx.ms → Cls K (He.ga K x) ∧ ∃ d, ds[k]? = some d ∧ Meth K (He.ga K x) f (He.fAd K d.at_)
  cl : ∀ x k n, (x, k, n) ∈ mx.cl → mg x = some (.ref (He.ga K x)) ∧ Cls K (He.ga K x) ∧ ∃ d, ds[k]? = some d ∧ Mk K (He.ga K x) (He.fAd K d.at_)
  na : ∀ x f, (x, f) ∈ mx.na → NoAttr K (He.ga K x) f
  xs : ∀ x ∈ mx.xs, XOk P w K mg base x
  few : ds.length ≤ 1000
section
variable {P : Program} {w : World} {K : PySem.W.Frag} {mg : Str → Option Value} {base : Heap} {ds : List PD} {nf : Nat} {gs : List D} {gn fr : List Str} {mx : MX}
theorem startE_get {n i : Nat} {es : List D} {x : SV} (h : (startE n es)[i]? = some (some x)) : ∃ d, x = .val d ∧ es[i]? = some d := by
  unfold startE at h
  by_cases hi : i < es.length
  · rw [List.getElem?_append_left (by simpa using hi), List.getElem?_map] at h
    cases e : es[i]? with
    | none => rw [e] at h; cases h
    | some d => rw [e] at h; cases h; exact ⟨d, rfl, rfl⟩
  · rw [List.getElem?_append_right (by simpa using Nat.le_of_not_lt hi), List.getElem?_replicate] at h
    split at h <;> cases h
theorem start_get {N : List Str} {i : Nat} {vs : List V} {v : V} (h : vs[i]? = some v) : (start N vs)[i]? = some (some v) := by
  unfold L2.start
  have hi : i < vs.length := (List.getElem?_eq_some_iff.mp h).1
  rw [List.getElem?_append_left (by simpa using hi), List.getElem?_map, h]
  rfl
theorem prog_ok (h : ProgOk P w K mg base ds nf gs gn fr mx) : ∀ (n i : Nat) (d : PD), ds[i]? = some d → ∀ a fd, FunD K d.name d.qual d.params d.body d.scope [] [] a fd → FnOk P w K mg base (L2.CX P w) (2 * n + 1) a fd d.fn.ps (spF K (callF (fns ds) gs n) i)
  | 0, i, d, hi, a, fd, F => ⟨fun vs H Q E ⟨_, _, _, _, _, _, f⟩ => f.elim False.elim fun q => False.elim q.2, fun _ _ _ _ _ _ _ _ _ _ _ _ _ ⟨_, _, _, _, _, _, f⟩ => f.elim False.elim fun q => False.elim q.2⟩
  | n + 1, i, d, hi, a, fd, F => by
    have hd : d ∈ ds := List.mem_of_getElem? hi
    have ok := h.ok d hd
    unfold okD at ok
    rw [Bool.and_eq_true] at ok
    have S := C8.fnScope_by ok.1
    have hf : (fns ds)[i]? = some d.fn := by unfold fns; rw [List.getElem?_map, hi]; rfl
    have call : ∀ es st, callF (fns ds) gs (n + 1) i es st = if es.length = d.fn.ps.length then retOf (execs (callF (fns ds) gs n) gs d.fn.body (startE d.fn.N.length es) st) else .err := fun es st => by
      show (match (fns ds)[i]? with
        | some f => if es.length = f.ps.length then retOf (execs (callF (fns ds) gs n) gs f.body (startE f.N.length es) st) else .err
        | none => if i < RX then .err else match (fns ds)[i - RX]? with
          | some f => if es.length = f.ps.length then excOf (execs (callF (fns ds) gs n) gs f.body (startE f.N.length es) st) else .err
          | none => .err) = _
      rw [hf]
    have hlt : i < ds.length := (List.getElem?_eq_some_iff.mp hi).1
    have callX : ∀ es st, callF (fns ds) gs (n + 1) (RX + i) es st = if es.length = d.fn.ps.length then excOf (execs (callF (fns ds) gs n) gs d.fn.body (startE d.fn.N.length es) st) else .err := fun es st => by
      have h0 : (fns ds)[RX + i]? = none := List.getElem?_eq_none (by unfold fns; rw [List.length_map]; have := h.few; unfold RX; omega)
      show (match (fns ds)[RX + i]? with
        | some f => if es.length = f.ps.length then retOf (execs (callF (fns ds) gs n) gs f.body (startE f.N.length es) st) else .err
        | none => if RX + i < RX then .err else match (fns ds)[RX + i - RX]? with
          | some f => if es.length = f.ps.length then excOf (execs (callF (fns ds) gs n) gs f.body (startE f.N.length es) st) else .err
          | none => .err) = _
      rw [h0]
      have h1 : RX + i - RX = i := by omega
      have h2 : ¬ RX + i < RX := by omega
      rw [h1]
      show (if RX + i < RX then Out.err else _) = _
      rw [if_neg h2, hf]
    refine FunD.ok (k := 2 * n + 1 + 1) F S (fun vs H Q E hs => ?_) fun cdv A outer s H vs Q E hr hs => ?_
    · obtain ⟨S0, φ, st, es, I, r, f⟩ := hs
      rw [call] at f
      by_cases hl : es.length = d.fn.ps.length
      · rw [r.length, hl]
      · rw [if_neg hl, callX, if_neg hl] at f; exact f.elim False.elim fun q => False.elim q.2
    · obtain ⟨S0, φ, st, es, I, r, f⟩ := hs
      rw [call] at f
      by_cases hl : es.length = d.fn.ps.length
      rotate_left
      · rw [if_neg hl, callX, if_neg hl] at f; exact f.elim False.elim fun q => False.elim q.2
      rw [if_pos hl, callX, if_pos hl] at f
      let Γ : Ctx := ⟨P, w, K, mg, base, 2 * n + 1, callF (fns ds) gs n, gs, ⟨d.fn.N, sigs (ds.take nf), gn, fr, mx.ms, mx.cl, mx.na, mx.xs⟩⟩
      have Γok : CtxOk Γ := by
        have use : ∀ (j : Nat) d2, ds[j]? = some d2 → ∃ fd2, Binds K fd2 d2.fn.ps [] ∧ PySem.W.keepIn K (.ref (He.fAd K d2.at_)) = true ∧ FnOk P w K mg base (L2.CX P w) (2 * n + 1) (He.fAd K d2.at_) fd2 d2.fn.ps (spF K (callF (fns ds) gs n) j) := fun j d2 e => by
          obtain ⟨fd2, F2⟩ := h.def_ j d2 e
          exact ⟨fd2, F2.bindsN (h.bind d2 (List.mem_of_getElem? e)), F2.kp, prog_ok h n j d2 e _ fd2 F2⟩
        refine ⟨Nat.le_add_left _ _, h.xs, S.nd, fun j x m hj => ?_, h.gl, h.fr, fun x f k m hm => ?_, fun x k m hm => ?_, h.na⟩
        · have hj' : ((ds.take nf).map fun d => (d.name, d.fn.ps.length))[j]? = some (x, m) := hj
          rw [List.getElem?_map, List.getElem?_take] at hj'
          by_cases hlt : j < nf
          · rw [if_pos hlt] at hj'
            cases e : ds[j]? with
            | none => rw [e] at hj'; cases hj'
            | some d2 =>
              rw [e] at hj'
              cases hj'
              obtain ⟨fd2, b2, k2, F2⟩ := use j d2 e
              exact ⟨_, fd2, d2.fn.ps, h.glo j d2 hlt e, k2, b2, F2⟩
          · rw [if_neg hlt] at hj'; cases hj'
        · obtain ⟨c, d2, e, me⟩ := h.ms x f k m hm
          obtain ⟨fd2, b2, k2, F2⟩ := use k d2 e
          exact ⟨_, fd2, d2.fn.ps, c, me, b2, F2⟩
        · obtain ⟨g, c, d2, e, mk⟩ := h.cl x k m hm
          obtain ⟨fd2, b2, k2, F2⟩ := use k d2 e
          exact ⟨g, c, _, fd2, d2.fn.ps, mk, b2, F2⟩
      obtain ⟨t, p, q⟩ := sSs Γok d.fn.body ⟨d.scope, fun _ => true, E⟩ d.body ok.2
      refine ⟨t, p _ ⟨⟨rfl, rfl, rfl, rfl, rfl, rfl, rfl, hr, rfl, rfl⟩, passes_of rfl, takes_of rfl rfl rfl rfl, rfl, rfl⟩, ?_⟩
      have hN : d.fn.ps.length ≤ d.fn.N.length := by have := congrArg List.length S.pre; rw [List.length_take] at this; omega
      have F0 : FI K ⟨S0, φ, H⟩ S0 φ H (start d.fn.N vs) (startE d.fn.N.length es) st := by
        refine ⟨⟨?_, fun j e hj => ?_, fun j e hj => ?_, fun j l e e' b hj _ _ _ => ?_⟩, I, .refl, fun j e b hj _ => ?_⟩
        · unfold L2.start startE; simp [r.length]
        · obtain ⟨e', q1, q2⟩ := startE_get hj
          cases q1
          obtain ⟨v, g1, g2⟩ := r.get q2
          exact ⟨v, start_get g1, g2⟩
        · obtain ⟨_, q1, _⟩ := startE_get hj; cases q1
        · obtain ⟨_, q1, _⟩ := startE_get hj; cases q1
        · obtain ⟨_, q1, _⟩ := startE_get hj; cases q1
      refine q ⟨S0, φ, H⟩ (start d.fn.N vs) H _ st S0 φ _ F0 ?_
      show FinX K E ⟨S0, φ, H⟩ S0 φ H _ (execs (callF (fns ds) gs n) gs d.fn.body (startE d.fn.N.length es) st)
      cases ex : execs (callF (fns ds) gs n) gs d.fn.body (startE d.fn.N.length es) st with
      | err => rw [ex] at f; exact f.elim False.elim fun q => False.elim q.2
      | ok fl s1 =>
        rw [ex] at f
        cases fl with
        | nx env' => exact f.elim (fun f σ' H' S' φ' k F' => f .non H' S' φ' F'.ent F'.si (.inl .non)) fun q => False.elim q.2
        | ret e => exact f.elim (fun f v H' S' φ' x I' r' => f v H' S' φ' x I' (.inl r')) fun q => False.elim q.2
        | bk env' => exact f.elim False.elim fun q => False.elim q.2
        | ct env' => exact f.elim False.elim fun q => False.elim q.2
        | rs x d => exact f.elim False.elim fun q => q.2
/-- the law's promise, where the evaluator says True -/
theorem law_sp {n i : Nat} {H : Hp} {a : Addr} {ns : List Int} {st' : Sto} (e : callF (fns ds) gs n i [.rol (ns.map D.int)] [] = .ok (.bl true) st') (hS : SqL K H a (ns.map V.int)) :
    spF K (callF (fns ds) gs n) i [.ref a] H (fun v _ => v = .bl true) fun _ _ _ => False := by
  have hints : ∀ {S : Addr → Prop} {φ : List Addr} {H : Hp} (l : List Int), RepL K S φ H (l.map V.int) (l.map D.int) := fun {S φ H} l => by
    induction l with
    | nil => exact .nil
    | cons x l ih => exact .cons (.int x) ih
  refine ⟨fun b => b = a ∧ H b ≠ none, [], [], [.rol (ns.map D.int)], ⟨fun b hb => hb.2, fun b hb => (by cases hb), rfl, .nil, fun n b ds h => (by cases n <;> cases h)⟩, .cons (.rol ?_ (hints ns)) .nil, ?_⟩
  · rcases hS with h | h
    · refine .inl ⟨⟨rfl, ?_⟩, h⟩
      rcases h with h | ⟨o, h⟩ <;> rw [h] <;> simp
    · exact .inr h
  · rw [e]
    exact .inl fun v H' S' φ' _ _ r => r.rd0.bl
/-- what lets nothing out -/
theorem FnOk.to0 {k : Nat} {f : Addr} {fd : FuncData} {ps : List Str} {sp : Sp} (F : FnOk P w K mg base (L2.CX P w) k f fd ps sp) : FnOk P w K mg base CX0 k f fd ps (fun vs H Q _ => sp vs H Q fun _ _ _ => False) :=
  ⟨fun vs H Q E h => F.len vs H Q _ h, fun A outer s H args us vs Q E hr e0 hb r h => codeAny_mono (F.run A outer s H args us vs Q _ hr e0 hb r h) fun x s' q => by
    cases x with
    | error er =>
      obtain ⟨_, _, _, _, _, _, _, _, _, _, _, _, z⟩ := q
      exact z.elim
    | ok fl => cases fl <;> exact q⟩
end
end PV
set_option maxRecDepth 100000
set_option maxHeartbeats 4000000
/-! The head: the module's constants as deep values, read off the written part. -/
namespace PV
open PySem PySem.Spec PyProof.Rows L2
mutual
def gB (K : PySem.W.Frag) : D → Value → Bool
  | .non, u => (match u with
    | .none => true
    | _ => false)
  | .bl b, u => (match u with
    | .bool c => b == c
    | _ => false)
  | .int i, u => (match u with
    | .int j _ => decide (i = j)
    | _ => false)
  | .str x, u => (match u with
    | .str y _ => decide (x = y)
    | _ => false)
  | .tup ds, u => (match u with
    | .ref a => (match K.lookup a with
      | some ⟨.type c, _, .seq its _, _⟩ => decide (c = "tuple") && decide (its.size ≤ sizeLine) && gBs K ds its.toList
      | _ => false)
    | _ => false)
  | .lst _, _ => false
  | .rol _, _ => false
  | .loc _, _ => false
def gBs (K : PySem.W.Frag) : List D → List Value → Bool
  | [], us => us.isEmpty
  | d :: ds, us => (match us with
    | u :: us => gB K d u && gBs K ds us
    | [] => false)
end
section
variable {K : PySem.W.Frag}
mutual
theorem gB_ok : ∀ {d : D} {u : Value}, gB K d u = true → ∃ v, RelV v u ∧ Rep K (fun _ => False) [] (fun _ => none) v d
  | .non, u, h => by
    unfold gB at h
    split at h
    · exact ⟨.non, rfl, .non⟩
    · cases h
  | .bl b, u, h => by
    unfold gB at h
    split at h
    · have := eq_of_beq h
      subst this
      exact ⟨.bl b, rfl, .bl b⟩
    · cases h
  | .int i, u, h => by
    unfold gB at h
    split at h
    · have := of_decide_eq_true h
      subst this
      exact ⟨.int i, ⟨_, rfl⟩, .int i⟩
    · cases h
  | .str x, u, h => by
    unfold gB at h
    split at h
    · have := of_decide_eq_true h
      subst this
      exact ⟨.str x, ⟨_, rfl⟩, .str x⟩
    · cases h
  | .tup ds, u, h => by
    unfold gB at h
    split at h
    · rename_i a
      split at h
      · rename_i c od its n sl q
        simp only [Bool.and_eq_true, decide_eq_true_eq] at h
        obtain ⟨⟨h1, h2⟩, h3⟩ := h
        obtain ⟨vs, r1, r2⟩ := gBs_ok h3
        exact ⟨.ref a, rfl, .tup (.inr ⟨_, its, n, q, congrArg Value.type h1, rfl, h2, r1⟩) r2⟩
      · cases h
    · cases h
  | .lst _, u, h => by unfold gB at h; cases h
  | .rol _, u, h => by unfold gB at h; cases h
  | .loc _, u, h => by unfold gB at h; cases h
theorem gBs_ok : ∀ {ds : List D} {us : List Value}, gBs K ds us = true → ∃ vs, Vals vs us ∧ RepL K (fun _ => False) [] (fun _ => none) vs ds
  | [], us, h => by
    unfold gBs at h
    cases us with
    | nil => exact ⟨[], .nil, .nil⟩
    | cons u us => cases h
  | d :: ds, us, h => by
    unfold gBs at h
    split at h
    · rw [Bool.and_eq_true] at h
      obtain ⟨v, r1, r2⟩ := gB_ok h.1
      obtain ⟨vs, s1, s2⟩ := gBs_ok h.2
      exact ⟨v :: vs, .cons r1 s1, .cons r2 s2⟩
    · cases h
end
def gvB (K : PySem.W.Frag) (x : Str) (d : D) : Bool := match PySem.W.nsIn K mainGlobals x with
  | some (some u) => gB K d u
  | _ => false
theorem gvB_ok {h : Heap} {mg : Str → Option Value} (X : K.In h) (G : h.Ns mainGlobals mg) {x : Str} {d : D} (e : gvB K x d = true) : ∃ v u, mg x = some u ∧ RelV v u ∧ Rep K (fun _ => False) [] (fun _ => none) v d := by
  unfold gvB at e
  split at e
  · rename_i u q
    obtain ⟨v, r1, r2⟩ := gB_ok e
    exact ⟨v, u, PySem.W.mg_of X G q, r1, r2⟩
  · cases e
/-- the constants of the module -/
def glsB (K : PySem.W.Frag) (gn : List Str) (gs : List D) : Bool := (gn.zip gs).all fun q => gvB K q.1 q.2
theorem glsB_ok {h : Heap} {mg : Str → Option Value} (X : K.In h) (G : h.Ns mainGlobals mg) {gn : List Str} {gs : List D} (e : glsB K gn gs = true) (k : Nat) (x : Str) (d : D) (h1 : gn[k]? = some x) (h2 : gs[k]? = some d) :
    ∃ v u, mg x = some u ∧ RelV v u ∧ Rep K (fun _ => False) [] (fun _ => none) v d := by
  refine gvB_ok X G (List.all_eq_true.mp e (x, d) ?_)
  rw [List.mem_iff_getElem?]
  exact ⟨k, List.getElem?_zip_eq_some.mpr ⟨h1, h2⟩⟩
end
/-- HeadHook2's hook, with a look of one's own -/
abbrev AlP : Type := He.AlD × Bool
def obsP (n : Nat) (fa : List He.Fa) (fn : List He.DefD) (ex : PySem.W.Frag → Bool) (g : Addr → Option Obj) : AlP := (He.obsD fa fn (He.frG g (He.asD g n)), ex (He.frG g (He.asD g n)))
def hookP (n : Nat) (fa : List He.Fa) (fn : List He.DefD) (ex : PySem.W.Frag → Bool) : PySem.W.Hook where
  α := AlP
  obs := fun s => obsP n fa fn ex s.heap.get?
  val := fun _ => (He.valD fn, true)
  says := fun _ h => ∃ K : PySem.W.Frag, K.In h ∧ He.SaysD fa fn K ∧ ex K = true
  of := fun _ _ e => ⟨_, He.frG_in, congrArg (fun z : AlP => z.1) e, congrArg (fun z : AlP => z.2) e⟩
  keeps := fun _ _ _ ⟨K, hK, c, d⟩ k => ⟨K, PySem.W.Frag.In.keeps hK k, c, d⟩
theorem obsP_eq {n : Nat} {fa : List He.Fa} {fn : List He.DefD} {ex : PySem.W.Frag → Bool} {g : Addr → Option Obj} {s : Shared} (h : ∀ a, g a = s.heap.get? a) : obsP n fa fn ex g = (hookP n fa fn ex).obs s := by
  have e : g = s.heap.get? := funext h
  rw [e] <;> rfl
end PV
set_option maxRecDepth 100000
set_option maxHeartbeats 4000000
/-! The head: own exceptions that are raised. -/
namespace PV
open PySem PySem.Spec PyProof.Rows L2 NdefX PySem.W
/-- an own exception: its name, its __init__'s qualified name and text -/
structure XD where
  x : Str
  q : Str
  m : Stmt
abbrev FnY : Type := Option (Str × Str × Arguments × FuncBody × Scope × Addr × Value × Value × Addr)
def XD.fI (K : Frag) (d : XD) : Addr := He.ma K (He.ga K d.x) "__init__"
def xObs (K : Frag) (d : XD) : FnY := match K.lookup (d.fI K) with
  | some ⟨_, _, .func fd, _⟩ => some (fd.name, fd.qualname, fd.params, fd.body, fd.scope, fd.globals, fd.defaults, fd.kwdefaults, fd.builtins)
  | _ => none
def XD.val (d : XD) : FnY := some ("__init__", d.q, defArgs d.m, .stmts (defBody d.m), defScope d.m, mainGlobals, .none, .none, builtinsNs)
structure XS (prog : Program) (d : XD) : Prop where
  hd : ((defArgs d.m).posonlyargs ++ (defArgs d.m).args).head?.map (·.arg) = some "self"
  sc : nscB ["self", "step", "__class__"] ["self", "step"] ["__class__"] (defScope d.m) = true
  scs : (defScope d.m).names.lookup ("super" : Str) = some .globalImplicit
  sct : (defScope d.m).names.lookup ("str" : Str) = some .globalImplicit
  bd : ∃ m j p0 p1 p2 p3 p4 p5 p6 p7 p8 p9 q1 q2 q3 q4, defBody d.m = exB m j p0 p1 p2 p3 p4 p5 p6 p7 p8 p9 q1 q2 q3 q4 ∧ m.length ≤ 1000 ∧ (p2.endLine == p8.line) = true
  bind : ∀ (cl : List (Str × Addr)) (doc pm ct code : Value) (an : Option Addr) (us : List Value), us.length = 2 → bindArgs (fnX "__init__" d.q (defArgs d.m) (defBody d.m) (defScope d.m) cl .none .none doc pm an code ct) ⟨us, []⟩ = pure ((["self", "step"] : List Str).zip us)
  top : (prog.main.scope.names.lookup ("super" : Str)).isSome = false
def clsB (K : Frag) (C : Addr) : Bool := match K.lookup C with
  | some ⟨.type t, _, .cls cd, sl⟩ => (match cd.mro, sl.toList with
    | .ref C' :: bm, [_, _, _, _, some (.builtin n), _] => decide (t = "type") && decide (C' = C) && decide (n = "ValueError.__new__") && !cd.hasDel && cd.hasDict && HandSPX.refsVE bm
    | _, _ => false)
  | _ => false
theorem clsB_ok {K : Frag} {C : Addr} (h : clsB K C = true) : ∃ nm q N bs bm sn sub ab col dd k0 k1 k2 k3 k5, K.lookup C = some (excClassObj nm q C N bs bm true sn sub ab col dd k0 k1 k2 k3 k5 "ValueError.__new__") ∧ HandSPX.refsVE bm = true := by
  unfold clsB at h
  split at h
  · rename_i t dd cd sl ho
    split at h
    · rename_i C' bm k0 k1 k2 k3 n k5 hm hs
      simp only [Bool.and_eq_true, decide_eq_true_eq, Bool.not_eq_true'] at h
      obtain ⟨⟨⟨⟨⟨rfl, rfl⟩, rfl⟩, hdel⟩, hdi⟩, hv⟩ := h
      obtain ⟨nm, bs, mro, ns, qn, hd, sn, sub, ab, col, del⟩ := cd
      dsimp only at hm hdel hdi
      subst hm hdel hdi
      have hsl : sl = #[k0, k1, k2, k3, some (.builtin "ValueError.__new__"), k5] := by
        rw [← hs]
      subst hsl
      exact ⟨nm, qn, ns, bs, bm, sn, sub, ab, col, dd, k0, k1, k2, k3, k5, ho, hv⟩
    · cases h
  · cases h
/-- __init__'s cell, code, file -/
def iniB (file : Str) (K : Frag) (C fI : Addr) : Bool := match K.lookup fI with
  | some ⟨_, _, .func fd, _⟩ => (match fd.closure, fd.code with
    | [(cn, cc)], .ref cda => decide (cn = "__class__") && codeIn K (.ref cda) fd.qualname && (match K.lookup cc with
        | some ⟨_, _, .cell (some (.ref C')), _⟩ => decide (C' = C)
        | _ => false) && (match K.lookup cda with
        | some ⟨_, _, .fields vs, _⟩ => (match (vs[2]? : Option Value) with
          | some (Value.str fl _) => (file == fl)
          | _ => false)
        | _ => false)
    | _, _ => false)
  | _ => false
def alB (K : Frag) (C : Addr) : Bool := match clsIn K C with
  | some cd => decide (alongIn K "__init__" ((cd.mro.dropWhile (· != .ref C)).drop 1) = some (some (.builtin "ValueError.__init__")))
  | none => false
def excB (file : Str) (K : Frag) (d : XD) : Bool :=
  clsB K (He.ga K d.x) && iniB file K (He.ga K d.x) (d.fI K) && alB K (He.ga K d.x)
  && decide (findIn K (.ref (He.ga K d.x)) "__init__" = some (some (.ref (d.fI K)))) && decide (typeIn K (.ref (d.fI K)) = some (.type "function"))
  && decide (findIn K (.ref (He.ga K d.x)) "step" = some none) && decide (findIn K (.ref (He.ga K d.x)) "__setattr__" = some (some (.builtin "object.__setattr__")))
  && decide (subIn K (.ref (He.ga K d.x)) (.type "BaseException") = some true) && decide (subIn K (.ref (He.ga K d.x)) (.type "ValueError") = some true)
  && decide (typeIn K (.ref (He.ga K d.x)) = some (.type "type")) && keepIn K (.ref (He.ga K d.x)) && decide (exmOne K (.ref (He.ga K d.x)) (.ref (He.ga K d.x)) = some true)
  && decide (mroIn K (He.ga K d.x) (.ref (He.ga K d.x)) = some true) && decide (nsIn K cStatics "thirdparty.any" = some none)
  && decide (nsIn K mainGlobals d.x = some (some (.ref (He.ga K d.x)))) && decide (nsIn K mainGlobals "super" = some none) && decide (nsIn K mainGlobals "str" = some none)
theorem exc_says {P : Program} {w : World} {K : Frag} {h : Heap} {mg : Str → Option Value} {base : Heap} {d : XD} (X : K.In h) (G : h.Ns mainGlobals mg) (e : xObs K d = d.val) (c : excB P.main.file K d = true) (s : XS P d) : XOk P w K mg base d.x := by
  unfold excB at c
  simp only [Bool.and_eq_true, decide_eq_true_eq] at c
  obtain ⟨⟨⟨⟨⟨⟨⟨⟨⟨⟨⟨⟨⟨⟨⟨⟨c1, c2⟩, c3⟩, c4⟩, c5⟩, c6⟩, c7⟩, c8⟩, c9⟩, c10⟩, c11⟩, c12⟩, c13⟩, c14⟩, c15⟩, c16⟩, c17⟩ := c
  have ox : OexC K (He.ga K d.x) := ⟨clsB_ok c1, c7, c8, c10, c11⟩
  refine ⟨mg_of X G c15, ox, ?_, c12⟩
  unfold iniB at c2
  unfold xObs at e
  split at c2
  · rename_i oc od fd osl lk
    rw [lk] at e
    split at c2
    · rename_i cn cc cda hcl hco
      simp only [Bool.and_eq_true, decide_eq_true_eq] at c2
      obtain ⟨⟨⟨b1, b2⟩, b3⟩, b4⟩ := c2
      subst b1
      split at b3
      · rename_i cl cld C' csl lc
        have b3 := of_decide_eq_true b3
        subst b3
        split at b4
        · rename_i ccl cdd vs ccs lcd
          split at b4
          · rename_i fl tf hvs
            obtain ⟨n1, n2, n3, n4, n5, n6, n7, n8, n9, n10, n11, n12, n13, n14, n15⟩ := fd
            have e2 : (some (n1, n2, n3, n4, n5, n6, n8, n9, n15) : FnY) = d.val := e
            unfold XD.val at e2
            simp only [Option.some.injEq, Prod.mk.injEq] at e2
            obtain ⟨h1, h2, h3, h4, h5, h6, h7, h8, h9⟩ := e2
            dsimp only at hcl hco b2
            subst h1 h2 h3 h4 h5 h6 h7 h8 h9 hcl hco
            unfold alB at c3
            split at c3
            · rename_i cd hcd
              have T : ExT P K mg (He.ga K d.x) (d.fI K) cc cda ⟨"__init__", d.q, defArgs d.m, defBody d.m, defScope d.m, [("__class__", cc)], cda⟩ (defArgs d.m) :=
                { oex := ox, noF := c6, F1 := ⟨rfl, rfl, rfl, rfl⟩, hd := s.hd, sc := s.sc, scs := s.scs, sct := s.sct, bd := s.bd, fn := ⟨_, _, _, _, _, _, _, lk⟩, code := b2, cell := ⟨_, _, _, lc⟩, file := ⟨_, _, _, _, _, _, lcd, hvs, b4⟩,
                  cls := ⟨cd, hcd, of_decide_eq_true c3⟩, mro := c13, vsub := c9, opq := c14, msup := mg_none_of X G c16, mstr := mg_none_of X G c17, top := s.top }
              exact ⟨d.fI K, _, c4, c5, exc_ok T ⟨_, _, _, lk⟩, Binds.all fun us hl => s.bind _ _ _ _ _ _ us hl⟩
            · cases c3
          · cases b4
        · cases b4
      · cases b3
    · cases c2
  · cases c2
/-- HeadHook2's hook with looks of one's own and the exceptions' texts -/
abbrev AlX : Type := He.AlD × Bool × List FnY
def obsX (n : Nat) (fa : List He.Fa) (fn : List He.DefD) (xs : List XD) (ex : Frag → Bool) (g : Addr → Option Obj) : AlX := (He.obsD fa fn (He.frG g (cStatics :: He.asD g n)), ex (He.frG g (cStatics :: He.asD g n)), xs.map (xObs (He.frG g (cStatics :: He.asD g n))))
def hookX (n : Nat) (fa : List He.Fa) (fn : List He.DefD) (xs : List XD) (ex : Frag → Bool) : Hook where
  α := AlX
  obs := fun s => obsX n fa fn xs ex s.heap.get?
  val := fun _ => (He.valD fn, true, xs.map XD.val)
  says := fun _ h => ∃ K : Frag, K.In h ∧ He.SaysD fa fn K ∧ ex K = true ∧ xs.map (xObs K) = xs.map XD.val
  of := fun _ _ e => ⟨_, He.frG_in, congrArg (fun z : AlX => z.1) e, congrArg (fun z : AlX => z.2.1) e, congrArg (fun z : AlX => z.2.2) e⟩
  keeps := fun _ _ _ ⟨K, hK, c, d⟩ k => ⟨K, Frag.In.keeps hK k, c, d⟩
theorem obsX_eq {n : Nat} {fa : List He.Fa} {fn : List He.DefD} {xs : List XD} {ex : Frag → Bool} {g : Addr → Option Obj} {s : Shared} (h : ∀ a, g a = s.heap.get? a) : obsX n fa fn xs ex g = (hookX n fa fn xs ex).obs s := by
  have e : g = s.heap.get? := funext h
  rw [e] <;> rfl
end PV
set_option maxRecDepth 100000
set_option maxHeartbeats 4000000
/-! The evaluator's equations, for simp. -/
namespace PV
open PySem
section
variable {cf : Nat → List D → Sto → Out D} {gs : List D} {o : Bool} {env : Env} {s : Sto}
@[simp] theorem ok_bind {α β : Type} {a : α} {s : Sto} {f : α → Sto → Out β} : (Out.ok a s).bind f = f a s := id rfl
@[simp] theorem err_bind {α β : Type} {f : α → Sto → Out β} : (Out.err : Out α).bind f = .err := id rfl
@[simp] theorem lift_some {α : Type} {a : α} : lift (some a) s = .ok a s := id rfl
@[simp] theorem lift_none {α : Type} : lift (none : Option α) s = .err := id rfl
def rdV (o : Bool) (x : Option (Option SV)) (s : Sto) : Out D := match x with
  | some (some (.val d)) => .ok d s
  | some (some (.own ds)) => if o = true then .ok (.lst ds) s else .err
  | _ => .err
@[simp] theorem rdV_val {d : D} : rdV o (some (some (.val d))) s = .ok d s := id rfl
@[simp] theorem rdV_own {ds : List D} : rdV true (some (some (.own ds))) s = .ok (.lst ds) s := id rfl
@[simp] theorem ev_var {i : Nat} : ev cf gs o (.var i) env s = rdV o env[i]? s := by unfold ev rdV; rfl
@[simp] theorem ev_int {i : Int} : ev cf gs o (.int i) env s = .ok (.int i) s := by unfold ev; rfl
@[simp] theorem ev_str {x : Str} : ev cf gs o (.str x) env s = .ok (.str x) s := by unfold ev; rfl
@[simp] theorem ev_bl {b : Bool} : ev cf gs o (.bl b) env s = .ok (.bl b) s := by unfold ev; rfl
@[simp] theorem ev_non : ev cf gs o .non env s = .ok .non s := by unfold ev; rfl
@[simp] theorem ev_gl {k : Nat} : ev cf gs o (.gl k) env s = lift gs[k]? s := by unfold ev; rfl
@[simp] theorem ev_tup {es : Exs} : ev cf gs o (.tup es) env s = (evL cf gs false es env s).bind fun ds s => .ok (.tup ds) s := by unfold ev; rfl
@[simp] theorem ev_fz {f : Fx} : ev cf gs o (.fz f) env s = (evF cf gs f env s).bind fun ds s => .ok (.lst ds) s := by unfold ev; rfl
@[simp] theorem ev_alloc {f : Fx} : ev cf gs o (.alloc f) env s = (evF cf gs f env s).bind fun ds s => .ok (.loc s.length) (s ++ [.lst ds]) := by unfold ev; rfl
@[simp] theorem ev_bin {op : BOp} {a b : Ex} : ev cf gs o (.bin op a b) env s = (ev cf gs true a env s).bind fun x s => (ev cf gs true b env s).bind fun y s => lift (binD op (deref s x) (deref s y)) s := by (conv => lhs; unfold ev) <;> rfl
@[simp] theorem ev_neg {a : Ex} : ev cf gs o (.neg a) env s = (ev cf gs true a env s).bind fun x s => match x with
    | .int i => .ok (.int (-i)) s
    | _ => .err := by (conv => lhs; unfold ev) <;> rfl
@[simp] theorem ev_not {a : Ex} : ev cf gs o (.not a) env s = (ev cf gs true a env s).bind fun x s => (truthS s x).bind fun b s => .ok (.bl (!b)) s := by (conv => lhs; unfold ev) <;> rfl
@[simp] theorem ev_cmp {op : COp} {a b : Ex} : ev cf gs o (.cmp op a b) env s = (ev cf gs true a env s).bind fun x s => (ev cf gs true b env s).bind fun y s => (lift (cmpD op (deref s x) (deref s y)) s).bind fun b s => .ok (.bl b) s := by (conv => lhs; unfold ev) <;> rfl
@[simp] theorem ev_chn {op op' : COp} {a b c : Ex} : ev cf gs o (.chn op op' a b c) env s = (ev cf gs true a env s).bind fun x s => (ev cf gs true b env s).bind fun y s => (lift (cmpD op (deref s x) (deref s y)) s).bind fun t s =>
    if t = true then (ev cf gs true c env s).bind fun z s => (lift (cmpD op' (deref s y) (deref s z)) s).bind fun b s => .ok (.bl b) s else .ok (.bl false) s := by (conv => lhs; unfold ev) <;> rfl
@[simp] theorem ev_bop {and : Bool} {es : Exs} : ev cf gs o (.bop and es) env s = evB cf gs o and es env s := by (conv => lhs; unfold ev) <;> rfl
@[simp] theorem ev_ite {c a b : Ex} : ev cf gs o (.ite c a b) env s = (ev cf gs true c env s).bind fun x s => (truthS s x).bind fun t s => if t = true then ev cf gs false a env s else ev cf gs false b env s := by (conv => lhs; unfold ev) <;> rfl
@[simp] theorem ev_idx {a i : Ex} : ev cf gs o (.idx a i) env s = (ev cf gs true a env s).bind fun x s => (ev cf gs true i env s).bind fun y s => lift (idxD (deref s x) y) s := by (conv => lhs; unfold ev) <;> rfl
@[simp] theorem ev_slc {a : Ex} {lo hi : OEx} : ev cf gs o (.slc a lo hi) env s = (ev cf gs true a env s).bind fun x s => (evO cf gs lo env s).bind fun l s => (evO cf gs hi env s).bind fun h s => lift (slcD (deref s x) l h) s := by (conv => lhs; unfold ev) <;> rfl
@[simp] theorem ev_rev {a : Ex} : ev cf gs o (.rev a) env s = (ev cf gs true a env s).bind fun x s => lift (revD (deref s x)) s := by (conv => lhs; unfold ev) <;> rfl
@[simp] theorem ev_up {a : Ex} : ev cf gs o (.up a) env s = (ev cf gs true a env s).bind fun x s => lift (upD x) s := by (conv => lhs; unfold ev) <;> rfl
@[simp] theorem ev_call {f : Nat} {es : Exs} : ev cf gs o (.call f es) env s = (evL cf gs true es env s).bind fun ds s => (cf f ds s).bind fun d s =>
    if borrows env es = true then (if nolst? d = true ∧ nolstS? s = true then .ok d s else .err) else .ok d s := by (conv => lhs; unfold ev) <;> rfl
@[simp] theorem ev_blt {b : Blt} {es : Exs} : ev cf gs o (.blt b es) env s = (evL cf gs true es env s).bind fun ds s => lift (bltD b (ds.map (deref s))) s := by (conv => lhs; unfold ev) <;> rfl
@[simp] theorem ev_isi {e : Ex} {t : Ty} : ev cf gs o (.isi e t) env s = (ev cf gs true e env s).bind fun x s => (lift (isiD (deref s x) t) s).bind fun b s => .ok (.bl b) s := by (conv => lhs; unfold ev) <;> rfl
@[simp] theorem evL_nil : evL cf gs o .nil env s = .ok [] s := by unfold evL; rfl
@[simp] theorem evL_c {e : Ex} {es : Exs} : evL cf gs o (.c e es) env s = (ev cf gs o e env s).bind fun d s => (evL cf gs o es env s).bind fun ds s => .ok (d :: ds) s := by (conv => lhs; unfold evL) <;> rfl
@[simp] theorem evB_one {and : Bool} {e : Ex} : evB cf gs o and (.c e .nil) env s = ev cf gs o e env s := by unfold evB; rfl
@[simp] theorem evB_c {and : Bool} {e e' : Ex} {es : Exs} : evB cf gs o and (.c e (.c e' es)) env s = (ev cf gs o e env s).bind fun x s => (truthS s x).bind fun t s => if t = and then evB cf gs o and (.c e' es) env s else .ok x s := by (conv => lhs; unfold evB) <;> rfl
@[simp] theorem evO_n : evO cf gs .n env s = .ok none s := by unfold evO; rfl
@[simp] theorem evO_s {e : Ex} : evO cf gs (.s e) env s = (ev cf gs true e env s).bind fun x s => match x with
    | .int i => .ok (some i) s
    | _ => .err := by (conv => lhs; unfold evO) <;> rfl
@[simp] theorem evC_n : evC cf gs .n env s = .ok true s := by unfold evC; rfl
@[simp] theorem evC_s {e : Ex} : evC cf gs (.s e) env s = (ev cf gs true e env s).bind fun x s => truthS s x := by (conv => lhs; unfold evC) <;> rfl
@[simp] theorem evF_dsp {es : Exs} : evF cf gs (.dsp es) env s = evL cf gs false es env s := by unfold evF; rfl
@[simp] theorem evF_lof {e : Ex} : evF cf gs (.lof e) env s = (ev cf gs true e env s).bind fun x s => match deref s x with
    | .lst ds => .ok ds s
    | .tup ds => .ok ds s
    | _ => .err := by (conv => lhs; unfold evF) <;> rfl
@[simp] theorem evF_lrg {a : Ex} : evF cf gs (.lrg a) env s = (ev cf gs true a env s).bind fun x s => lift (rngL? x) s := by (conv => lhs; unfold evF) <;> rfl
theorem evF_cp1 {elt : Ex} {tg : Tg} {it : Src} {cond : OEx} {vs : List Nat} : evF cf gs (.cp1 elt tg it cond vs) env s = (evI cf gs true it env s).bind fun xs s => (flatF (fun d s => match bindT tg d (wipeE (noOwn env) vs) with
    | none => .err
    | some env1 => (evC cf gs cond env1 s).bind fun t s => if t = true then (ev cf gs false elt env1 s).bind fun y s => .ok [y] s else .ok [] s) xs s).bind fun ys s =>
      if ys.length ≤ LINE then .ok ys s else .err := by (conv => lhs; unfold evF) <;> rfl
theorem evF_cp2 {elt : Ex} {tg tg1 : Tg} {it it1 : Src} {cond cond1 : OEx} {vs vs1 : List Nat} : evF cf gs (.cp2 elt tg it cond tg1 it1 cond1 vs vs1) env s = (evI cf gs true it env s).bind fun xs s => (flatF (fun d s => match bindT tg d (wipeE (noOwn env) vs) with
    | none => .err
    | some env1 => (evC cf gs cond env1 s).bind fun t s => if t = true then (evI cf gs false it1 env1 s).bind fun zs s => flatF (fun d s => match bindT tg1 d (wipeE env1 vs1) with
      | none => .err
      | some env2 => (evC cf gs cond1 env2 s).bind fun t s => if t = true then (ev cf gs false elt env2 s).bind fun y s => .ok [y] s else .ok [] s) zs s else .ok [] s) xs s).bind fun ys s =>
      if ys.length ≤ LINE then .ok ys s else .err := by (conv => lhs; unfold evF) <;> rfl
@[simp] theorem evI_seq {e : Ex} : evI cf gs o (.seq e) env s = (ev cf gs o e env s).bind fun x s => lift (items? x) s := by (conv => lhs; unfold evI) <;> rfl
@[simp] theorem evI_rg1 {a : Ex} : evI cf gs o (.rg1 a) env s = (ev cf gs true a env s).bind fun x s => lift (rng1? x) s := by (conv => lhs; unfold evI) <;> rfl
@[simp] theorem evI_rg2 {a b : Ex} : evI cf gs o (.rg2 a b) env s = (ev cf gs true a env s).bind fun x s => (ev cf gs true b env s).bind fun y s => lift (rng2? x y) s := by (conv => lhs; unfold evI) <;> rfl
@[simp] theorem evI_rg3 {a b c : Ex} : evI cf gs o (.rg3 a b c) env s = (ev cf gs true a env s).bind fun x s => (ev cf gs true b env s).bind fun y s => (ev cf gs true c env s).bind fun z s => lift (rng3? x y z) s := by (conv => lhs; unfold evI) <;> rfl
@[simp] theorem evI_enm {e : Ex} : evI cf gs o (.enm e) env s = (ev cf gs o e env s).bind fun x s => lift (enum? x) s := by (conv => lhs; unfold evI) <;> rfl
@[simp] theorem evI_zip {a b : Ex} : evI cf gs o (.zip a b) env s = (ev cf gs o a env s).bind fun x s => (ev cf gs o b env s).bind fun y s => lift (zip? x y) s := by (conv => lhs; unfold evI) <;> rfl
@[simp] theorem evP_nil : evP cf gs .nil env s = .ok [] s := by unfold evP; rfl
@[simp] theorem evP_v {e : Ex} {ps : Pxs} : evP cf gs (.v e ps) env s = (ev cf gs false e env s).bind fun d s => (evP cf gs ps env s).bind fun r s => .ok (.val d :: r) s := by (conv => lhs; unfold evP) <;> rfl
@[simp] theorem evP_o {f : Fx} {ps : Pxs} : evP cf gs (.o f ps) env s = (evF cf gs f env s).bind fun d s => (evP cf gs ps env s).bind fun r s => .ok (.own d :: r) s := by (conv => lhs; unfold evP) <;> rfl
@[simp] theorem execs_nil : execs cf gs .nil env s = .ok (.nx env) s := by simp only [execs]
def nextF (o : Out Flow) (f : Env → Sto → Out Flow) : Out Flow := o.bind fun fl s => match fl with
    | .nx env' => f env' s
    | .ret d => .ok (.ret d) s
    | .bk env' => .ok (.bk env') s
    | .ct env' => .ok (.ct env') s
    | .rs x d => .ok (.rs x d) s
@[simp] theorem nextF_rs {f : Env → Sto → Out Flow} {x : Str} {d : D} : nextF (.ok (.rs x d) s) f = .ok (.rs x d) s := id rfl
@[simp] theorem nextF_nx {f : Env → Sto → Out Flow} : nextF (.ok (.nx env) s) f = f env s := id rfl
@[simp] theorem nextF_ret {f : Env → Sto → Out Flow} {d : D} : nextF (.ok (.ret d) s) f = .ok (.ret d) s := id rfl
@[simp] theorem nextF_bk {f : Env → Sto → Out Flow} : nextF (.ok (.bk env) s) f = .ok (.bk env) s := id rfl
@[simp] theorem nextF_ct {f : Env → Sto → Out Flow} : nextF (.ok (.ct env) s) f = .ok (.ct env) s := id rfl
@[simp] theorem execs_c {st : Sm} {r : Sms} : execs cf gs (.c st r) env s = nextF (exec cf gs st env s) (execs cf gs r) := by (simp only [execs]) <;> rfl
def stE (o : Option Env) (s : Sto) : Out Flow := match o with
  | some env' => .ok (.nx env') s
  | none => .err
@[simp] theorem stE_some : stE (some env) s = .ok (.nx env) s := id rfl
@[simp] theorem exec_asg {tg : Tg} {e : Ex} : exec cf gs (.asg tg e) env s = (ev cf gs false e env s).bind fun d s => stE (bindT tg d env) s := by (simp only [exec]) <;> rfl
@[simp] theorem exec_own {i : Nat} {f : Fx} : exec cf gs (.own i f) env s = (evF cf gs f env s).bind fun ds s => .ok (.nx (env.set i (some (.own ds)))) s := by simp only [exec]
@[simp] theorem exec_par {is : List Nat} {ps : Pxs} : exec cf gs (.par is ps) env s = (evP cf gs ps env s).bind fun vs s => stE (setAll env is vs) s := by (simp only [exec]) <;> rfl
@[simp] theorem exec_ite {c : Ex} {a b : Sms} : exec cf gs (.ite c a b) env s = (ev cf gs true c env s).bind fun x s => (truthS s x).bind fun t s => if t = true then execs cf gs a env s else execs cf gs b env s := by simp only [exec]
noncomputable def stepF (cf : Nat → List D → Sto → Out D) (gs : List D) (tg : Tg) (b : Sms) : D → Env → Sto → Out Flow := fun d env s => match bindT tg d env with
    | some env1 => execs cf gs b env1 s
    | none => .err
theorem exec_for {tg : Tg} {it : Src} {b : Sms} : exec cf gs (.for tg it b) env s = (evI cf gs false it (frzI env it) s).bind fun xs s => forF (stepF cf gs tg b) xs (frzI env it) s := by (simp only [exec]) <;> rfl
@[simp] theorem exec_ret {e : Ex} : exec cf gs (.ret e) env s = (ev cf gs false e (frzR env e) s).bind fun d s => .ok (.ret d) s := by simp only [exec]
@[simp] theorem frzRs_nil : frzRs env .nil = env := by unfold frzRs; rfl
@[simp] theorem frzRs_var {i : Nat} {es : Exs} : frzRs env (.c (.var i) es) = frzRs (frzAt env i) es := by (conv => lhs; unfold frzRs) <;> rfl
def frzAtx (env : Env) (i : Nat) : Option (Option SV) → Env
  | some (some (.own ds)) => env.set i (some (.val (.lst ds)))
  | _ => env
@[simp] theorem frzAt_eq {i : Nat} : frzAt env i = frzAtx env i env[i]? := by unfold frzAt frzAtx; rfl
@[simp] theorem frzAtx_val {i : Nat} {d : D} : frzAtx env i (some (some (.val d))) = env := id rfl
@[simp] theorem frzAtx_own {i : Nat} {ds : List D} : frzAtx env i (some (some (.own ds))) = env.set i (some (.val (.lst ds))) := id rfl
@[simp] theorem frzRs_c {e : Ex} {es : Exs} (h : ∀ i, e ≠ .var i) : frzRs env (.c e es) = frzRs env es := by
  cases e <;> first | exact absurd rfl (h _) | ((conv => lhs; unfold frzRs) <;> rfl)
@[simp] theorem exec_retN : exec cf gs .retN env s = .ok (.ret .non) s := by simp only [exec]
@[simp] theorem exec_pass : exec cf gs .pass env s = .ok (.nx env) s := by simp only [exec]
@[simp] theorem exec_brk : exec cf gs .brk env s = .ok (.bk env) s := by simp only [exec]
@[simp] theorem exec_cnt : exec cf gs .cnt env s = .ok (.ct env) s := by simp only [exec]
@[simp] theorem exec_ex {e : Ex} : exec cf gs (.ex e) env s = (ev cf gs false e env s).bind fun _ s => .ok (.nx env) s := by simp only [exec]
/-- a slot holds a list -/
def getLx (x : Option (Option SV)) (s : Sto) : Option (List D) := match x with
  | some (some (.own ds)) => some ds
  | some (some (.val (.loc n))) => (match s[n]? with
    | some (.lst ds) => some ds
    | _ => none)
  | _ => none
@[simp] theorem getL_x {i : Nat} : getL env i s = getLx env[i]? s := by unfold getL getLx; rfl
@[simp] theorem getLx_own {ds : List D} : getLx (some (some (.own ds))) s = some ds := id rfl
def getLo : Option SO → Option (List D)
  | some (.lst ds) => some ds
  | _ => none
@[simp] theorem getLx_loc {n : Nat} : getLx (some (some (.val (.loc n)))) s = getLo s[n]? := by unfold getLx getLo; rfl
@[simp] theorem getLo_lst {ds : List D} : getLo (some (.lst ds)) = some ds := id rfl
@[simp] theorem exec_app {i : Nat} {e : Ex} : exec cf gs (.app i e) env s = if (getL env i s).isNone = true then .err else (ev cf gs false e env s).bind fun d s => chg env i s fun ds => if ds.length < LINE then some (ds ++ [d]) else none := by simp only [exec]
@[simp] theorem exec_ext {i : Nat} {e : Ex} : exec cf gs (.ext i e) env s = if (getL env i s).isNone = true then .err else (ev cf gs true e env s).bind fun d s => (match d with
    | .lst zs => chg env i s fun ds => if ds.length + zs.length ≤ LINE then some (ds ++ zs) else none
    | _ => .err) := by (simp only [exec]) <;> rfl
@[simp] theorem exec_setV {i : Nat} {k e : Ex} : exec cf gs (.setV i k e) env s = if (getL env i s).isNone = true then .err else (ev cf gs false e env s).bind fun d s => (ev cf gs true k env s).bind fun x s => (match x with
    | .int k => chg env i s fun ds => (L2.ixN ds.length k).map fun j => ds.set j d
    | _ => .err) := by (simp only [exec]) <;> rfl
def augVk (cf : Nat → List D → Sto → Out D) (gs : List D) (env : Env) (i : Nat) (op : BOp) (e : Ex) (s : Sto) (k : Int) : Option D → Out Flow
  | some (.int a) => (ev cf gs true e env s).bind fun y s => (match y with
          | .int b => (match augI op a b with
            | some c => chg env i s fun ds => (L2.ixN ds.length k).map fun j => ds.set j (.int c)
            | none => .err)
          | _ => .err)
  | _ => .err
def augVx (cf : Nat → List D → Sto → Out D) (gs : List D) (env : Env) (i : Nat) (op : BOp) (e : Ex) (s : Sto) (k : Int) : Option (List D) → Out Flow
  | some ds => augVk cf gs env i op e s k (L2.atI ds k)
  | none => .err
theorem exec_augV {i : Nat} {k : Ex} {op : BOp} {e : Ex} : exec cf gs (.augV i k op e) env s = (ev cf gs true k env s).bind fun x s => (match x with
    | .int k => augVx cf gs env i op e s k (getL env i s)
    | _ => .err) := by (simp only [exec]) <;> rfl
def augS (env : Env) (i : Nat) (op : BOp) (a : Int) (s : Sto) : D → Out Flow
  | .int b => (match augI op a b with
        | some c => .ok (.nx (env.set i (some (.val (.int c))))) s
        | none => .err)
  | _ => .err
theorem exec_aug {i : Nat} {op : BOp} {e : Ex} {a : Int} (h : env[i]? = some (some (.val (.int a)))) : exec cf gs (.aug i op e) env s = (ev cf gs true e env s).bind fun y s => augS env i op a s y := by (simp only [exec, h]) <;> rfl
theorem exec_whl {c : Ex} {b : Sms} : exec cf gs (.whl c b) env s = whileF (fun env s => (ev cf gs true c env s).bind fun x s => truthS s x) (fun env s => execs cf gs b env s) env s := by simp only [exec]
/-! ### instances -/
def fldO (f : Str) (s : Sto) : Option SO → Out D
  | some (.obj _ fs) => lift (fs.lookup f) s
  | _ => .err
def fldD (f : Str) (s : Sto) : D → Out D
  | .loc n => fldO f s s[n]?
  | _ => .err
@[simp] theorem fldD_loc {f : Str} {n : Nat} : fldD f s (.loc n) = fldO f s s[n]? := id rfl
@[simp] theorem fldO_obj {f x : Str} {fs : List (Str × D)} : fldO f s (some (.obj x fs)) = lift (fs.lookup f) s := id rfl
@[simp] theorem ev_fld {e : Ex} {f : Str} : ev cf gs o (.fld e f) env s = (ev cf gs true e env s).bind fun x s => fldD f s x := by (conv => lhs; unfold ev) <;> rfl
def mthO (cf : Nat → List D → Sto → Out D) (gs : List D) (env : Env) (x m : Str) (k : Nat) (es : Exs) (n : Nat) (s : Sto) : Option SO → Out D
  | some (.obj x' fs) => if x' = x ∧ (fs.lookup m).isNone = true then (evL cf gs false es env s).bind fun ds s => cf k (.loc n :: ds) s else .err
  | _ => .err
def mthD (cf : Nat → List D → Sto → Out D) (gs : List D) (env : Env) (x m : Str) (k : Nat) (es : Exs) (s : Sto) : D → Out D
  | .loc n => mthO cf gs env x m k es n s s[n]?
  | _ => .err
@[simp] theorem ev_mth {x m : Str} {e : Ex} {k : Nat} {es : Exs} : ev cf gs o (.mth x e m k es) env s = (ev cf gs true e env s).bind fun x' s => mthD cf gs env x m k es s x' := by (conv => lhs; unfold ev) <;> rfl
@[simp] theorem mthD_loc {x m : Str} {k n : Nat} {es : Exs} : mthD cf gs env x m k es s (.loc n) = mthO cf gs env x m k es n s s[n]? := id rfl
theorem mthO_obj {x m : Str} {k n : Nat} {es : Exs} {fs : List (Str × D)} (h : fs.lookup m = none) : mthO cf gs env x m k es n s (some (.obj x fs)) = (evL cf gs false es env s).bind fun ds s => cf k (.loc n :: ds) s := if_pos ⟨rfl, by rw [h]; rfl⟩
def newD (n : Nat) (s : Sto) : D → Out D
  | .non => .ok (.loc n) s
  | _ => .err
@[simp] theorem newD_non {n : Nat} : newD n s .non = .ok (.loc n) s := id rfl
@[simp] theorem ev_new {x : Str} {k : Nat} {es : Exs} : ev cf gs o (.new x k es) env s = (evL cf gs false es env s).bind fun ds s => (cf k (.loc s.length :: ds) (s ++ [.obj x []])).bind fun r s' => newD s.length s' r := by (conv => lhs; unfold ev) <;> rfl
def setFO (env : Env) (x : Str) (fs : List Str) (n : Nat) (ds : List D) (s : Sto) : Option SO → Out Flow
  | some (.obj x' f0) => if x' = x ∧ fs.length = ds.length ∧ f0.length + fs.length < 1000 then .ok (.nx env) (s.set n (.obj x (putDs f0 (fs.zip ds)))) else .err
  | _ => .err
theorem exec_setF {i n : Nat} {x : Str} {fs : List Str} {es : Exs} (h : env[i]? = some (some (.val (.loc n)))) : exec cf gs (.setF i x fs es) env s = (evL cf gs false es env s).bind fun ds s => setFO env x fs n ds s s[n]? := by (simp only [exec, h]) <;> rfl
theorem setFO_obj {x : Str} {fs : List Str} {n : Nat} {ds : List D} {f0 : List (Str × D)} (h : fs.length = ds.length) (h2 : f0.length + fs.length < 1000) : setFO env x fs n ds s (some (.obj x f0)) = .ok (.nx env) (s.set n (.obj x (putDs f0 (fs.zip ds)))) := if_pos ⟨rfl, h, h2⟩
@[simp] theorem bindT_nm {i : Nat} {d : D} : bindT (.nm i) d env = some (env.set i (some (.val d))) := by unfold bindT; rfl
@[simp] theorem bindT_tp {ts : Tgs} {ds : List D} : bindT (.tp ts) (.tup ds) env = bindTs ts ds env := by (conv => lhs; unfold bindT) <;> rfl
@[simp] theorem bindTs_nil : bindTs .nil [] env = some env := by unfold bindTs; rfl
@[simp] theorem bindTs_c {t : Tg} {ts : Tgs} {d : D} {ds : List D} : bindTs (.c t ts) (d :: ds) env = (match bindT t d env with
    | some env' => bindTs ts ds env'
    | none => none) := by (conv => lhs; unfold bindTs) <;> rfl
@[simp] theorem truthS_bl {b : Bool} : truthS s (.bl b) = .ok b s := id rfl
@[simp] theorem truthS_int {i : Int} : truthS s (.int i) = .ok (i != 0) s := id rfl
@[simp] theorem truthS_non : truthS s .non = .ok false s := id rfl
@[simp] theorem truthS_lst {ds : List D} : truthS s (.lst ds) = .ok (!ds.isEmpty) s := id rfl
@[simp] theorem deref_int {i : Int} : deref s (.int i) = .int i := id rfl
@[simp] theorem deref_bl {i : Bool} : deref s (.bl i) = .bl i := id rfl
@[simp] theorem deref_str {i : Str} : deref s (.str i) = .str i := id rfl
@[simp] theorem deref_non : deref s .non = .non := id rfl
@[simp] theorem deref_tup {ds : List D} : deref s (.tup ds) = .tup ds := id rfl
@[simp] theorem deref_lst {ds : List D} : deref s (.lst ds) = .lst ds := id rfl
@[simp] theorem deref_rol {ds : List D} : deref s (.rol ds) = .rol ds := id rfl
theorem call_at {fs : List Fn} {n i : Nat} {f : Fn} {ds : List D} (h : fs[i]? = some f) (hl : ds.length = f.ps.length) : callF fs gs (n + 1) i ds s = retOf (execs (callF fs gs n) gs f.body (startE f.N.length ds) s) := by
  show (match fs[i]? with
    | some f => if ds.length = f.ps.length then retOf (execs (callF fs gs n) gs f.body (startE f.N.length ds) s) else .err
    | none => if i < RX then .err else match fs[i - RX]? with
      | some f => if ds.length = f.ps.length then excOf (execs (callF fs gs n) gs f.body (startE f.N.length ds) s) else .err
      | none => .err) = _
  rw [h]
  exact if_pos hl
/-- what a def raises -/
theorem callX_at {fs : List Fn} {n i : Nat} {f : Fn} {ds : List D} (h : fs[i]? = some f) (hf : fs.length ≤ 1000) (hl : ds.length = f.ps.length) : callF fs gs (n + 1) (RX + i) ds s = excOf (execs (callF fs gs n) gs f.body (startE f.N.length ds) s) := by
  have h0 : fs[RX + i]? = none := List.getElem?_eq_none (by unfold RX; omega)
  have h1 : RX + i - RX = i := by omega
  have h2 : ¬ RX + i < RX := by omega
  show (match fs[RX + i]? with
    | some f => if ds.length = f.ps.length then retOf (execs (callF fs gs n) gs f.body (startE f.N.length ds) s) else .err
    | none => if RX + i < RX then .err else match fs[RX + i - RX]? with
      | some f => if ds.length = f.ps.length then excOf (execs (callF fs gs n) gs f.body (startE f.N.length ds) s) else .err
      | none => .err) = _
  rw [h0, h1]
  show (if RX + i < RX then Out.err else _) = _
  rw [if_neg h2, h]
  exact if_pos hl
@[simp] theorem excOf_rs {x : Str} {d : D} : excOf (.ok (.rs x d) s) = .ok (.tup [.str x, d]) s := id rfl
@[simp] theorem retOf_rs {x : Str} {d : D} : retOf (.ok (.rs x d) s) = .err := id rfl
@[simp] theorem exC_ok {d : D} {o : Out D} : exC env (.ok d s) o = .ok (.nx env) s := id rfl
@[simp] theorem exC_rs {x : Str} {d : D} : exC env .err (.ok (.tup [.str x, d]) s) = .ok (.rs x d) s := id rfl
@[simp] theorem tryC_ok {x : Str} {d : D} {o : Out D} : tryC x (.ok d s) o = .ok (.ret d) s := id rfl
@[simp] theorem tryC_rs {x : Str} {d : D} : tryC x .err (.ok (.tup [.str x, d]) s) = .ok (.ret .non) s := if_pos rfl
def setEo (env : Env) (n : Nat) (d : D) (i : Int) (s : Sto) : Option SO → Out Flow
  | some (.lst ds) => (match L2.ixN ds.length i with
    | some j => .ok (.nx env) (s.set n (.lst (ds.set j d)))
    | none => .err)
  | _ => .err
def setEx (env : Env) (d : D) (s : Sto) : D → D → Out Flow
  | .loc n, .int i => setEo env n d i s s[n]?
  | _, _ => .err
@[simp] theorem setEx_loc {d : D} {n : Nat} {i : Int} : setEx env d s (.loc n) (.int i) = setEo env n d i s s[n]? := id rfl
theorem setEo_lst {d : D} {n : Nat} {i : Int} {j : Nat} {ds : List D} (h : L2.ixN ds.length i = some j) : setEo env n d i s (some (.lst ds)) = .ok (.nx env) (s.set n (.lst (ds.set j d))) := by
  show (match L2.ixN ds.length i with
    | some j => Out.ok (Flow.nx env) (s.set n (.lst (ds.set j d)))
    | none => .err) = _
  rw [h]
@[simp] theorem exec_setE {a k e : Ex} : exec cf gs (.setE a k e) env s = (ev cf gs false e env s).bind fun d s => (ev cf gs true a env s).bind fun o s => (ev cf gs true k env s).bind fun x s => setEx env d s o x := by (simp only [exec]) <;> rfl
def raiseD (x : Str) (s : Sto) : D → Out Flow
  | .int i => if 0 ≤ i ∧ i ≤ 1000000000000 then .ok (.rs x (.int i)) s else .err
  | _ => .err
theorem raiseD_int {x : Str} {i : Int} (h : 0 ≤ i ∧ i ≤ 1000000000000) : raiseD x s (.int i) = .ok (.rs x (.int i)) s := if_pos h
@[simp] theorem exec_raise {x : Str} {e : Ex} : exec cf gs (.raise x e) env s = (ev cf gs false e env s).bind fun d s => raiseD x s d := by (simp only [exec]) <;> rfl
def exMo (cf : Nat → List D → Sto → Out D) (gs : List D) (env : Env) (x m : Str) (k : Nat) (es : Exs) (n : Nat) (s : Sto) : Option SO → Out Flow
  | some (.obj x' fs) => if x' = x ∧ (fs.lookup m).isNone = true then (evL cf gs false es env s).bind fun ds s => exC env (cf k (.loc n :: ds) s) (cf (RX + k) (.loc n :: ds) s) else .err
  | _ => .err
def exMd (cf : Nat → List D → Sto → Out D) (gs : List D) (env : Env) (x m : Str) (k : Nat) (es : Exs) (s : Sto) : D → Out Flow
  | .loc n => exMo cf gs env x m k es n s s[n]?
  | _ => .err
@[simp] theorem exMd_loc {x m : Str} {k n : Nat} {es : Exs} : exMd cf gs env x m k es s (.loc n) = exMo cf gs env x m k es n s s[n]? := id rfl
theorem exMo_obj {x m : Str} {k n : Nat} {es : Exs} {fs : List (Str × D)} (h : fs.lookup m = none) : exMo cf gs env x m k es n s (some (.obj x fs)) = (evL cf gs false es env s).bind fun ds s => exC env (cf k (.loc n :: ds) s) (cf (RX + k) (.loc n :: ds) s) := if_pos ⟨rfl, by rw [h]; rfl⟩
@[simp] theorem exec_exM {x m : Str} {o : Ex} {k : Nat} {es : Exs} : exec cf gs (.exM x o m k es) env s = (ev cf gs true o env s).bind fun o s => exMd cf gs env x m k es s o := by (simp only [exec]) <;> rfl
@[simp] theorem exec_tryR {x : Str} {f : Nat} {es : Exs} : exec cf gs (.tryR x f es) env s = if borrows env es = true then .err else (evL cf gs true es env s).bind fun ds s => tryC x (cf f ds s) (cf (RX + f) ds s) := by (simp only [exec]) <;> rfl
@[simp] theorem retOf_ret {d : D} : retOf (.ok (.ret d) s) = .ok d s := id rfl
@[simp] theorem retOf_nx : retOf (.ok (.nx env) s) = .ok .non s := id rfl
theorem idx_tup {xs : List D} {k : Nat} {d : D} (h : xs[k]? = some d) : idxD (.tup xs) (.int k) = some d := by
  show L2.atI xs (k : Int) = some d
  have hk : k < xs.length := (List.getElem?_eq_some_iff.mp h).1
  unfold L2.atI L2.ixN
  simp [hk]
  exact (List.getElem?_eq_some_iff.mp h).2
end

@[simp] theorem setAll_nil {env : Env} : setAll env [] [] = some env := id rfl
@[simp] theorem setAll_c {env : Env} {i : Nat} {is : List Nat} {v : SV} {vs : List SV} : setAll env (i :: is) (v :: vs) = setAll (env.set i (some v)) is vs := id rfl
/-! ### while -/
theorem whileN_succ {c : Env → Sto → Out Bool} {b : Env → Sto → Out Flow} : ∀ {n : Nat} {env : Env} {s s' : Sto} {fl : Flow}, whileN c b n env s = .ok fl s' → whileN c b (n + 1) env s = .ok fl s'
  | 0, env, s, s', fl, h => by cases h
  | n + 1, env, s, s', fl, h => by
    unfold whileN at h ⊢
    cases e : c env s with
    | err => rw [e] at h; cases h
    | ok t s1 =>
      rw [e, ok_bind] at h
      rw [ok_bind]
      cases t with
      | false => exact h
      | true =>
        simp only [if_true] at h ⊢
        cases e2 : b env s1 with
        | err => rw [e2] at h; cases h
        | ok fl2 s2 =>
          rw [e2, ok_bind] at h
          rw [ok_bind]
          cases fl2 with
          | nx env' => exact whileN_succ h
          | ct env' => exact whileN_succ h
          | bk env' => exact h
          | ret d => exact h
          | rs x d => exact h
theorem whileN_add {c : Env → Sto → Out Bool} {b : Env → Sto → Out Flow} {n : Nat} {env : Env} {s s' : Sto} {fl : Flow} (h : whileN c b n env s = .ok fl s') : ∀ k, whileN c b (n + k) env s = .ok fl s'
  | 0 => h
  | k + 1 => whileN_succ (whileN_add h k)
theorem whileF_eq {c : Env → Sto → Out Bool} {b : Env → Sto → Out Flow} {n : Nat} {env : Env} {s s' : Sto} {fl : Flow} (h : whileN c b n env s = .ok fl s') : whileF c b env s = .ok fl s' := by
  have hx : ∃ n, whileN c b n env s ≠ .err := ⟨n, by rw [h]; simp⟩
  unfold whileF
  rw [dif_pos hx]
  have h2 := Classical.choose_spec hx
  cases e : whileN c b (Classical.choose hx) env s with
  | err => exact absurd e h2
  | ok fl2 s2 =>
    have e1 := whileN_add e n
    have e2 := whileN_add h (Classical.choose hx)
    rw [Nat.add_comm, e2] at e1
    exact e1.symm
theorem whileN_stop {c : Env → Sto → Out Bool} {b : Env → Sto → Out Flow} {n : Nat} {env : Env} {s s1 : Sto} (h : c env s = .ok false s1) : whileN c b (n + 1) env s = .ok (.nx env) s1 := by
  unfold whileN
  rw [h]; rfl
theorem whileN_go {c : Env → Sto → Out Bool} {b : Env → Sto → Out Flow} {n : Nat} {env env' : Env} {s s1 s2 : Sto} (h : c env s = .ok true s1) (h2 : b env s1 = .ok (.nx env') s2) : whileN c b (n + 1) env s = whileN c b n env' s2 := by
  conv => lhs; unfold whileN
  rw [h, ok_bind, if_pos rfl, h2]; rfl
/-! ### loops and comprehensions -/
theorem flatF_pure {α : Type} {f : D → Sto → Out (List D)} {mk : α → D} {g : α → List D} {s : Sto} : ∀ {xs : List α}, (∀ x ∈ xs, f (mk x) s = .ok (g x) s) → flatF f (xs.map mk) s = .ok (xs.flatMap g) s
  | [], _ => rfl
  | x :: xs, h => by
    have ih := flatF_pure (f := f) (mk := mk) (g := g) (s := s) (xs := xs) fun y hy => h y (List.mem_cons_of_mem _ hy)
    show (f (mk x) s).bind (fun xs' s1 => (flatF f (xs.map mk) s1).bind fun ys s2 => .ok (xs' ++ ys) s2) = _
    rw [h x List.mem_cons_self, ok_bind, ih, ok_bind]
    rfl
/-- with a state -/
theorem flatF_st {α : Type} {f : D → Sto → Out (List D)} {mk : α → D} {I : Sto → Prop} {R : α → List D → Prop} : ∀ {xs : List α} {s : Sto}, I s → (∀ x ∈ xs, ∀ s, I s → ∃ ys s', f (mk x) s = .ok ys s' ∧ I s' ∧ R x ys) →
    ∃ (yss : List (List D)) (s' : Sto), flatF f (xs.map mk) s = .ok (yss.flatten) s' ∧ I s' ∧ yss.length = xs.length ∧ ∀ (i : Nat) x ys, xs[i]? = some x → yss[i]? = some ys → R x ys
  | [], s, hI, _ => ⟨[], s, rfl, hI, rfl, fun i x ys h => by simp at h⟩
  | x :: xs, s, hI, h => by
    obtain ⟨ys, s1, e1, I1, r1⟩ := h x List.mem_cons_self s hI
    obtain ⟨yss, s2, e2, I2, hl, r2⟩ := flatF_st (f := f) (mk := mk) (R := R) (xs := xs) I1 fun y hy => h y (List.mem_cons_of_mem _ hy)
    refine ⟨ys :: yss, s2, ?_, I2, by simp [hl], fun i y zs h1 h2 => ?_⟩
    · show (f (mk x) s).bind (fun xs' s1 => (flatF f (xs.map mk) s1).bind fun ys s2 => .ok (xs' ++ ys) s2) = _
      rw [e1, ok_bind, e2, ok_bind]; rfl
    · cases i with
      | zero => simp at h1 h2; subst h1 h2; exact r1
      | succ i => simp at h1 h2; exact r2 i y zs h1 h2
theorem forF_inv {α : Type} {f : D → Env → Sto → Out Flow} {mk : α → D} {I : List α → Env → Sto → Prop} : ∀ {xs pre : List α} {env : Env} {s : Sto}, I pre env s →
    (∀ p x q env s, pre ++ xs = p ++ x :: q → I p env s → ∃ env' s', f (mk x) env s = .ok (.nx env') s' ∧ I (p ++ [x]) env' s') → ∃ env' s', forF f (xs.map mk) env s = .ok (.nx env') s' ∧ I (pre ++ xs) env' s'
  | [], pre, env, s, hI, _ => ⟨env, s, rfl, by simpa using hI⟩
  | x :: xs, pre, env, s, hI, h => by
    obtain ⟨env1, s1, e1, I1⟩ := h pre x xs env s rfl hI
    obtain ⟨env2, s2, e2, I2⟩ := forF_inv (f := f) (mk := mk) (I := I) (xs := xs) (pre := pre ++ [x]) I1 fun p y q env s e => h p y q env s (by rw [← e]; simp)
    refine ⟨env2, s2, ?_, by simpa using I2⟩
    show (f (mk x) env s).bind _ = _
    rw [e1, ok_bind]; exact e2
end PV
set_option maxRecDepth 100000
set_option maxHeartbeats 4000000
/-! Equality of deep values, plainly. -/
namespace PV
open PySem
mutual
/-- no truth value, no object of the store -/
def nob? : D → Bool
  | .non => true
  | .int _ => true
  | .str x => PyData.strOk x
  | .tup xs => nobs? xs
  | .lst xs => nobs? xs
  | _ => false
def nobs? : List D → Bool
  | [] => true
  | d :: ds => nob? d && nobs? ds
end
mutual
def dep : D → Nat
  | .tup xs => deps xs + 1
  | .lst xs => deps xs + 1
  | _ => 0
def deps : List D → Nat
  | [] => 0
  | d :: ds => max (dep d) (deps ds)
end
mutual
theorem pure_nob : ∀ {d : D}, nob? d = true → pure? d = true ∧ (toPy d).canLay0 = true ∧ (toPy d).depth ≤ dep d + 1
  | .non, _ => ⟨rfl, rfl, by simp [toPy, PyData.depth, dep]⟩
  | .int _, _ => ⟨rfl, rfl, by simp [toPy, PyData.depth, dep]⟩
  | .str x, h => ⟨rfl, by simpa [nob?, toPy, PyData.canLay0] using h, by simp [toPy, PyData.depth, dep]⟩
  | .tup xs, h => by
    have h' : nobs? xs = true := by simpa [nob?] using h
    obtain ⟨a, b, c⟩ := pure_nobs h'
    exact ⟨by simpa [pure?] using a, by simpa [toPy, PyData.canLay0] using b, by simp only [toPy, PyData.depth, dep]; omega⟩
  | .lst xs, h => by
    have h' : nobs? xs = true := by simpa [nob?] using h
    obtain ⟨a, b, c⟩ := pure_nobs h'
    exact ⟨by simpa [pure?] using a, by simpa [toPy, PyData.canLay0] using b, by simp only [toPy, PyData.depth, dep]; omega⟩
  | .bl _, h => by simp [nob?] at h
  | .rol _, h => by simp [nob?] at h
  | .loc _, h => by simp [nob?] at h
theorem pure_nobs : ∀ {ds : List D}, nobs? ds = true → pures? ds = true ∧ PyData.canLayAll0 (toPys ds) = true ∧ PyData.depthAll (toPys ds) ≤ deps ds + 1
  | [], _ => ⟨rfl, rfl, by simp [toPys, PyData.depthAll, deps]⟩
  | d :: ds, h => by
    have h' : nob? d = true ∧ nobs? ds = true := by simpa [nobs?] using h
    obtain ⟨a, b, c⟩ := pure_nob h'.1
    obtain ⟨a2, b2, c2⟩ := pure_nobs h'.2
    refine ⟨by simp [pures?, a, a2], by simp [toPys, PyData.canLayAll0, b, b2], ?_⟩
    simp only [toPys, PyData.depthAll, deps]
    omega
end
theorem shp_nob {d : D} (h : nob? d = true) (h2 : dep d ≤ 60) : shp d = true := by
  obtain ⟨a, b, c⟩ := pure_nob h
  have : (toPy d).depth ≤ 64 := by omega
  simp [shp, SeqAt.shaped, a, b, this]
mutual
theorem eqv_iff : ∀ {a b : D}, nob? a = true → nob? b = true → (PyData.eqv (toPy a) (toPy b) = true ↔ a = b)
  | .non, b, _, hb => by cases b <;> simp [nob?] at hb <;> simp [toPy, PyData.eqv]
  | .int i, b, _, hb => by cases b <;> simp [nob?] at hb <;> simp [toPy, PyData.eqv]
  | .str x, b, _, hb => by cases b <;> simp [nob?] at hb <;> simp [toPy, PyData.eqv]
  | .tup xs, b, ha, hb => by
    have ha' : nobs? xs = true := by simpa [nob?] using ha
    cases b with
    | tup ys =>
      have hb' : nobs? ys = true := by simpa [nob?] using hb
      simp [toPy, PyData.eqv, eqvs_iff ha' hb']
    | _ => simp [nob?] at hb <;> simp [toPy, PyData.eqv]
  | .lst xs, b, ha, hb => by
    have ha' : nobs? xs = true := by simpa [nob?] using ha
    cases b with
    | lst ys =>
      have hb' : nobs? ys = true := by simpa [nob?] using hb
      simp [toPy, PyData.eqv, eqvs_iff ha' hb']
    | _ => simp [nob?] at hb <;> simp [toPy, PyData.eqv]
  | .bl _, _, h, _ => by simp [nob?] at h
  | .rol _, _, h, _ => by simp [nob?] at h
  | .loc _, _, h, _ => by simp [nob?] at h
theorem eqvs_iff : ∀ {a b : List D}, nobs? a = true → nobs? b = true → (PyData.eqvAll (toPys a) (toPys b) = true ↔ a = b)
  | [], [], _, _ => by simp [toPys, PyData.eqvAll]
  | [], _ :: _, _, _ => by simp [toPys, PyData.eqvAll]
  | _ :: _, [], _, _ => by simp [toPys, PyData.eqvAll]
  | x :: xs, y :: ys, ha, hb => by
    have ha' : nob? x = true ∧ nobs? xs = true := by simpa [nobs?] using ha
    have hb' : nob? y = true ∧ nobs? ys = true := by simpa [nobs?] using hb
    simp [toPys, PyData.eqvAll, eqv_iff ha'.1 hb'.1, eqvs_iff ha'.2 hb'.2]
end
/-- data of the kind that the laws compare -/
def Dat (d : D) : Prop := nob? d = true ∧ dep d ≤ 60
theorem eq_dat {a b : D} (ha : Dat a) (hb : Dat b) (h : a = b) : cmpD .eq a b = some true := by
  show eqD a b = _
  unfold eqD
  rw [if_pos ⟨shp_nob ha.1 ha.2, shp_nob hb.1 hb.2⟩, (eqv_iff ha.1 hb.1).mpr h]
theorem ne_dat {a b : D} (ha : Dat a) (hb : Dat b) (h : a ≠ b) : cmpD .eq a b = some false := by
  show eqD a b = _
  unfold eqD
  rw [if_pos ⟨shp_nob ha.1 ha.2, shp_nob hb.1 hb.2⟩]
  cases e : PyData.eqv (toPy a) (toPy b) with
  | true => exact absurd ((eqv_iff ha.1 hb.1).mp e) h
  | false => rfl
open Classical in
theorem eqD_dat {a b : D} (ha : Dat a) (hb : Dat b) : cmpD .eq a b = some (decide (a = b)) := by
  by_cases h : a = b
  · rw [eq_dat ha hb h]; simp [h]
  · rw [ne_dat ha hb h]; simp [h]
theorem neD_eq {a b : D} {t : Bool} (h : cmpD .eq a b = some t) : cmpD .ne a b = some (!t) := by
  show (eqD a b).map (!·) = _
  rw [show eqD a b = some t from h]; rfl
theorem Dat.int {i : Int} : Dat (.int i) := ⟨rfl, by simp [dep]⟩
theorem Dat.non : Dat .non := ⟨rfl, by simp [dep]⟩
theorem Dat.str {x : Str} (h : PyData.strOk x = true) : Dat (.str x) := ⟨by simpa [nob?] using h, by simp [dep]⟩
theorem nobs_of : ∀ {ds : List D}, (∀ d ∈ ds, nob? d = true) → nobs? ds = true
  | [], _ => rfl
  | d :: ds, h => by simp [nobs?, h d List.mem_cons_self, nobs_of fun x hx => h x (List.mem_cons_of_mem _ hx)]
theorem deps_of {k : Nat} : ∀ {ds : List D}, (∀ d ∈ ds, dep d ≤ k) → deps ds ≤ k
  | [], _ => Nat.zero_le _
  | d :: ds, h => by
    have h1 := h d List.mem_cons_self
    have h2 := deps_of (k := k) fun x hx => h x (List.mem_cons_of_mem _ hx)
    show max (dep d) (deps ds) ≤ k
    omega
/-- .. with its depth told -/
def DatK (k : Nat) (d : D) : Prop := nob? d = true ∧ dep d ≤ k
theorem DatK.up {k j : Nat} {d : D} (h : DatK k d) (hk : k ≤ j) : DatK j d := ⟨h.1, by have := h.2; omega⟩
theorem DatK.dat {k : Nat} {d : D} (h : DatK k d) (hk : k ≤ 60) : Dat d := ⟨h.1, by have := h.2; omega⟩
theorem DatK.int {k : Nat} {i : Int} : DatK k (.int i) := ⟨rfl, by simp [dep]⟩
theorem DatK.non {k : Nat} : DatK k .non := ⟨rfl, by simp [dep]⟩
theorem DatK.str {k : Nat} {x : Str} (h : PyData.strOk x = true) : DatK k (.str x) := ⟨by simpa [nob?] using h, by simp [dep]⟩
theorem DatK.tup {k : Nat} {ds : List D} (h : ∀ d ∈ ds, DatK k d) : DatK (k + 1) (.tup ds) := ⟨by simpa [nob?] using nobs_of fun d hd => (h d hd).1, by
  have := deps_of (k := k) fun d hd => (h d hd).2
  simp only [dep]; omega⟩
theorem DatK.lst {k : Nat} {ds : List D} (h : ∀ d ∈ ds, DatK k d) : DatK (k + 1) (.lst ds) := ⟨by simpa [nob?] using nobs_of fun d hd => (h d hd).1, by
  have := deps_of (k := k) fun d hd => (h d hd).2
  simp only [dep]; omega⟩
theorem toPys_map : ∀ {ds : List D}, toPys ds = ds.map toPy
  | [] => rfl
  | d :: ds => by simp [toPys, toPys_map]
open Classical in
/-- x in a list of plain data -/
theorem in_lst {x : D} {ds : List D} {k : Nat} (hk : k ≤ 50) (hx : DatK k x) (hd : ∀ d ∈ ds, DatK k d) : inD x (.lst ds) = some (decide (x ∈ ds)) := by
  show (if shp x = true ∧ shp (D.lst ds) = true then some ((toPys ds).any fun z => z.eqv (toPy x)) else none) = _
  rw [if_pos ⟨shp_nob hx.1 (by have := hx.2; omega), by have := DatK.lst hd; exact shp_nob this.1 (by have := this.2; omega)⟩]
  congr 1
  rw [toPys_map, Bool.eq_iff_iff]
  simp only [List.any_map, List.any_eq_true, Function.comp, decide_eq_true_eq]
  constructor
  · rintro ⟨y, hy, e⟩
    rw [(eqv_iff (hd y hy).1 hx.1).mp e] at hy
    exact hy
  · exact fun h => ⟨x, h, (eqv_iff hx.1 hx.1).mpr rfl⟩
open Classical in
theorem in_tup {x : D} {ds : List D} {k : Nat} (hk : k ≤ 50) (hx : DatK k x) (hd : ∀ d ∈ ds, DatK k d) : inD x (.tup ds) = some (decide (x ∈ ds)) := by
  show (if shp x = true ∧ shp (D.tup ds) = true then some ((toPys ds).any fun z => z.eqv (toPy x)) else none) = _
  rw [if_pos ⟨shp_nob hx.1 (by have := hx.2; omega), by have := DatK.tup hd; exact shp_nob this.1 (by have := this.2; omega)⟩]
  congr 1
  rw [toPys_map, Bool.eq_iff_iff]
  simp only [List.any_map, List.any_eq_true, Function.comp, decide_eq_true_eq]
  constructor
  · rintro ⟨y, hy, e⟩
    rw [(eqv_iff (hd y hy).1 hx.1).mp e] at hy
    exact hy
  · exact fun h => ⟨x, h, (eqv_iff hx.1 hx.1).mpr rfl⟩
theorem int_inj {i j : Int} : D.int i = D.int j ↔ i = j := ⟨fun h => by cases h; rfl, fun h => by rw [h]⟩
theorem str_inj {i j : Str} : D.str i = D.str j ↔ i = j := ⟨fun h => by cases h; rfl, fun h => by rw [h]⟩
theorem eq_str {x y : Str} (hx : PyData.strOk x = true) (hy : PyData.strOk y = true) : cmpD .eq (.str x) (.str y) = some (decide (x = y)) := by
  rw [eqD_dat (Dat.str hx) (Dat.str hy)]
  congr 1
  by_cases h : x = y <;> simp [h, str_inj]
end PV
set_option maxRecDepth 100000
set_option maxHeartbeats 4000000
/-! Lemmas about values, comprehensions and loops that all laws use. -/
namespace PV
open PySem
/-! ### operations on ints, pairs -/
def mx (i j : Int) : Int := if j > i then j else i
def mn (i j : Int) : Int := if j < i then j else i
@[simp] theorem blt_max2 {i j : Int} : bltD .max [.int i, .int j] = some (.int (mx i j)) := id rfl
@[simp] theorem blt_min2 {i j : Int} : bltD .min [.int i, .int j] = some (.int (mn i j)) := id rfl
@[simp] theorem blt_len_tup {ds : List D} : bltD .len [.tup ds] = some (.int ds.length) := id rfl
@[simp] theorem blt_len_lst {ds : List D} : bltD .len [.lst ds] = some (.int ds.length) := id rfl
@[simp] theorem blt_len_rol {ds : List D} : bltD .len [.rol ds] = some (.int ds.length) := id rfl
@[simp] theorem blt_int {i : Int} : bltD .int [.int i] = some (.int i) := id rfl
@[simp] theorem blt_abs {i : Int} : bltD .abs [.int i] = some (.int (if i < 0 then -i else i)) := id rfl
@[simp] theorem blt_tupL {ds : List D} : bltD .tup [.lst ds] = some (.tup ds) := id rfl
@[simp] theorem blt_tupT {ds : List D} : bltD .tup [.tup ds] = some (.tup ds) := id rfl
@[simp] theorem bin_add {i j : Int} : binD .add (.int i) (.int j) = some (.int (i + j)) := id rfl
@[simp] theorem bin_sub {i j : Int} : binD .sub (.int i) (.int j) = some (.int (i - j)) := id rfl
@[simp] theorem cmp_lt {i j : Int} : cmpD .lt (.int i) (.int j) = some (decide (i < j)) := id rfl
@[simp] theorem cmp_le {i j : Int} : cmpD .le (.int i) (.int j) = some (decide (i ≤ j)) := id rfl
@[simp] theorem cmp_gt {i j : Int} : cmpD .gt (.int i) (.int j) = some (decide (j < i)) := id rfl
@[simp] theorem cmp_ge {i j : Int} : cmpD .ge (.int i) (.int j) = some (decide (j ≤ i)) := id rfl
@[simp] theorem flatF_nil {f : D → Sto → Out (List D)} {s : Sto} : flatF f [] s = .ok [] s := id rfl
@[simp] theorem flatF_cons {f : D → Sto → Out (List D)} {d : D} {ds : List D} {s : Sto} : flatF f (d :: ds) s = (f d s).bind fun xs s1 => (flatF f ds s1).bind fun ys s2 => .ok (xs ++ ys) s2 := id rfl
def nextL (o : Out Flow) (f : Env → Sto → Out Flow) : Out Flow := o.bind fun fl s => match fl with
    | .nx env' => f env' s
    | .ct env' => f env' s
    | .bk env' => .ok (.nx env') s
    | .ret d => .ok (.ret d) s
    | .rs x d => .ok (.rs x d) s
@[simp] theorem nextL_rs {f : Env → Sto → Out Flow} {x : Str} {d : D} {s : Sto} : nextL (.ok (.rs x d) s) f = .ok (.rs x d) s := id rfl
@[simp] theorem nextL_nx {f : Env → Sto → Out Flow} {env : Env} {s : Sto} : nextL (.ok (.nx env) s) f = f env s := id rfl
@[simp] theorem nextL_ret {f : Env → Sto → Out Flow} {d : D} {s : Sto} : nextL (.ok (.ret d) s) f = .ok (.ret d) s := id rfl
theorem forF_nil {f : D → Env → Sto → Out Flow} {env : Env} {s : Sto} : forF f [] env s = .ok (.nx env) s := rfl
theorem forF_cons {f : D → Env → Sto → Out Flow} {d : D} {ds : List D} {env : Env} {s : Sto} : forF f (d :: ds) env s = nextL (f d env s) (forF f ds) := rfl
@[simp] theorem idx_0 {a : D} {l : List D} : idxD (.tup (a :: l)) (.int 0) = some a := idx_tup (k := 0) rfl
@[simp] theorem idx_1 {a b : D} {l : List D} : idxD (.tup (a :: b :: l)) (.int 1) = some b := idx_tup (k := 1) rfl
@[simp] theorem idx_2 {a b c : D} {l : List D} : idxD (.tup (a :: b :: c :: l)) (.int 2) = some c := idx_tup (k := 2) rfl
@[simp] theorem idx_3 {a b c d : D} {l : List D} : idxD (.tup (a :: b :: c :: d :: l)) (.int 3) = some d := idx_tup (k := 3) rfl
@[simp] theorem idxL_0 {a : D} {l : List D} : idxD (.lst (a :: l)) (.int 0) = some a := idx_tup (k := 0) rfl
@[simp] theorem idxL_1 {a b : D} {l : List D} : idxD (.lst (a :: b :: l)) (.int 1) = some b := idx_tup (k := 1) rfl
@[simp] theorem idxL_2 {a b c : D} {l : List D} : idxD (.lst (a :: b :: c :: l)) (.int 2) = some c := idx_tup (k := 2) rfl
@[simp] theorem ne_int {i j : Int} : cmpD .ne (.int i) (.int j) = some (!decide (i = j)) := by
  show (eqD (.int i) (.int j)).map (!·) = _
  rfl
@[simp] theorem eq_int {i j : Int} : cmpD .eq (.int i) (.int j) = some (decide (i = j)) := id rfl
def ptD (x y z : Int) : D := .tup [.int x, .int y, .int z]
def pD (p : Int × Int) : D := .tup [.int p.1, .int p.2]
@[simp] theorem slc_02 {a b c : D} : slcD (.tup [a, b, c]) none (some 2) = some (.tup [a, b]) := id rfl
@[simp] theorem slc_00 {a b c : D} : slcD (.tup [a, b, c]) none (some 0) = some (.tup []) := id rfl
@[simp] theorem slc_01 {a b c : D} : slcD (.tup [a, b, c]) none (some 1) = some (.tup [a]) := id rfl
@[simp] theorem slc_1 {a b c : D} : slcD (.tup [a, b, c]) (some 1) none = some (.tup [b, c]) := id rfl
@[simp] theorem slc_2 {a b c : D} : slcD (.tup [a, b, c]) (some 2) none = some (.tup [c]) := id rfl
@[simp] theorem slc_3 {a b c : D} : slcD (.tup [a, b, c]) (some 3) none = some (.tup []) := id rfl
theorem ints_map {l : List Int} : ints? (l.map D.int) = some l := by
  induction l with
  | nil => rfl
  | cons x l ih => show (ints? (l.map D.int)).map (x :: ·) = _; rw [ih]; rfl
theorem max_list {x : Int} {l : List Int} : bltD .max [.lst (D.int x :: l.map D.int)] = some (.int (maxI (x :: l))) := by
  show (match ints? ((x :: l).map D.int) with
    | some (x :: r) => some (D.int (maxI (x :: r)))
    | _ => none) = _
  rw [ints_map]
theorem min_list {x : Int} {l : List Int} : bltD .min [.lst (D.int x :: l.map D.int)] = some (.int (minI (x :: l))) := by
  show (match ints? ((x :: l).map D.int) with
    | some (x :: r) => some (D.int (minI (x :: r)))
    | _ => none) = _
  rw [ints_map]
theorem maxI_le : ∀ {l : List Int} {x z : Int}, maxI (x :: l) ≤ z ↔ x ≤ z ∧ ∀ y ∈ l, y ≤ z
  | [], x, z => by simp [maxI]
  | y :: l, x, z => by
    show max x (maxI (y :: l)) ≤ z ↔ _
    rw [Int.max_le, maxI_le]
    simp
def ir (lo hi : Int) : List Int := (List.range (hi - lo).toNat).map fun i => lo + ((i : Nat) : Int)
theorem mem_ir {lo hi x : Int} : x ∈ ir lo hi ↔ lo ≤ x ∧ x < hi := by
  unfold ir
  rw [List.mem_map]
  constructor
  · rintro ⟨i, hi, rfl⟩
    rw [List.mem_range] at hi
    omega
  · rintro ⟨h1, h2⟩
    exact ⟨(x - lo).toNat, by rw [List.mem_range]; omega, by omega⟩
theorem ir_len {lo hi : Int} : (ir lo hi).length = (hi - lo).toNat := by simp [ir]
theorem rangeL_ir {lo hi : Int} : rangeL lo 1 (hi - lo).toNat = (ir lo hi).map D.int := by
  unfold rangeL ir
  rw [List.map_map]
  refine List.map_congr_left fun i _ => ?_
  simp
theorem rng2_ir {i j : Int} (h : -1000000 ≤ i ∧ i ≤ 1000000 ∧ -1000000 ≤ j ∧ j ≤ 1000000) : rng2? (.int i) (.int j) = some ((ir i j).map D.int) := by
  unfold rng2?
  simp only
  rw [if_pos (by omega), rangeL_ir]
theorem rng1_ir {j : Int} (h : -1000000 ≤ j ∧ j ≤ 1000000) : rng1? (.int j) = some ((ir 0 j).map D.int) := by
  unfold rng1?
  simp only
  rw [if_pos (by omega), ← rangeL_ir]
  simp
theorem flatMap_le {α β : Type} {g : α → List β} {c : Nat} : ∀ {l : List α}, (∀ x ∈ l, (g x).length ≤ c) → (l.flatMap g).length ≤ l.length * c
  | [], _ => by simp
  | x :: l, h => by
    have := flatMap_le (g := g) (c := c) (l := l) fun y hy => h y (List.mem_cons_of_mem _ hy)
    have h1 := h x List.mem_cons_self
    rw [List.flatMap_cons, List.length_append, List.length_cons, Nat.add_mul]
    omega
theorem flatMap_one {α β : Type} {g : α → β} {l : List α} : l.flatMap (fun x => [g x]) = l.map g := by
  induction l with
  | nil => rfl
  | cons x l ih => simp [ih]
def turn1 (cf : Nat → List D → Sto → Out D) (gs : List D) (elt : Ex) (tg : Tg) (cond : OEx) (vs : List Nat) (env : Env) : D → Sto → Out (List D) := fun d s => match bindT tg d (wipeE env vs) with
    | none => .err
    | some env1 => (evC cf gs cond env1 s).bind fun t s => if t = true then (ev cf gs false elt env1 s).bind fun y s => .ok [y] s else .ok [] s
theorem evF_cp1' {cf : Nat → List D → Sto → Out D} {gs : List D} {elt : Ex} {tg : Tg} {it : Src} {cond : OEx} {vs : List Nat} {env : Env} {s : Sto} : evF cf gs (.cp1 elt tg it cond vs) env s = (evI cf gs true it env s).bind fun xs s => (flatF (turn1 cf gs elt tg cond vs (noOwn env)) xs s).bind fun ys s =>
      if ys.length ≤ LINE then .ok ys s else .err := by rw [evF_cp1]; rfl
/-- one clause, each turn one value or none -/
theorem cp1_pure {cf : Nat → List D → Sto → Out D} {gs : List D} {elt : Ex} {tg : Tg} {it : Src} {cond : OEx} {vs : List Nat} {env : Env} {s : Sto} {α : Type} {mk : α → D} {g : α → List D} {xs : List α} (h1 : evI cf gs true it env s = .ok (xs.map mk) s)
    (h2 : ∀ x ∈ xs, turn1 cf gs elt tg cond vs (noOwn env) (mk x) s = .ok (g x) s) (hz : (xs.flatMap g).length ≤ LINE) :
    evF cf gs (.cp1 elt tg it cond vs) env s = .ok (xs.flatMap g) s := by
  rw [evF_cp1', h1, ok_bind, flatF_pure (g := g) h2, ok_bind, if_pos hz]
/-- .. one value each -/
theorem cp1_map {cf : Nat → List D → Sto → Out D} {gs : List D} {elt : Ex} {tg : Tg} {it : Src} {vs : List Nat} {env : Env} {s : Sto} {α : Type} {mk : α → D} {g : α → D} {xs : List α} (h1 : evI cf gs true it env s = .ok (xs.map mk) s)
    (h2 : ∀ x ∈ xs, ∃ env1, bindT tg (mk x) (wipeE (noOwn env) vs) = some env1 ∧ ev cf gs false elt env1 s = .ok (g x) s) (hz : xs.length ≤ LINE) :
    evF cf gs (.cp1 elt tg it .n vs) env s = .ok (xs.map g) s := by
  rw [cp1_pure (g := fun x => [g x]) h1 (fun x hx => ?_) (by rw [flatMap_one]; simpa using hz), flatMap_one]
  obtain ⟨env1, e1, e2⟩ := h2 x hx
  simp [turn1, e1, e2]
/-- two clauses, over values that need no test -/
theorem cp2_pure {cf : Nat → List D → Sto → Out D} {gs : List D} {elt : Ex} {tg tg1 : Tg} {it it1 : Src} {vs vs1 : List Nat} {env : Env} {s : Sto} {α β : Type} {mk : α → D} {mk1 : β → D} {ys : α → List β} {g : α → β → D} {xs : List α} (h1 : evI cf gs true it env s = .ok (xs.map mk) s)
    (h2 : ∀ x ∈ xs, ∃ env1, bindT tg (mk x) (wipeE (noOwn env) vs) = some env1 ∧ evI cf gs false it1 env1 s = .ok ((ys x).map mk1) s ∧ ∀ y ∈ ys x, ∃ env2, bindT tg1 (mk1 y) (wipeE env1 vs1) = some env2 ∧ ev cf gs false elt env2 s = .ok (g x y) s)
    (hz : (xs.flatMap fun x => (ys x).map (g x)).length ≤ LINE) :
    evF cf gs (.cp2 elt tg it .n tg1 it1 .n vs vs1) env s = .ok (xs.flatMap fun x => (ys x).map (g x)) s := by
  rw [evF_cp2, h1, ok_bind, flatF_pure (g := fun x => (ys x).map (g x)) fun x hx => ?_, ok_bind, if_pos hz]
  obtain ⟨env1, e1, e2, e3⟩ := h2 x hx
  simp only [e1, evC_n, ok_bind, if_true, e2]
  rw [flatF_pure (g := fun y => [g x y]) fun y hy => ?_, flatMap_one]
  obtain ⟨env2, e4, e5⟩ := e3 y hy
  simp [e4, e5]
/-- a loop that only appends -/
theorem forF_app {α κ : Type} {f : D → Env → Sto → Out Flow} {mk : α → D} {E : List D → κ → Env} {g : α → List D} {s : Sto} {M c : Nat} : ∀ {xs : List α}, (∀ x ∈ xs, ∀ acc k, acc.length ≤ M → ∃ k', f (mk x) (E acc k) s = .ok (.nx (E (acc ++ g x) k')) s) → (∀ x ∈ xs, (g x).length ≤ c) →
    ∀ acc k, acc.length + xs.length * c ≤ M → ∃ k', forF f (xs.map mk) (E acc k) s = .ok (.nx (E (acc ++ xs.flatMap g) k')) s
  | [], _, _, acc, k, _ => ⟨k, by simp [forF_nil]⟩
  | x :: xs, h, hc, acc, k, hM => by
    rw [List.length_cons, Nat.add_mul] at hM
    obtain ⟨k1, e1⟩ := h x List.mem_cons_self acc k (by omega)
    have h1 := hc x List.mem_cons_self
    obtain ⟨k2, e2⟩ := forF_app (f := f) (mk := mk) (E := E) (g := g) (s := s) (M := M) (c := c) (xs := xs) (fun y hy => h y (List.mem_cons_of_mem _ hy)) (fun y hy => hc y (List.mem_cons_of_mem _ hy)) (acc ++ g x) k1 (by rw [List.length_append]; omega)
    refine ⟨k2, ?_⟩
    rw [List.map_cons, forF_cons, e1, nextL_nx, e2, List.flatMap_cons, List.append_assoc]
end PV

namespace PV
open PySem
end PV

namespace PV
@[simp] theorem bin_addT {a b : List D} : binD .add (.tup a) (.tup b) = if a.length + b.length ≤ LINE then some (.tup (a ++ b)) else none := id rfl
@[simp] theorem bin_addL {a b : List D} : binD .add (.lst a) (.lst b) = if a.length + b.length ≤ LINE then some (.lst (a ++ b)) else none := id rfl
end PV

namespace PV
open PySem
@[simp] theorem bin_mul {i j : Int} : binD .mul (.int i) (.int j) = if (-18446744073709551616 < i ∧ i < 18446744073709551616) ∨ (-18446744073709551616 < j ∧ j < 18446744073709551616) then some (.int (i * j)) else if i.natAbs.log2 + j.natAbs.log2 < 1000000 then some (.int (i * j)) else none := id rfl
@[simp] theorem bin_mod {i j : Int} : binD .mod (.int i) (.int j) = if 0 < j then some (.int (i % j)) else none := id rfl
@[simp] theorem bin_div {i j : Int} : binD .div (.int i) (.int j) = if 0 < j ∧ j < 1073741824 then some (.int (i / j)) else if 0 < j ∧ j.natAbs.log2 < 9000 then some (.int (i / j)) else none := id rfl
@[simp] theorem deref_loc {n : Nat} {s : Sto} : deref s (.loc n) = match s[n]? with
  | some (.lst ds) => .lst ds
  | _ => .loc n := rfl
theorem ev_popL {cf : Nat → List D → Sto → Out D} {gs : List D} {o : Bool} {env : Env} {s : Sto} {i n : Nat} {e : Ex} {k : Int} {s' : Sto} {ds : List D} {j : Nat} {d : D} (h0 : isL s n = true) (h1 : env[i]? = some (some (.val (.loc n)))) (h2 : ev cf gs true e env s = .ok (.int k) s') (h3 : s'[n]? = some (.lst ds))
    (hk : -9223372036854775808 ≤ k ∧ k < 9223372036854775808) (h4 : L2.ixN ds.length k = some j) (h5 : ds[j]? = some d) : ev cf gs o (.popL i (.s e)) env s = .ok d (s'.set n (.lst (ds.eraseIdx j))) := by
  conv => lhs; unfold ev
  simp only [h0, h1, evO_s, h2, ok_bind, h3, if_pos hk, h4, h5]
  rfl
@[simp] theorem isi_int {i : Int} {t : Ty} : isiD (.int i) t = some (t == .int) := id rfl
@[simp] theorem isi_non {t : Ty} : isiD .non t = some false := id rfl
@[simp] theorem isi_tup {ds : List D} {t : Ty} : isiD (.tup ds) t = some (t == .tup) := id rfl
@[simp] theorem isi_lst {ds : List D} {t : Ty} : isiD (.lst ds) t = some (t == .lst) := id rfl
@[simp] theorem isi_bl {b : Bool} {t : Ty} : isiD (.bl b) t = some (t == .bool || t == .int) := id rfl
@[simp] theorem isi_str {x : Str} {t : Ty} : isiD (.str x) t = some (t == .str) := id rfl
@[simp] theorem eq_bl {a b : Bool} : cmpD .eq (.bl a) (.bl b) = some (a == b) := by cases a <;> cases b <;> rfl
@[simp] theorem isNon_bl {i : Bool} : isNonD (.bl i) = false := id rfl
@[simp] theorem isNon_str {i : Str} : isNonD (.str i) = false := id rfl
@[simp] theorem is_bl {a b : Bool} : cmpD .is (.bl a) (.bl b) = some (decide (a = b)) := id rfl
@[simp] theorem isn_bl {a b : Bool} : cmpD .isn (.bl a) (.bl b) = some (!decide (a = b)) := id rfl
@[simp] theorem is_non {x : D} : cmpD .is x .non = some (isNonD x) := by show isD x .non = _; cases x <;> rfl
@[simp] theorem isn_non {x : D} : cmpD .isn x .non = some (!isNonD x) := by show (isD x .non).map (!·) = _; cases x <;> rfl
@[simp] theorem isNon_non : isNonD .non = true := id rfl
@[simp] theorem isNon_int {i : Int} : isNonD (.int i) = false := id rfl
@[simp] theorem isNon_tup {ds : List D} : isNonD (.tup ds) = false := id rfl
theorem all_true {α : Type} {l : List α} : bltD .all [.lst (l.map fun _ => D.bl true)] = some (.bl true) := by
  have : bools? (l.map fun _ => D.bl true) = some (l.map fun _ => true) := by
    induction l with
    | nil => rfl
    | cons x l ih => show (bools? (l.map fun _ => D.bl true)).map (true :: ·) = _; rw [ih]; rfl
  show (bools? (l.map fun _ => D.bl true)).map (fun l => D.bl (l.all id)) = _
  rw [this]
  simp
theorem idx_tupI {ds : List D} {i : Int} {d : D} (h : 0 ≤ i) (e : ds[i.toNat]? = some d) : idxD (.tup ds) (.int i) = some d := by
  have q : i = ((i.toNat : Nat) : Int) := by omega
  rw [q]; exact idx_tup e
theorem idx_lstI {ds : List D} {i : Int} {d : D} (h : 0 ≤ i) (e : ds[i.toNat]? = some d) : idxD (.lst ds) (.int i) = some d := idx_tupI h e
/-- what the laws' own comparison is asked -/
inductive Sim : Nat → D → Prop
  | non {k : Nat} : Sim k .non
  | int {k : Nat} {i : Int} : Sim k (.int i)
  | bl {k : Nat} {b : Bool} : Sim k (.bl b)
  | str {k : Nat} {x : Str} : PyData.strOk x = true → Sim k (.str x)
  | tup {k : Nat} {ds : List D} : ds.length ≤ 100000 → (∀ d ∈ ds, Sim k d) → Sim (k + 1) (.tup ds)
  | lst {k : Nat} {ds : List D} : ds.length ≤ 100000 → (∀ d ∈ ds, Sim k d) → Sim (k + 1) (.lst ds)
end PV

namespace PV
open PySem
@[simp] theorem slc_03 {a b c : D} : slcD (.tup [a, b, c]) none (some 3) = some (.tup [a, b, c]) := id rfl
theorem flatF_gen {α β : Type} {f : D → Sto → Out (List D)} {mk : α → D} {dec : β → D} {I : Sto → Prop} {P : β → Prop} : ∀ {xs : List α} {s : Sto}, I s → (∀ x ∈ xs, ∀ s, I s → ∃ v s', f (mk x) s = .ok [dec v] s' ∧ I s' ∧ P v) →
    ∃ (l : List β) (s' : Sto), flatF f (xs.map mk) s = .ok (l.map dec) s' ∧ I s' ∧ l.length = xs.length ∧ ∀ v ∈ l, P v
  | [], s, hI, _ => ⟨[], s, rfl, hI, rfl, fun v h => by cases h⟩
  | x :: xs, s, hI, h => by
    obtain ⟨v, s1, e1, I1, p1⟩ := h x List.mem_cons_self s hI
    obtain ⟨l, s2, e2, I2, hl, p2⟩ := flatF_gen (f := f) (mk := mk) (dec := dec) (P := P) (xs := xs) I1 fun y hy => h y (List.mem_cons_of_mem _ hy)
    refine ⟨v :: l, s2, ?_, I2, by simp [hl], fun w hw => ?_⟩
    · rw [List.map_cons, flatF_cons, e1, ok_bind, e2, ok_bind]; rfl
    · rcases List.mem_cons.mp hw with q | q
      · rw [q]; exact p1
      · exact p2 w q
theorem cp1_gen {α β : Type} {cf : Nat → List D → Sto → Out D} {gs : List D} {elt : Ex} {tg : Tg} {it : Src} {vs : List Nat} {env : Env} {s s1 : Sto} {mk : α → D} {dec : β → D} {I : Sto → Prop} {P : β → Prop} {xs : List α} (h1 : evI cf gs true it env s = .ok (xs.map mk) s1) (hI : I s1)
    (h2 : ∀ x ∈ xs, ∀ s, I s → ∃ env1 v s', bindT tg (mk x) (wipeE (noOwn env) vs) = some env1 ∧ ev cf gs false elt env1 s = .ok (dec v) s' ∧ I s' ∧ P v) (hz : xs.length ≤ LINE) :
    ∃ (l : List β) (s' : Sto), evF cf gs (.cp1 elt tg it .n vs) env s = .ok (l.map dec) s' ∧ I s' ∧ l.length = xs.length ∧ ∀ v ∈ l, P v := by
  obtain ⟨l, s', e, I', hl, p⟩ := flatF_gen (f := turn1 cf gs elt tg .n vs (noOwn env)) (mk := mk) (dec := dec) (I := I) (P := P) (xs := xs) hI fun x hx s hs => by
    obtain ⟨env1, v, s', e1, e2, i, p⟩ := h2 x hx s hs
    exact ⟨v, s', by simp [turn1, e1, e2], i, p⟩
  refine ⟨l, s', ?_, I', hl, p⟩
  rw [evF_cp1', h1, ok_bind, e, ok_bind, if_pos (by rw [List.length_map, hl]; exact hz)]
theorem ir_cons {lo hi : Int} (h : lo < hi) : ir lo hi = lo :: ir (lo + 1) hi := by
  unfold ir
  have e : (hi - lo).toNat = (hi - (lo + 1)).toNat + 1 := by omega
  rw [e, List.range_succ_eq_map, List.map_cons, List.map_map]
  congr 1
  · simp
  · refine List.map_congr_left fun i _ => ?_
    simp only [Function.comp, Nat.succ_eq_add_one]
    omega
theorem ir_nil {lo hi : Int} (h : hi ≤ lo) : ir lo hi = [] := by
  unfold ir
  have e : (hi - lo).toNat = 0 := by omega
  rw [e]; rfl
end PV

namespace PV
open PySem
/-- what enumerate gives -/
def enL : Int → List D → List D
  | _, [] => []
  | i, d :: ds => .tup [.int i, d] :: enL (i + 1) ds
theorem enL_eq : ∀ {ds : List D} {a : Nat}, (List.range' a ds.length).zipWith (fun (i : Nat) d => D.tup [.int i, d]) ds = enL a ds
  | [], a => rfl
  | d :: ds, a => by
    rw [List.length_cons, List.range'_succ, List.zipWith_cons_cons, enL_eq]
    rfl
theorem enum_tup {ds : List D} : enum? (.tup ds) = some (enL 0 ds) := by
  show some _ = _
  rw [List.range_eq_range', enL_eq]; rfl
end PV

namespace PV
open PySem
end PV

namespace PV
open PySem
/-- draws, one value for each turn, with what is known of each -/
theorem flatF_rel {α β : Type} {f : D → Sto → Out (List D)} {mk : α → D} {dec : β → D} {I : Sto → Prop} {R : α → β → Prop} : ∀ {xs : List α} {s : Sto}, I s → (∀ x ∈ xs, ∀ s, I s → ∃ v s', f (mk x) s = .ok [dec v] s' ∧ I s' ∧ R x v) →
    ∃ (l : List β) (s' : Sto), flatF f (xs.map mk) s = .ok (l.map dec) s' ∧ I s' ∧ l.length = xs.length ∧ ∀ (i : Nat) x v, xs[i]? = some x → l[i]? = some v → R x v
  | [], s, hI, _ => ⟨[], s, rfl, hI, rfl, fun i x v h => by simp at h⟩
  | x :: xs, s, hI, h => by
    obtain ⟨v, s1, e1, I1, p1⟩ := h x List.mem_cons_self s hI
    obtain ⟨l, s2, e2, I2, hl, p2⟩ := flatF_rel (f := f) (mk := mk) (dec := dec) (R := R) (xs := xs) I1 fun y hy => h y (List.mem_cons_of_mem _ hy)
    refine ⟨v :: l, s2, ?_, I2, by simp [hl], fun i y w h1 h2 => ?_⟩
    · rw [List.map_cons, flatF_cons, e1, ok_bind, e2, ok_bind]; rfl
    · cases i with
      | zero => simp at h1 h2; subst h1 h2; exact p1
      | succ i => simp at h1 h2; exact p2 i y w h1 h2
theorem cp1_rel {α β : Type} {cf : Nat → List D → Sto → Out D} {gs : List D} {elt : Ex} {tg : Tg} {it : Src} {vs : List Nat} {env : Env} {s s1 : Sto} {mk : α → D} {dec : β → D} {I : Sto → Prop} {R : α → β → Prop} {xs : List α} (h1 : evI cf gs true it env s = .ok (xs.map mk) s1) (hI : I s1)
    (h2 : ∀ x ∈ xs, ∀ s, I s → ∃ env1 v s', bindT tg (mk x) (wipeE (noOwn env) vs) = some env1 ∧ ev cf gs false elt env1 s = .ok (dec v) s' ∧ I s' ∧ R x v) (hz : xs.length ≤ LINE) :
    ∃ (l : List β) (s' : Sto), evF cf gs (.cp1 elt tg it .n vs) env s = .ok (l.map dec) s' ∧ I s' ∧ l.length = xs.length ∧ ∀ (i : Nat) x v, xs[i]? = some x → l[i]? = some v → R x v := by
  obtain ⟨l, s', e, I', hl, p⟩ := flatF_rel (f := turn1 cf gs elt tg .n vs (noOwn env)) (mk := mk) (dec := dec) (I := I) (R := R) (xs := xs) hI fun x hx s hs => by
    obtain ⟨env1, v, s', e1, e2, i, p⟩ := h2 x hx s hs
    exact ⟨v, s', by simp [turn1, e1, e2], i, p⟩
  refine ⟨l, s', ?_, I', hl, p⟩
  rw [evF_cp1', h1, ok_bind, e, ok_bind, if_pos (by rw [List.length_map, hl]; exact hz)]
end PV

namespace PV
open PySem
theorem noOwn_val {env : Env} {i : Nat} {d : D} (h : env[i]? = some (some (.val d))) : (noOwn env)[i]? = some (some (.val d)) := by unfold noOwn; rw [List.getElem?_map, h]; rfl
end PV

namespace PV
open PySem
theorem noOwn_len {env : Env} : (noOwn env).length = env.length := by unfold noOwn; simp
theorem min3 {i j l : Int} : bltD .min [.int i, .int j, .int l] = some (.int (if l < (if j < i then j else i) then l else (if j < i then j else i))) := id rfl
theorem mul_tup {x : D} {k : Nat} (h : 1 ≤ k ∧ k ≤ 1000) : binD .mul (.tup [x]) (.int k) = some (.tup (List.replicate k x)) := by
  show (if (k : Int) = 1 then some (D.tup [x]) else if 2 ≤ (k : Int) ∧ (k : Int) ≤ 1000 ∧ [x].length ≤ 1000 ∧ [x].isEmpty = false then some (.tup (List.replicate (k : Int).toNat [x]).flatten) else if (k : Int) = 0 ∧ [x].isEmpty = false then some (.tup []) else none) = _
  by_cases c : (k : Int) = 1
  · have : k = 1 := by omega
    subst this; rfl
  · rw [if_neg c, if_pos ⟨by omega, by omega, by simp, rfl⟩]
    congr 2
    have e : (k : Int).toNat = k := by omega
    rw [e]
    clear c e h
    induction k with
    | zero => rfl
    | succ k ih => rw [List.replicate_succ, List.flatten_cons, ih, List.replicate_succ]; rfl
end PV

namespace PV
open PySem
abbrev At (env : Env) (k : Nat) (d : D) : Prop := env[k]? = some (some (.val d))
theorem atS {env : Env} {k : Nat} {d : D} (h : k < env.length) : At (env.set k (some (.val d))) k d := List.getElem?_set_self h
theorem At.ne {env : Env} {k j : Nat} {d : D} {x : Option SV} (h : At env k d) (hn : j ≠ k) : At (env.set j x) k d := by unfold At; rw [List.getElem?_set_ne hn]; exact h
theorem frzI_at {env : Env} {k : Nat} {d : D} (h : At env k d) : frzI env (.seq (.var k)) = env := by
  show frzE env (.var k) = env
  unfold frzE
  show frzAt env k = env
  rw [frzAt_eq, h]; rfl
theorem At.no {env : Env} {k : Nat} {d : D} (h : At env k d) : At (noOwn env) k d := by unfold At noOwn; rw [List.getElem?_map, h]; rfl
theorem loop_mem {α : Type} {f : D → Env → Sto → Out Flow} {mk : α → D} {I : Env → Sto → Prop} : ∀ {xs : List α} {env : Env} {s : Sto}, I env s → (∀ x, x ∈ xs → ∀ env s, I env s → ∃ env' s', f (mk x) env s = .ok (.nx env') s' ∧ I env' s') → ∃ env' s', forF f (xs.map mk) env s = .ok (.nx env') s' ∧ I env' s'
  | [], env, s, hI, _ => ⟨env, s, rfl, hI⟩
  | x :: xs, env, s, hI, h => by
    obtain ⟨env1, s1, e1, I1⟩ := h x List.mem_cons_self env s hI
    obtain ⟨env2, s2, e2, I2⟩ := loop_mem (mk := mk) (xs := xs) I1 fun y hy => h y (List.mem_cons_of_mem _ hy)
    exact ⟨env2, s2, by rw [List.map_cons, forF_cons, e1, nextL_nx, e2], I2⟩
end PV

namespace PV
open PySem
theorem bools_map {l : List Bool} : bools? (l.map D.bl) = some l := by
  induction l with
  | nil => rfl
  | cons x l ih =>
    show (bools? (l.map D.bl)).map (x :: ·) = _
    rw [ih]; rfl
theorem all_bl {l : List Bool} : bltD .all [.lst (l.map D.bl)] = some (.bl (l.all id)) := by
  show (bools? (l.map D.bl)).map _ = _
  rw [bools_map]; rfl
theorem any_bl {l : List Bool} : bltD .any [.lst (l.map D.bl)] = some (.bl (l.any id)) := by
  show (bools? (l.map D.bl)).map _ = _
  rw [bools_map]; rfl
end PV

namespace PV
open PySem
open Classical in
theorem eq_p2 {a b c d : Int} : cmpD .eq (.tup [.int a, .int b]) (.tup [.int c, .int d]) = some (decide (a = c ∧ b = d)) := by
  rw [eqD_dat ((DatK.tup (k := 0) fun x hx => by simp only [List.mem_cons, List.not_mem_nil, or_false] at hx; rcases hx with rfl | rfl <;> exact DatK.int).dat (by omega)) ((DatK.tup (k := 0) fun x hx => by simp only [List.mem_cons, List.not_mem_nil, or_false] at hx; rcases hx with rfl | rfl <;> exact DatK.int).dat (by omega))]
  congr 1
  rw [Bool.eq_iff_iff]
  simp only [decide_eq_true_eq]
  constructor
  · intro e
    simp only [D.tup.injEq, List.cons.injEq, D.int.injEq, and_true] at e
    exact e
  · rintro ⟨rfl, rfl⟩; rfl
end PV

namespace PV
open PySem
section
variable {cf : Nat → List D → Sto → Out D} {gs : List D} {env : Env} {s : Sto}
end
end PV

namespace PV
open PySem
theorem flat_cut {α : Type} {W : Nat} : ∀ {Ls : List (List α)} {b : Nat} {l : List α}, (∀ l ∈ Ls, l.length = W) → Ls[b]? = some l → (Ls.flatten.drop (W * b)).take W = l ∧ W * b + W ≤ Ls.flatten.length
  | [], b, l, _, h => by simp at h
  | x :: Ls, 0, l, hl, h => by
    have e : x = l := by simpa using h
    subst e
    have := hl x List.mem_cons_self
    refine ⟨?_, by simp; omega⟩
    rw [Nat.mul_zero, List.drop_zero, List.flatten_cons]
    rw [List.take_append_of_le_length (by omega), List.take_of_length_le (by omega)]
  | x :: Ls, b + 1, l, hl, h => by
    have := hl x List.mem_cons_self
    have i := flat_cut (Ls := Ls) (b := b) (l := l) (fun y hy => hl y (List.mem_cons_of_mem _ hy)) (by simpa using h)
    rw [List.flatten_cons, List.length_append]
    have e : W * (b + 1) = x.length + W * b := by rw [Nat.mul_succ]; omega
    rw [e]
    refine ⟨?_, by omega⟩
    rw [List.drop_append, List.drop_of_length_le (by omega), List.nil_append]
    have e2 : x.length + W * b - x.length = W * b := by omega
    rw [e2]
    exact i.1
theorem cut_nat {α : Type} {xs : List α} {a b : Nat} (h : a + b ≤ xs.length) : cut xs (some (a : Int)) (some ((a : Int) + b)) = (xs.drop a).take b := by
  unfold cut
  have e : ((a : Int) + b) = ((a + b : Nat) : Int) := by omega
  rw [e, HT.sIx_nat, HT.sIx_nat, Nat.min_eq_left h, Nat.min_eq_left (show a ≤ xs.length by omega)]
  congr 1
  omega
end PV

namespace PV
open PySem
section
variable {n : Nat} {s : Sto} {W : Nat} {env : Env}
theorem sc {n k : Nat} (h : k + 1 ≤ n) : ∃ m, n = m + 1 ∧ k ≤ m := ⟨n - 1, by omega, by omega⟩
theorem enum_lst {ds : List D} : enum? (.lst ds) = some (enL 0 ds) := by
  show some _ = _
  rw [List.range_eq_range', enL_eq]; rfl
theorem sim_up : ∀ {k j : Nat} {d : D}, k ≤ j → Sim k d → Sim j d
  | _, _, _, _, .non => .non
  | _, _, _, _, .int => .int
  | _, _, _, _, .bl => .bl
  | _, _, _, _, .str h => .str h
  | k + 1, j + 1, _, h, .tup h1 h2 => .tup h1 fun d hd => sim_up (by omega) (h2 d hd)
  | k + 1, j + 1, _, h, .lst h1 h2 => .lst h1 fun d hd => sim_up (by omega) (h2 d hd)
theorem cut_mem {α : Type} {x : α} {l : List α} {a b : Option Int} (h : x ∈ cut l a b) : x ∈ l := List.mem_of_mem_drop (List.mem_of_mem_take h)
theorem cut_map {α : Type} {q : α → D} {l : List α} {a b : Option Int} : cut (l.map q) a b = (cut l a b).map q := by
  unfold cut; rw [List.length_map, List.map_take, List.map_drop]
theorem ne_bl {a b : Bool} : cmpD .ne (.bl a) (.bl b) = some (!(a == b)) := neD_eq eq_bl
theorem rng1_nat (hW : W ≤ 1000) : rng1? (.int W) = some ((List.range W).map fun (a : Nat) => D.int a) := by
  rw [rng1_ir (by omega)]
  unfold ir
  rw [List.map_map]
  simp [Function.comp_def]
theorem ir_get {lo hi j : Int} (h : lo ≤ j ∧ j < hi) : (ir lo hi)[(j - lo).toNat]? = some j := by
  unfold ir
  rw [List.getElem?_map, List.getElem?_range (by omega)]
  show some (lo + (((j - lo).toNat : Nat) : Int)) = some j
  congr 1; omega
theorem ir_get0 {hi j : Int} (h : 0 ≤ j ∧ j < hi) : (ir 0 hi)[j.toNat]? = some j := by
  have := ir_get (lo := 0) h
  rwa [Int.sub_zero] at this
theorem mul_tup0 {x : D} {k : Nat} (h : k ≤ 1000) : binD .mul (.tup [x]) (.int k) = some (.tup (List.replicate k x)) := by
  by_cases c : k = 0
  · subst c
    show (if ((0 : Nat) : Int) = 1 then some (D.tup [x]) else if 2 ≤ ((0 : Nat) : Int) ∧ ((0 : Nat) : Int) ≤ 1000 ∧ [x].length ≤ 1000 ∧ [x].isEmpty = false then some (.tup (List.replicate ((0 : Nat) : Int).toNat [x]).flatten) else if ((0 : Nat) : Int) = 0 ∧ [x].isEmpty = false then some (.tup []) else none) = _
    rw [if_neg (by decide), if_neg (by intro z; exact absurd z.1 (by decide)), if_pos ⟨rfl, rfl⟩]
    rfl
  · exact mul_tup ⟨by omega, h⟩
theorem mul_lst {x : D} {k : Nat} (h : k ≤ 1000) : binD .mul (.lst [x]) (.int k) = some (.lst (List.replicate k x)) := by
  show (if 0 ≤ (k : Int) ∧ (k : Int) ≤ 1000 ∧ [x].length ≤ 1000 then some (D.lst (List.replicate (k : Int).toNat [x]).flatten) else none) = _
  rw [if_pos ⟨by omega, by omega, by simp⟩]
  congr 2
  have e : (k : Int).toNat = k := by omega
  rw [e]
  clear e h
  induction k with
  | zero => rfl
  | succ k ih => rw [List.replicate_succ, List.flatten_cons, ih, List.replicate_succ]; rfl
theorem map_const {α : Type} {c : α} {N : Nat} {F : Nat → α} (h : ∀ a, a < N → F a = c) : (List.range N).map F = List.replicate N c := by
  have : (List.range N).map F = (List.range N).map fun _ => c := List.map_congr_left fun a ha => h a (List.mem_range.mp ha)
  rw [this, List.map_const', List.length_range]
theorem add_tup {a b : List D} (h : a.length + b.length ≤ 1000) : binD .add (.tup a) (.tup b) = some (.tup (a ++ b)) := by
  rw [bin_addT, if_pos (by show _ ≤ 16777216; omega)]
theorem add_lst {a b : List D} (h : a.length + b.length ≤ 1000) : binD .add (.lst a) (.lst b) = some (.lst (a ++ b)) := by
  rw [bin_addL, if_pos (by show _ ≤ 16777216; omega)]
theorem Sim.tup_mem {k : Nat} {ds : List D} (h : Sim (k + 1) (.tup ds)) : ∀ d ∈ ds, Sim k d := by
  cases h with
  | tup _ h => exact h
theorem Sim.lenT {k : Nat} {ds : List D} (h : Sim k (.tup ds)) : ds.length ≤ 100000 := by
  cases h with
  | tup h _ => exact h
theorem Sim.memT {k : Nat} {ds : List D} (h : Sim k (.tup ds)) : ∀ d ∈ ds, ∃ j, Sim j d := by
  cases h with
  | tup _ h => exact fun d hd => ⟨_, h d hd⟩
theorem Sim.deref {k : Nat} {d : D} (h : Sim k d) : deref s d = d := by cases h <;> rfl
theorem Sim.str_ok {k : Nat} {x : Str} (h : Sim k (.str x)) : PyData.strOk x = true := by
  cases h with
  | str h => exact h
open Classical in
theorem ne_len {a b : Nat} : cmpD .ne (.int a) (.int b) = some (!decide (a = b)) := by
  rw [neD_eq (t := decide (a = b))]
  rw [eqD_dat Dat.int Dat.int]
  congr 1
  rw [Bool.eq_iff_iff, decide_eq_true_eq, decide_eq_true_eq, int_inj]
  omega
open Classical in
theorem eq_len {a b : Nat} : cmpD .eq (.int a) (.int b) = some (decide (a = b)) := by
  rw [eqD_dat Dat.int Dat.int]
  congr 1
  rw [Bool.eq_iff_iff, decide_eq_true_eq, decide_eq_true_eq, int_inj]
  omega
theorem cut_sub {α : Type} {l : List α} {a b : Option Int} : (cut l a b).length ≤ l.length := by
  unfold cut
  rw [List.length_take, List.length_drop]
  omega
theorem simT {k : Nat} {ds : List D} (h1 : ds.length ≤ 1000) (h : ∀ d ∈ ds, Sim k d) : Sim (k + 1) (.tup ds) := .tup (by omega) h
theorem l15 : 15 ≤ LINE := by show 15 ≤ 16777216; omega
theorem l16 : 16 ≤ LINE := by show 16 ≤ 16777216; omega
theorem At.inn {env : Env} {k j : Nat} {d : D} {v : Option SV} (h : At env k d) (hk : j ≠ k) : At ((wipeE (noOwn env) [j]).set j v) k d := At.ne (At.ne h.no hk) hk
theorem At.new {env : Env} {j : Nat} {d : D} (hl : j < env.length) : At ((wipeE (noOwn env) [j]).set j (some (.val d))) j d := atS (by simp [wipeE, noOwn, hl])
theorem len_in {env : Env} {j : Nat} {v : Option SV} : ((wipeE (noOwn env) [j]).set j v).length = env.length := by simp [wipeE, noOwn]
theorem sim_two {a b : D} {k : Nat} (ha : Sim k a) (hb : Sim k b) : Sim (k + 1) (.tup [a, b]) := simT (by simp) fun d hd => by
  simp only [List.mem_cons, List.not_mem_nil, or_false] at hd
  rcases hd with rfl | rfl
  · exact ha
  · exact hb
end
end PV
set_option maxRecDepth 100000
namespace PV.K22
open PySem PySem.Spec PyProof.Rows L2 PV
/-! ### the code -/
def c_is_whole : Fn := ⟨["value"], ["value"], (.c (.ret (.bop true (.c (.isi (.var 0) .int) (.c (.not (.isi (.var 0) .bool)) .nil)))) .nil)⟩
def c_divisor_of : Fn := ⟨["a", "b"], ["a", "b"], (.c (.par [0, 1] (.v (.blt .abs (.c (.var 0) .nil)) (.v (.blt .abs (.c (.var 1) .nil)) .nil))) (.c (.whl (.var 1) (.c (.par [0, 1] (.v (.var 1) (.v (.bin .mod (.var 0) (.var 1)) .nil))) .nil)) (.c (.ret (.var 0)) .nil)))⟩
def c_ratio_of : Fn := ⟨["p", "q", "g"], ["p", "q"], (.c (.ite (.cmp .lt (.var 1) (.int 0)) (.c (.par [0, 1] (.v (.neg (.var 0)) (.v (.neg (.var 1)) .nil))) .nil) .nil) (.c (.asg (.nm 2) (.call 1 (.c (.var 0) (.c (.var 1) .nil)))) (.c (.ret (.tup (.c (.bin .div (.var 0) (.var 2)) (.c (.bin .div (.var 1) (.var 2)) .nil)))) .nil)))⟩
def c_sum_of : Fn := ⟨["one", "other"], ["one", "other"], (.c (.ret (.call 2 (.c (.bin .add (.bin .mul (.idx (.var 0) (.int 0)) (.idx (.var 1) (.int 1))) (.bin .mul (.idx (.var 1) (.int 0)) (.idx (.var 0) (.int 1)))) (.c (.bin .mul (.idx (.var 0) (.int 1)) (.idx (.var 1) (.int 1))) .nil)))) .nil)⟩
def c_times_of : Fn := ⟨["one", "other"], ["one", "other"], (.c (.ret (.call 2 (.c (.bin .mul (.idx (.var 0) (.int 0)) (.idx (.var 1) (.int 0))) (.c (.bin .mul (.idx (.var 0) (.int 1)) (.idx (.var 1) (.int 1))) .nil)))) .nil)⟩
def c_is_less_ratio : Fn := ⟨["one", "other"], ["one", "other"], (.c (.ret (.cmp .lt (.bin .mul (.idx (.var 0) (.int 0)) (.idx (.var 1) (.int 1))) (.bin .mul (.idx (.var 1) (.int 0)) (.idx (.var 0) (.int 1))))) .nil)⟩
def c_floor_of : Fn := ⟨["ratio"], ["ratio"], (.c (.ret (.bin .div (.idx (.var 0) (.int 0)) (.idx (.var 0) (.int 1)))) .nil)⟩
def c_work_time : Fn := ⟨["work", "paces", "many", "pace"], ["work", "paces"], (.c (.ret (.blt .sum (.c (.fz (.cp1 (.bin .mul (.var 2) (.var 3)) (.tp (.c (.nm 2) (.c (.nm 3) .nil))) (.zip (.var 0) (.var 1)) .n [2, 3])) .nil))) .nil)⟩
def c_less_work : Fn := ⟨["one", "other", "a", "b"], ["one", "other"], (.c (.ret (.blt .tup (.c (.fz (.cp1 (.bin .sub (.var 2) (.var 3)) (.tp (.c (.nm 2) (.c (.nm 3) .nil))) (.zip (.var 0) (.var 1)) .n [2, 3])) .nil))) .nil)⟩
def c_first_rows : Fn := ⟨["works", "k", "rows", "j", "work", "axis", "i"], ["works", "k"], (.c (.own 2 (.dsp .nil)) (.c (.for (.tp (.c (.nm 3) (.c (.nm 4) .nil))) (.enm (.var 0)) (.c (.ite (.cmp .ne (.var 3) (.var 1)) (.c (.app 2 (.tup (.c (.call 8 (.c (.var 4) (.c (.idx (.var 0) (.var 1)) .nil))) (.c (.bl false) (.c (.blt .tup (.c (.fz (.cp1 (.ite (.cmp .eq (.var 6) (.var 3)) (.int 1) (.int 0)) (.nm 6) (.rg1 (.blt .len (.c (.var 0) .nil))) .n [6])) .nil)) .nil))))) .nil) .nil) .nil)) (.c (.for (.nm 5) (.rg1 (.gl 0)) (.c (.app 2 (.tup (.c (.blt .tup (.c (.fz (.cp1 (.ite (.cmp .eq (.var 6) (.var 5)) (.int 1) (.int 0)) (.nm 6) (.rg1 (.gl 0)) .n [6])) .nil)) (.c (.bl true) (.c (.bin .mul (.tup (.c (.int 0) .nil)) (.blt .len (.c (.var 0) .nil))) .nil))))) .nil)) (.c (.ret (.var 2)) .nil))))⟩
def c_joined_row : Fn := ⟨["one", "other", "axis", "a", "b", "vector", "p", "q"], ["one", "other", "axis"], (.c (.par [3, 4] (.v (.neg (.idx (.idx (.var 1) (.int 0)) (.var 2))) (.v (.idx (.idx (.var 0) (.int 0)) (.var 2)) .nil))) (.c (.asg (.nm 5) (.blt .tup (.c (.fz (.cp1 (.bin .add (.bin .mul (.var 3) (.var 6)) (.bin .mul (.var 4) (.var 7))) (.tp (.c (.nm 6) (.c (.nm 7) .nil))) (.zip (.idx (.var 0) (.int 0)) (.idx (.var 1) (.int 0))) .n [6, 7])) .nil))) (.c (.ret (.tup (.c (.var 5) (.c (.bop false (.c (.idx (.var 0) (.int 1)) (.c (.idx (.var 1) (.int 1)) .nil))) (.c (.blt .tup (.c (.fz (.cp1 (.bin .add (.bin .mul (.var 3) (.var 6)) (.bin .mul (.var 4) (.var 7))) (.tp (.c (.nm 6) (.c (.nm 7) .nil))) (.zip (.idx (.var 0) (.int 2)) (.idx (.var 1) (.int 2))) .n [6, 7])) .nil)) .nil))))) .nil)))⟩
def c_rows_without : Fn := ⟨["rows", "axis", "found", "one", "other", "joined", "row"], ["rows", "axis"], (.c (.own 2 (.cp1 (.var 6) (.nm 6) (.seq (.var 0)) (.s (.cmp .eq (.idx (.idx (.var 6) (.int 0)) (.var 1)) (.int 0))) [6])) (.c (.for (.nm 3) (.seq (.fz (.cp1 (.var 6) (.nm 6) (.seq (.var 0)) (.s (.cmp .gt (.idx (.idx (.var 6) (.int 0)) (.var 1)) (.int 0))) [6]))) (.c (.for (.nm 4) (.seq (.fz (.cp1 (.var 6) (.nm 6) (.seq (.var 0)) (.s (.cmp .lt (.idx (.idx (.var 6) (.int 0)) (.var 1)) (.int 0))) [6]))) (.c (.asg (.nm 5) (.call 10 (.c (.var 3) (.c (.var 4) (.c (.var 1) .nil))))) (.c (.ite (.cmp .nin (.var 5) (.var 2)) (.c (.app 2 (.var 5)) .nil) .nil) .nil))) .nil)) (.c (.ret (.var 2)) .nil)))⟩
def c_layers_of : Fn := ⟨["works", "k", "found", "axis"], ["works", "k"], (.c (.own 2 (.dsp (.c (.call 9 (.c (.var 0) (.c (.var 1) .nil))) .nil))) (.c (.for (.nm 3) (.rg3 (.bin .sub (.gl 0) (.int 1)) (.neg (.int 1)) (.neg (.int 1))) (.c (.app 2 (.call 11 (.c (.idx (.var 2) (.neg (.int 1))) (.c (.var 3) .nil)))) .nil)) (.c (.ret (.var 2)) .nil)))⟩
def c_worse_paper : Fn := ⟨["works", "k", "barred", "_", "strict", "weights"], ["works", "k"], (.c (.asg (.nm 2) (.fz (.cp1 (.var 5) (.tp (.c (.nm 3) (.c (.nm 4) (.c (.nm 5) .nil)))) (.seq (.idx (.call 12 (.c (.var 0) (.c (.var 1) .nil))) (.neg (.int 1)))) (.s (.var 4)) [3, 4, 5]))) (.c (.ret (.ite (.var 2) (.idx (.var 2) (.int 0)) .non)) .nil))⟩
def c_is_worse_paper : Fn := ⟨["works", "k", "value", "whole", "told", "due", "axis", "n", "work", "a", "b"], ["works", "k", "value"], (.c (.ite (.bop false (.c (.not (.isi (.var 2) .tup)) (.c (.cmp .ne (.blt .len (.c (.var 2) .nil)) (.blt .len (.c (.var 0) .nil))) (.c (.not (.blt .all (.c (.fz (.cp1 (.bop true (.c (.call 0 (.c (.var 7) .nil)) (.c (.cmp .ge (.var 7) (.int 0)) .nil))) (.nm 7) (.seq (.var 2)) .n [7])) .nil))) .nil)))) (.c (.ret (.bl false)) .nil) .nil) (.c (.asg (.nm 3) (.blt .sum (.c (.var 2) .nil))) (.c (.asg (.nm 4) (.fz (.cp1 (.blt .sum (.c (.fz (.cp1 (.bin .mul (.var 7) (.idx (.var 8) (.var 6))) (.tp (.c (.nm 7) (.c (.nm 8) .nil))) (.zip (.var 2) (.var 0)) .n [7, 8])) .nil)) (.nm 6) (.rg1 (.gl 0)) .n [6]))) (.c (.asg (.nm 5) (.fz (.cp1 (.bin .mul (.var 3) (.var 7)) (.nm 7) (.seq (.idx (.var 0) (.var 1))) .n [7]))) (.c (.ret (.bop true (.c (.blt .all (.c (.fz (.cp1 (.cmp .le (.var 9) (.var 10)) (.tp (.c (.nm 9) (.c (.nm 10) .nil))) (.zip (.var 4) (.var 5)) .n [9, 10])) .nil)) (.c (.cmp .ne (.var 4) (.var 5)) .nil)))) .nil)))))⟩
def c_bound_at : Fn := ⟨["row", "axis", "known", "found", "place", "ratio"], ["row", "axis", "known"], (.c (.asg (.nm 3) (.tup (.c (.int 0) (.c (.int 1) .nil)))) (.c (.for (.tp (.c (.nm 4) (.c (.nm 5) .nil))) (.enm (.var 2)) (.c (.asg (.nm 3) (.call 3 (.c (.var 3) (.c (.call 4 (.c (.tup (.c (.neg (.idx (.idx (.var 0) (.int 0)) (.var 4))) (.c (.int 1) .nil))) (.c (.var 5) .nil))) .nil)))) .nil)) (.c (.ret (.call 4 (.c (.var 3) (.c (.call 2 (.c (.int 1) (.c (.idx (.idx (.var 0) (.int 0)) (.var 1)) .nil))) .nil)))) .nil)))⟩
def c_chosen : Fn := ⟨["rows", "axis", "known", "lows", "highs", "low", "ratio", "high", "row"], ["rows", "axis", "known"], (.c (.asg (.nm 3) (.fz (.cp1 (.call 15 (.c (.var 8) (.c (.var 1) (.c (.var 2) .nil)))) (.nm 8) (.seq (.var 0)) (.s (.cmp .gt (.idx (.idx (.var 8) (.int 0)) (.var 1)) (.int 0))) [8]))) (.c (.asg (.nm 4) (.fz (.cp1 (.call 15 (.c (.var 8) (.c (.var 1) (.c (.var 2) .nil)))) (.nm 8) (.seq (.var 0)) (.s (.cmp .lt (.idx (.idx (.var 8) (.int 0)) (.var 1)) (.int 0))) [8]))) (.c (.asg (.nm 5) (.idx (.var 3) (.int 0))) (.c (.for (.nm 6) (.seq (.var 3)) (.c (.asg (.nm 5) (.ite (.call 5 (.c (.var 5) (.c (.var 6) .nil))) (.var 6) (.var 5))) .nil)) (.c (.ite (.not (.var 4)) (.c (.ret (.tup (.c (.bin .add (.call 6 (.c (.var 5) .nil)) (.int 1)) (.c (.int 1) .nil)))) .nil) .nil) (.c (.asg (.nm 7) (.idx (.var 4) (.int 0))) (.c (.for (.nm 6) (.seq (.var 4)) (.c (.asg (.nm 7) (.ite (.call 5 (.c (.var 6) (.c (.var 7) .nil))) (.var 6) (.var 7))) .nil)) (.c (.ret (.call 4 (.c (.call 3 (.c (.var 5) (.c (.var 7) .nil))) (.c (.tup (.c (.int 1) (.c (.int 2) .nil))) .nil)))) .nil))))))))⟩
def c_paces_for : Fn := ⟨["works", "k", "layers", "known", "axis", "scale", "_", "strict", "p", "q"], ["works", "k"], (.c (.asg (.nm 2) (.call 12 (.c (.var 0) (.c (.var 1) .nil)))) (.c (.ite (.blt .any (.c (.fz (.cp1 (.var 7) (.tp (.c (.nm 6) (.c (.nm 7) (.c (.nm 6) .nil)))) (.seq (.idx (.var 2) (.neg (.int 1)))) .n [6, 7])) .nil)) (.c (.ret .non) .nil) .nil) (.c (.own 3 (.dsp .nil)) (.c (.for (.nm 4) (.rg1 (.gl 0)) (.c (.app 3 (.call 16 (.c (.idx (.var 2) (.bin .sub (.bin .sub (.gl 0) (.int 1)) (.var 4))) (.c (.var 4) (.c (.var 3) .nil))))) .nil)) (.c (.asg (.nm 5) (.bin .mul (.bin .mul (.idx (.idx (.var 3) (.int 0)) (.int 1)) (.idx (.idx (.var 3) (.int 1)) (.int 1))) (.idx (.idx (.var 3) (.int 2)) (.int 1)))) (.c (.ret (.blt .tup (.c (.fz (.cp1 (.bin .mul (.var 8) (.bin .div (.var 5) (.var 9))) (.tp (.c (.nm 8) (.c (.nm 9) .nil))) (.seq (.var 3)) .n [8, 9])) .nil))) .nil))))))⟩
def c_is_least_by : Fn := ⟨["works", "k", "value", "work", "n"], ["works", "k", "value"], (.c (.ite (.bop false (.c (.not (.isi (.var 2) .tup)) (.c (.cmp .ne (.blt .len (.c (.var 2) .nil)) (.gl 0)) (.c (.not (.blt .all (.c (.fz (.cp1 (.bop true (.c (.call 0 (.c (.var 4) .nil)) (.c (.cmp .gt (.var 4) (.int 0)) .nil))) (.nm 4) (.seq (.var 2)) .n [4])) .nil))) .nil)))) (.c (.ret (.bl false)) .nil) .nil) (.c (.ret (.blt .all (.c (.fz (.cp1 (.cmp .le (.call 7 (.c (.idx (.var 0) (.var 1)) (.c (.var 2) .nil))) (.call 7 (.c (.var 3) (.c (.var 2) .nil)))) (.nm 3) (.seq (.var 0)) .n [3])) .nil))) .nil))⟩
def c__law_box : Fn := ⟨["script"], ["script"], (.c (.ret (.alloc (.dsp (.c (.alloc (.lof (.slc (.var 0) .n (.s (.int 63))))) (.c (.int 0) (.c (.bin .add (.int 4711) (.blt .len (.c (.var 0) .nil))) .nil)))))) .nil)⟩
def c__law_load : Fn := ⟨["box", "cells", "first", "second", "cell", "size"], ["box"], (.c (.asg (.nm 1) (.idx (.var 0) (.int 0))) (.c (.ite (.cmp .gt (.blt .len (.c (.var 1) .nil)) (.int 0)) (.c (.asg (.nm 4) (.blt .int (.c (.popL 1 (.s (.int 0))) .nil))) (.c (.asg (.nm 5) (.ite (.cmp .ge (.var 4) (.int 0)) (.bin .mul (.int 2) (.var 4)) (.bin .sub (.bin .mul (.neg (.int 2)) (.var 4)) (.int 1)))) (.c (.ite (.cmp .ge (.var 5) (.int 1000000000000000000)) (.c (.ret (.var 5)) .nil) .nil) (.c (.setV 0 (.int 2) (.bin .mod (.blt .int (.c (.bin .add (.bin .add (.bin .mul (.idx (.var 0) (.int 2)) (.int 69621)) (.bin .mul (.var 5) (.int 48271))) (.int 11)) .nil)) (.int 2147483647))) .nil)))) .nil) (.c (.asg (.nm 2) (.bin .mod (.blt .int (.c (.bin .add (.bin .mul (.idx (.var 0) (.int 2)) (.int 48271)) (.int 17)) .nil)) (.int 2147483629))) (.c (.asg (.nm 3) (.bin .mod (.blt .int (.c (.bin .add (.bin .mul (.var 2) (.int 69621)) (.int 5)) .nil)) (.int 2147483587))) (.c (.setV 0 (.int 2) (.bin .mod (.blt .int (.c (.bin .add (.bin .mul (.var 3) (.int 40692)) (.int 3)) .nil)) (.int 2147483563))) (.c (.ret (.bin .add (.bin .add (.bin .mul (.var 2) (.int 4611686014132420609)) (.bin .mul (.var 3) (.int 2147483647))) (.idx (.var 0) (.int 2)))) .nil))))))⟩
def c__law_draw : Fn := ⟨["box", "many", "digit"], ["box", "many"], (.c (.ite (.cmp .lt (.idx (.var 0) (.int 1)) (.var 1)) (.c (.setV 0 (.int 1) (.call 20 (.c (.var 0) .nil))) .nil) .nil) (.c (.asg (.nm 2) (.bin .mod (.blt .int (.c (.idx (.var 0) (.int 1)) .nil)) (.var 1))) (.c (.setV 0 (.int 1) (.bin .div (.idx (.var 0) (.int 1)) (.var 1))) (.c (.ret (.var 2)) .nil))))⟩
def c__law_same : Fn := ⟨["a", "b", "k"], ["a", "b"], (.c (.ite (.bop false (.c (.bop true (.c (.isi (.var 0) .tup) (.c (.isi (.var 1) .tup) .nil))) (.c (.bop true (.c (.isi (.var 0) .lst) (.c (.isi (.var 1) .lst) .nil))) .nil))) (.c (.ret (.bop true (.c (.cmp .eq (.blt .len (.c (.var 0) .nil)) (.blt .len (.c (.var 1) .nil))) (.c (.blt .all (.c (.fz (.cp1 (.call 22 (.c (.idx (.var 0) (.var 2)) (.c (.idx (.var 1) (.var 2)) .nil))) (.nm 2) (.rg1 (.blt .len (.c (.var 0) .nil))) .n [2])) .nil)) .nil)))) .nil) .nil) (.c (.ite (.bop false (.c (.isi (.var 0) .bool) (.c (.isi (.var 1) .bool) .nil))) (.c (.ret (.bop true (.c (.isi (.var 0) .bool) (.c (.isi (.var 1) .bool) (.c (.cmp .eq (.var 0) (.var 1)) .nil))))) .nil) .nil) (.c (.ite (.bop false (.c (.bop true (.c (.isi (.var 0) .int) (.c (.isi (.var 1) .int) .nil))) (.c (.bop true (.c (.isi (.var 0) .str) (.c (.isi (.var 1) .str) .nil))) .nil))) (.c (.ret (.cmp .eq (.var 0) (.var 1))) .nil) .nil) (.c (.ret (.bop true (.c (.cmp .is (.var 0) .non) (.c (.cmp .is (.var 1) .non) .nil)))) .nil))))⟩
def c__law_bent : Fn := ⟨["box", "value", "pick", "at"], ["box", "value"], (.c (.ite (.bop true (.c (.isi (.var 1) .tup) (.c (.cmp .gt (.blt .len (.c (.var 1) .nil)) (.int 0)) (.c (.cmp .gt (.call 21 (.c (.var 0) (.c (.int 5) .nil))) (.int 0)) .nil)))) (.c (.asg (.nm 3) (.call 21 (.c (.var 0) (.c (.blt .len (.c (.var 1) .nil)) .nil)))) (.c (.ret (.bin .add (.bin .add (.slc (.var 1) .n (.s (.var 3))) (.tup (.c (.call 23 (.c (.var 0) (.c (.idx (.var 1) (.var 3)) .nil))) .nil))) (.slc (.var 1) (.s (.bin .add (.var 3) (.int 1))) .n))) .nil)) .nil) (.c (.asg (.nm 2) (.call 21 (.c (.var 0) (.c (.int 8) .nil)))) (.c (.ite (.isi (.var 1) .tup) (.c (.ret (.idx (.fz (.dsp (.c (.bin .add (.var 1) (.slc (.var 1) .n (.s (.int 1)))) (.c (.slc (.var 1) (.s (.int 1)) .n) (.c (.rev (.var 1)) (.c (.bin .add (.var 1) (.tup (.c (.int 0) .nil))) (.c (.bin .add (.slc (.var 1) .n (.s (.int 1))) (.var 1)) (.c (.slc (.var 1) .n (.s (.neg (.int 1)))) (.c .non (.c (.slc (.var 1) .n (.s (.int 1))) .nil)))))))))) (.var 2))) .nil) .nil) (.c (.ite (.bop true (.c (.isi (.var 1) .int) (.c (.not (.isi (.var 1) .bool)) .nil))) (.c (.ret (.idx (.fz (.dsp (.c (.bin .add (.var 1) (.int 1)) (.c (.bin .sub (.var 1) (.int 1)) (.c (.neg (.var 1)) (.c (.cmp .eq (.var 1) (.int 1)) (.c .non (.c (.blt .str (.c (.var 1) .nil)) (.c (.tup (.c (.var 1) .nil)) (.c (.bin .add (.var 1) (.int 1001)) .nil)))))))))) (.var 2))) .nil) .nil) (.c (.ite (.isi (.var 1) .str) (.c (.ret (.idx (.fz (.dsp (.c (.bin .add (.var 1) (.str "a")) (.c (.slc (.var 1) (.s (.int 1)) .n) (.c (.str "any") (.c (.up (.var 1)) (.c (.int 0) (.c (.str "") (.c (.bin .add (.var 1) (.str "z0z0z0z0")) (.c (.tup (.c (.var 1) .nil)) .nil)))))))))) (.var 2))) .nil) .nil) (.c (.ret (.idx (.fz (.dsp (.c (.int 0) (.c (.int 1) (.c .non (.c (.bl true) (.c (.bl false) (.c (.str "a") (.c (.tup .nil) (.c (.neg (.int 1)) .nil)))))))))) (.var 2))) .nil))))))⟩
def c__law_are : Fn := ⟨["value", "size", "least", "one"], ["value", "size", "least"], (.c (.ret (.bop true (.c (.isi (.var 0) .tup) (.c (.cmp .eq (.blt .len (.c (.var 0) .nil)) (.var 1)) (.c (.blt .all (.c (.fz (.cp1 (.bop true (.c (.isi (.var 3) .int) (.c (.not (.isi (.var 3) .bool)) (.c (.cmp .ge (.var 3) (.var 2)) .nil)))) (.nm 3) (.seq (.var 0)) .n [3])) .nil)) .nil))))) .nil)⟩
def c__law_time : Fn := ⟨["work", "paces", "axis"], ["work", "paces"], (.c (.ret (.blt .sum (.c (.fz (.cp1 (.bin .mul (.idx (.var 0) (.var 2)) (.idx (.var 1) (.var 2))) (.nm 2) (.rg1 (.int 3)) .n [2])) .nil))) .nil)⟩
def c__law_least : Fn := ⟨["works", "k", "value", "work"], ["works", "k", "value"], (.c (.ret (.bop true (.c (.call 24 (.c (.var 2) (.c (.int 3) (.c (.int 1) .nil)))) (.c (.blt .all (.c (.fz (.cp1 (.cmp .le (.call 25 (.c (.idx (.var 0) (.var 1)) (.c (.var 2) .nil))) (.call 25 (.c (.var 3) (.c (.var 2) .nil)))) (.nm 3) (.seq (.var 0)) .n [3])) .nil)) .nil)))) .nil)⟩
def c__law_worse : Fn := ⟨["works", "k", "value", "told", "due", "axis", "j"], ["works", "k", "value"], (.c (.ite (.not (.call 24 (.c (.var 2) (.c (.blt .len (.c (.var 0) .nil)) (.c (.int 0) .nil))))) (.c (.ret (.bl false)) .nil) .nil) (.c (.asg (.nm 3) (.fz (.cp1 (.blt .sum (.c (.fz (.cp1 (.bin .mul (.idx (.var 2) (.var 6)) (.idx (.idx (.var 0) (.var 6)) (.var 5))) (.nm 6) (.rg1 (.blt .len (.c (.var 0) .nil))) .n [6])) .nil)) (.nm 5) (.rg1 (.int 3)) .n [5]))) (.c (.asg (.nm 4) (.fz (.cp1 (.bin .mul (.blt .sum (.c (.var 2) .nil)) (.idx (.idx (.var 0) (.var 1)) (.var 5))) (.nm 5) (.rg1 (.int 3)) .n [5]))) (.c (.ret (.bop true (.c (.blt .all (.c (.fz (.cp1 (.cmp .le (.idx (.var 3) (.var 5)) (.idx (.var 4) (.var 5))) (.nm 5) (.rg1 (.int 3)) .n [5])) .nil)) (.c (.cmp .ne (.var 3) (.var 4)) .nil)))) .nil))))⟩
def c_law : Fn := ⟨["script", "box", "turn", "works", "k", "one", "other", "paces", "paper", "some", "value", "fine", "work", "step", "part", "axis"], ["script"], (.c (.asg (.nm 1) (.call 19 (.c (.var 0) .nil))) (.c (.for (.nm 2) (.rg1 (.int 3)) (.c (.own 3 (.cp1 (.tup (.c (.call 21 (.c (.var 1) (.c (.int 9) .nil))) (.c (.call 21 (.c (.var 1) (.c (.int 9) .nil))) (.c (.call 21 (.c (.var 1) (.c (.int 5) .nil))) .nil)))) (.nm 4) (.rg1 (.bin .add (.int 1) (.call 21 (.c (.var 1) (.c (.int 5) .nil))))) .n [4])) (.c (.ite (.bop true (.c (.cmp .gt (.blt .len (.c (.var 3) .nil)) (.int 2)) (.c (.cmp .eq (.call 21 (.c (.var 1) (.c (.int 2) .nil))) (.int 0)) .nil))) (.c (.par [5, 6] (.v (.idx (.var 3) (.int 0)) (.v (.idx (.var 3) (.int 1)) .nil))) (.c (.own 3 (.cp1 (.blt .tup (.c (.fz (.cp1 (.bin .mul (.int 2) (.var 14)) (.nm 14) (.seq (.var 12)) .n [14])) .nil)) (.nm 12) (.seq (.var 3)) .n [12])) (.c (.app 3 (.blt .tup (.c (.fz (.cp1 (.bin .add (.bin .add (.idx (.var 5) (.var 15)) (.idx (.var 6) (.var 15))) (.ite (.bop true (.c (.cmp .eq (.var 15) (.var 2)) (.c (.cmp .eq (.call 21 (.c (.var 1) (.c (.int 2) .nil))) (.int 0)) .nil))) (.int 1) (.int 0))) (.nm 15) (.rg1 (.int 3)) .n [15])) .nil))) .nil))) .nil) (.c (.asg (.nm 3) (.blt .tup (.c (.var 3) .nil))) (.c (.for (.nm 4) (.rg1 (.blt .len (.c (.var 3) .nil))) (.c (.par [7, 8] (.v (.call 17 (.c (.var 3) (.c (.var 4) .nil))) (.v (.call 13 (.c (.var 3) (.c (.var 4) .nil))) .nil))) (.c (.ite (.bop false (.c (.cmp .eq (.cmp .is (.var 7) .non) (.cmp .is (.var 8) .non)) (.c (.bop true (.c (.cmp .isn (.var 7) .non) (.c (.not (.call 26 (.c (.var 3) (.c (.var 4) (.c (.var 7) .nil))))) .nil))) (.c (.bop true (.c (.cmp .isn (.var 8) .non) (.c (.not (.call 27 (.c (.var 3) (.c (.var 4) (.c (.var 8) .nil))))) .nil))) .nil)))) (.c (.ret (.bl false)) .nil) .nil) (.c (.asg (.nm 9) (.ite (.cmp .isn (.var 7) .non) (.var 7) (.tup (.c (.int 1) (.c (.int 1) (.c (.int 1) .nil)))))) (.c (.for (.nm 10) (.seq (.bin .add (.fz (.dsp (.c (.var 9) (.c (.tup (.c (.int 1) (.c (.int 1) (.c (.int 1) .nil)))) (.c (.tup (.c (.int 1) (.c (.int 9) (.c (.int 1) .nil)))) (.c (.tup (.c (.int 9) (.c (.int 1) (.c (.int 30) .nil)))) (.c (.tup (.c (.int 0) (.c (.int 1) (.c (.int 1) .nil)))) (.c (.tup (.c (.bl true) (.c (.int 1) (.c (.int 1) .nil)))) (.c (.tup (.c (.int 1) (.c (.int 1) .nil))) (.c .non (.c (.tup .nil) .nil))))))))))) (.fz (.cp1 (.call 23 (.c (.var 1) (.c (.var 9) .nil))) (.nm 13) (.rg1 (.int 3)) .n [13])))) (.c (.asg (.nm 11) (.call 26 (.c (.var 3) (.c (.var 4) (.c (.var 10) .nil))))) (.c (.ite (.bop false (.c (.not (.call 22 (.c (.call 18 (.c (.var 3) (.c (.var 4) (.c (.var 10) .nil)))) (.c (.var 11) .nil)))) (.c (.bop true (.c (.var 11) (.c (.cmp .isn (.var 8) .non) .nil))) .nil))) (.c (.ret (.bl false)) .nil) .nil) .nil))) (.c (.asg (.nm 9) (.ite (.cmp .isn (.var 8) .non) (.var 8) (.bin .mul (.tup (.c (.int 1) .nil)) (.blt .len (.c (.var 3) .nil))))) (.c (.for (.nm 10) (.seq (.bin .add (.fz (.dsp (.c (.var 9) (.c (.bin .mul (.tup (.c (.int 0) .nil)) (.blt .len (.c (.var 3) .nil))) (.c (.bin .mul (.tup (.c (.int 1) .nil)) (.blt .len (.c (.var 3) .nil))) (.c (.bin .mul (.tup (.c (.bl true) .nil)) (.blt .len (.c (.var 3) .nil))) (.c (.slc (.var 9) .n (.s (.neg (.int 1)))) (.c (.bin .add (.var 9) (.tup (.c (.int 0) .nil))) (.c .non (.c (.tup .nil) .nil)))))))))) (.fz (.cp1 (.call 23 (.c (.var 1) (.c (.var 9) .nil))) (.nm 13) (.rg1 (.int 3)) .n [13])))) (.c (.asg (.nm 11) (.call 27 (.c (.var 3) (.c (.var 4) (.c (.var 10) .nil))))) (.c (.ite (.bop false (.c (.not (.call 22 (.c (.call 14 (.c (.var 3) (.c (.var 4) (.c (.var 10) .nil)))) (.c (.var 11) .nil)))) (.c (.bop true (.c (.var 11) (.c (.cmp .isn (.var 7) .non) .nil))) .nil))) (.c (.ret (.bl false)) .nil) .nil) .nil))) .nil))))))) .nil))))) (.c (.asg (.nm 3) (.tup (.c (.tup (.c (.int 4) (.c (.int 0) (.c (.int 1) .nil)))) (.c (.tup (.c (.int 0) (.c (.int 4) (.c (.int 1) .nil)))) (.c (.tup (.c (.int 2) (.c (.int 2) (.c (.int 1) .nil)))) (.c (.tup (.c (.int 3) (.c (.int 3) (.c (.int 1) .nil)))) .nil)))))) (.c (.ret (.bop true (.c (.cmp .isn (.call 17 (.c (.var 3) (.c (.int 2) .nil))) .non) (.c (.cmp .is (.call 13 (.c (.var 3) (.c (.int 2) .nil))) .non) (.c (.cmp .is (.call 17 (.c (.var 3) (.c (.int 3) .nil))) .non) (.c (.cmp .is (.call 14 (.c (.var 3) (.c (.int 3) (.c (.tup (.c (.int 1) (.c (.int 1) (.c (.int 0) (.c (.int 0) .nil))))) .nil)))) (.bl true)) .nil)))))) .nil))))⟩
def fs : List Fn := [c_is_whole, c_divisor_of, c_ratio_of, c_sum_of, c_times_of, c_is_less_ratio, c_floor_of, c_work_time, c_less_work, c_first_rows, c_joined_row, c_rows_without, c_layers_of, c_worse_paper, c_is_worse_paper, c_bound_at, c_chosen, c_paces_for, c_is_least_by, c__law_box, c__law_load, c__law_draw, c__law_same, c__law_bent, c__law_are, c__law_time, c__law_least, c__law_worse, c_law]
def gs : List D := [.int 3]
end PV.K22
set_option maxRecDepth 100000
set_option maxHeartbeats 4000000
namespace PV.K22
open PySem PV
section
variable {n : Nat} {s : Sto}
def Bx (s : Sto) : Prop := ∃ (cs : List Int) (v t : Int), s = [.lst (cs.map D.int), .lst [.loc 0, .int v, .int t]]
theorem e_load (hb : Bx s) (hn : 1 ≤ n) : ∃ v s', callF fs gs n 20 [.loc 1] s = .ok (.int v) s' ∧ Bx s' := by
  obtain ⟨m, rfl, hm⟩ := sc hn
  obtain ⟨cs, v, t, rfl⟩ := hb
  rw [call_at (f := c__law_load) rfl rfl]
  cases cs with
  | nil =>
    refine ⟨_, _, by simp [c__law_load, startE, List.replicate, L2.ixN, chg, frzR]; first | exact ⟨rfl, rfl⟩ | rfl, [], v, _, rfl⟩
  | cons c cs =>
    have ep : ∀ (o : Bool) (env : Env), env[1]? = some (some (.val (.loc 0))) → ev (callF fs gs m) gs o (.popL 1 (.s (.int 0))) env (.lst (D.int c :: cs.map D.int) :: [.lst [.loc 0, .int v, .int t]]) = .ok (.int c) (.lst (cs.map D.int) :: [.lst [.loc 0, .int v, .int t]]) := fun o env h =>
      ev_popL (n := 0) (k := 0) (j := 0) (ds := D.int c :: cs.map D.int) rfl h ev_int rfl (by decide) (by simp [L2.ixN]) rfl
    by_cases c1 : 0 ≤ c
    · by_cases c2 : 1000000000000000000 ≤ 2 * c
      · refine ⟨_, _, by simp [c__law_load, startE, List.replicate, L2.ixN, chg, frzR, ep, c1, c2]; first | exact ⟨rfl, rfl⟩ | rfl, cs, v, t, rfl⟩
      · refine ⟨_, _, by simp [c__law_load, startE, List.replicate, L2.ixN, chg, frzR, ep, c1, c2]; first | exact ⟨rfl, rfl⟩ | rfl, cs, v, _, rfl⟩
    · by_cases c2 : 1000000000000000000 ≤ -2 * c - 1
      · refine ⟨_, _, by simp [c__law_load, startE, List.replicate, L2.ixN, chg, frzR, ep, c1, c2]; first | exact ⟨rfl, rfl⟩ | rfl, cs, v, t, rfl⟩
      · refine ⟨_, _, by simp [c__law_load, startE, List.replicate, L2.ixN, chg, frzR, ep, c1, c2]; first | exact ⟨rfl, rfl⟩ | rfl, cs, v, _, rfl⟩
theorem e_draw {many : Int} (hb : Bx s) (h : 0 < many ∧ many < 1073741824) (hn : 2 ≤ n) : ∃ d s', callF fs gs n 21 [.loc 1, .int many] s = .ok (.int d) s' ∧ (0 ≤ d ∧ d < many) ∧ Bx s' := by
  obtain ⟨m, rfl, hm⟩ := sc hn
  obtain ⟨w, s1, e1, h1⟩ := e_load hb hm
  obtain ⟨cs, v, t, rfl⟩ := hb
  obtain ⟨cs1, v1, t1, rfl⟩ := h1
  rw [call_at (f := c__law_draw) rfl rfl]
  by_cases c : v < many
  · refine ⟨w % many, _, by simp [c__law_draw, startE, List.replicate, L2.ixN, chg, frzR, c, e1, borrows, isOwn, h.1, h.2]; rfl, ⟨Int.emod_nonneg _ (by omega), Int.emod_lt_of_pos _ h.1⟩, cs1, _, t1, rfl⟩
  · refine ⟨v % many, _, by simp [c__law_draw, startE, List.replicate, L2.ixN, chg, frzR, c, e1, borrows, isOwn, h.1, h.2]; rfl, ⟨Int.emod_nonneg _ (by omega), Int.emod_lt_of_pos _ h.1⟩, cs, _, t, rfl⟩
theorem e_box {ns : List Int} (hn : 1 ≤ n) : ∃ s', callF fs gs n 19 [.rol (ns.map D.int)] [] = .ok (.loc 1) s' ∧ Bx s' := by
  obtain ⟨m, rfl, hm⟩ := sc hn
  rw [call_at (f := c__law_box) rfl rfl]
  have e : slcD (.rol (ns.map D.int)) none (some 63) = some (.lst ((cut ns none (some 63)).map D.int)) := by
    show some (D.lst (cut (ns.map D.int) none (some 63))) = _
    unfold cut
    rw [List.length_map, List.map_take, List.map_drop]
  exact ⟨[.lst ((cut ns none (some 63)).map D.int), .lst [.loc 0, .int 0, .int (4711 + ns.length)]], by simp [c__law_box, startE, List.replicate, frzR, e], cut ns none (some 63), 0, 4711 + ns.length, rfl⟩
set_option maxRecDepth 4000 in
theorem e_same : ∀ {k : Nat} {d : D}, Sim k d → ∀ {n : Nat} {s : Sto}, k + 1 ≤ n → callF fs gs n 22 [d, d] s = .ok (.bl true) s := by
  have rep : ∀ {k : Nat} {ds : List D} {d : D} (hd : d = .tup ds ∨ d = .lst ds) (hl : ds.length ≤ 100000) (ih : ∀ d ∈ ds, ∀ {n : Nat} {s : Sto}, k + 1 ≤ n → callF fs gs n 22 [d, d] s = .ok (.bl true) s) {n : Nat} {s : Sto}, k + 2 ≤ n → callF fs gs n 22 [d, d] s = .ok (.bl true) s := by
    intro k ds d hd hl ih n s hn
    obtain ⟨m, rfl, hm⟩ := sc hn
    rw [call_at (f := c__law_same) rfl rfl]
    have key : ∀ env, env = [some (SV.val d), some (.val d), none] → evF (callF fs gs m) gs (.cp1 (.call 22 (.c (.idx (.var 0) (.var 2)) (.c (.idx (.var 1) (.var 2)) .nil))) (.nm 2) (.rg1 (.blt .len (.c (.var 0) .nil))) .n [2]) env s = .ok ((ir 0 ds.length).map fun _ => D.bl true) s := by
      rintro env rfl
      refine cp1_map (xs := ir 0 ds.length) (mk := D.int) (g := fun _ => D.bl true) ?_ (fun i hi => ⟨_, rfl, ?_⟩) (by rw [ir_len]; show _ ≤ 16777216; omega)
      · rcases hd with rfl | rfl <;> simp [rng1_ir (j := ds.length) (by omega)]
      · rw [mem_ir] at hi
        have h1 : i.toNat < ds.length := by omega
        have h2 : ds[i.toNat]? = some ds[i.toNat] := List.getElem?_eq_getElem h1
        have h3 := ih _ (List.getElem_mem h1) (n := m) (s := s) (by omega)
        rcases hd with rfl | rfl
        · simp [noOwn, wipeE, idx_tupI hi.1 h2, h3, borrows, isOwn]
        · simp [noOwn, wipeE, idx_lstI hi.1 h2, h3, borrows, isOwn]
    have e1 := key _ rfl
    have e2 := all_true (l := ir 0 ds.length)
    generalize (ir 0 ds.length).map (fun _ => D.bl true) = M at e1 e2
    rcases hd with rfl | rfl
    · simp [c__law_same, startE, frzR, e1, e2, List.replicate]
    · simp [c__law_same, startE, frzR, e1, e2, List.replicate]
  intro k d h
  induction h with
  | non => intro n s hn; obtain ⟨m, rfl, hm⟩ := sc (k := 0) (by omega : 0 + 1 ≤ n); rw [call_at (f := c__law_same) rfl rfl]; simp [c__law_same, startE, List.replicate, frzR]
  | int => intro n s hn; obtain ⟨m, rfl, hm⟩ := sc (k := 0) (by omega : 0 + 1 ≤ n); rw [call_at (f := c__law_same) rfl rfl]; simp [c__law_same, startE, List.replicate, frzR]
  | bl => intro n s hn; obtain ⟨m, rfl, hm⟩ := sc (k := 0) (by omega : 0 + 1 ≤ n); rw [call_at (f := c__law_same) rfl rfl]; simp [c__law_same, startE, List.replicate, frzR]
  | @str k x hx =>
    intro n s hn
    have e := eq_dat (Dat.str hx) (Dat.str hx) rfl
    obtain ⟨m, rfl, hm⟩ := sc (k := 0) (by omega : 0 + 1 ≤ n); rw [call_at (f := c__law_same) rfl rfl]; simp [c__law_same, startE, List.replicate, frzR, e]
  | tup hl _ ih => exact fun {n s} hn => rep (.inl rfl) hl (fun d hd {n s} h => ih d hd h) hn
  | lst hl _ ih => exact fun {n s} hn => rep (.inr rfl) hl (fun d hd {n s} h => ih d hd h) hn
theorem Bx.nolst (h : Bx s) : nolstS? s = true := by
  obtain ⟨cs, v, t, rfl⟩ := h
  have e : ∀ cs : List Int, nolsts? (cs.map D.int) = true := fun cs => by
    induction cs with
    | nil => rfl
    | cons c cs ih => simp [nolsts?, nolst?, ih]
  simp [nolstS?, nolsts?, nolst?, e]
end
end PV.K22
set_option maxRecDepth 100000
set_option maxHeartbeats 4000000
namespace PV
open PySem
/-! ### bounds by bits -/
def Bt (b : Nat) (x : Int) : Prop := x.natAbs < 2 ^ b
theorem Bt.up {a b : Nat} {x : Int} (h : Bt a x) (hab : a ≤ b) : Bt b x := Nat.lt_of_lt_of_le h (Nat.pow_le_pow_right (by omega) hab)
theorem Bt.mul {a b : Nat} {x y : Int} (h : Bt a x) (k : Bt b y) : Bt (a + b) (x * y) := by
  unfold Bt at *
  rw [Int.natAbs_mul, Nat.pow_add]
  exact Nat.mul_lt_mul'' h k
theorem Bt.add {a b : Nat} {x y : Int} (h : Bt a x) (k : Bt b y) : Bt (a + b + 1) (x + y) := by
  have h1 := h.up (b := a + b) (by omega)
  have k1 := k.up (b := a + b) (by omega)
  unfold Bt at *
  rw [Nat.pow_succ]
  have := Int.natAbs_add_le x y
  omega
theorem Bt.add2 {a : Nat} {x y : Int} (h : Bt a x) (k : Bt a y) : Bt (a + 1) (x + y) := by
  unfold Bt at *
  rw [Nat.pow_succ]
  have := Int.natAbs_add_le x y
  omega
theorem Bt.neg {a : Nat} {x : Int} (h : Bt a x) : Bt a (-x) := by unfold Bt at *; rwa [Int.natAbs_neg]
theorem Bt.le {a : Nat} {x y : Int} (h : Bt a x) (k : y.natAbs ≤ x.natAbs) : Bt a y := Nat.lt_of_le_of_lt k h
theorem Bt.of {a : Nat} {x : Int} (h : x.natAbs < 2 ^ a) : Bt a x := h
theorem log2_lt {x b : Nat} (h : x < 2 ^ b) (hb : 0 < b) : x.log2 < b := by
  by_cases c : x = 0
  · subst c; simpa using hb
  · exact (Nat.log2_lt c).mpr h
theorem mul_bt {a b : Nat} {i j : Int} (hi : Bt a i) (hj : Bt b j) (h : a + b ≤ 900000) : binD .mul (.int i) (.int j) = some (.int (i * j)) := by
  have x := log2_lt (hi.up (b := a + 1) (by omega)) (by omega)
  have y := log2_lt (hj.up (b := b + 1) (by omega)) (by omega)
  rw [bin_mul]
  split
  · rfl
  · rw [if_pos (by omega)]
theorem div_bt {b : Nat} {i j : Int} (h : 0 < j) (hj : Bt b j) (hb : b ≤ 8000) : binD .div (.int i) (.int j) = some (.int (i / j)) := by
  have y := log2_lt (hj.up (b := b + 1) (by omega)) (by omega)
  rw [bin_div]
  split
  · rfl
  · rw [if_pos ⟨h, by omega⟩]
end PV
namespace PV.K22
open PySem PV
section
variable {n : Nat} {s : Sto}
/-! ### the greatest common divisor -/
def ED (a b : Nat) : Env := [some (.val (.int a)), some (.val (.int b))]
def cDv : Ex := .var 1
def bDv : Sms := (.c (.par [0, 1] (.v (.var 1) (.v (.bin .mod (.var 0) (.var 1)) .nil))) .nil)
theorem dv_cond {a b : Nat} : ((ev (callF fs gs n) gs true cDv (ED a b) s).bind fun x s => truthS s x) = .ok (decide (b ≠ 0)) s := by
  have e : (((b : Nat) : Int) != 0) = decide (b ≠ 0) := by
    rw [Bool.eq_iff_iff]
    simp
  simp [cDv, ED, e]
theorem dv_step {a b : Nat} (hb : b ≠ 0) : execs (callF fs gs n) gs bDv (ED a b) s = .ok (.nx (ED b (a % b))) s := by
  have h : (0 : Int) < b := by omega
  have e : binD .mod (.int a) (.int b) = some (.int ((a % b : Nat) : Int)) := by
    rw [bin_mod, if_pos h]
    rfl
  generalize a % b = c at *
  simp [bDv, ED, e, -bin_mod]
theorem dv_loop : ∀ (b a : Nat), ∃ t, whileN (fun env s => (ev (callF fs gs n) gs true cDv env s).bind fun x s => truthS s x) (execs (callF fs gs n) gs bDv) t (ED a b) s = .ok (.nx (ED (Nat.gcd a b) 0)) s := by
  intro b
  induction b using Nat.strongRecOn with
  | ind b ih =>
    intro a
    by_cases c : b = 0
    · subst c
      exact ⟨1, by rw [whileN_stop (by rw [dv_cond]; rfl), Nat.gcd_zero_right]⟩
    · obtain ⟨t, e⟩ := ih (a % b) (Nat.mod_lt _ (by omega)) b
      refine ⟨t + 1, ?_⟩
      rw [whileN_go (by rw [dv_cond, decide_eq_true c]) (dv_step c), e]
      have : Nat.gcd b (a % b) = Nat.gcd a b := by rw [Nat.gcd_comm, ← Nat.gcd_rec, Nat.gcd_comm]
      rw [this]
theorem e_divisor {a b : Int} (hn : 1 ≤ n) : callF fs gs n 1 [.int a, .int b] s = .ok (.int (Nat.gcd a.natAbs b.natAbs : Nat)) s := by
  obtain ⟨m, rfl, hm⟩ := sc hn
  rw [call_at (f := c_divisor_of) rfl rfl]
  obtain ⟨t, e⟩ := dv_loop (n := m) (s := s) b.natAbs a.natAbs
  have ab : ∀ x : Int, (if x < 0 then -x else x) = (x.natAbs : Int) := fun x => by split <;> omega
  have eb : c_divisor_of.body = .c (.par [0, 1] (.v (.blt .abs (.c (.var 0) .nil)) (.v (.blt .abs (.c (.var 1) .nil)) .nil))) (.c (.whl cDv bDv) (.c (.ret (.var 0)) .nil)) := rfl
  have es : startE c_divisor_of.N.length [.int a, .int b] = [some (SV.val (.int a)), some (.val (.int b))] := rfl
  rw [eb, es]
  have x0 : exec (callF fs gs m) gs (.par [0, 1] (.v (.blt .abs (.c (.var 0) .nil)) (.v (.blt .abs (.c (.var 1) .nil)) .nil))) [some (SV.val (.int a)), some (.val (.int b))] s = .ok (.nx (ED a.natAbs b.natAbs)) s := by
    simp [ab, ED]
  have x1 : exec (callF fs gs m) gs (.whl cDv bDv) (ED a.natAbs b.natAbs) s = .ok (.nx (ED (Nat.gcd a.natAbs b.natAbs) 0)) s := by
    simp only [exec]
    exact whileF_eq e
  rw [execs_c, x0, nextF_nx, execs_c, x1, nextF_nx]
  simp [ED, frzR]
/-! ### ratios -/
/-- d is the ratio r, of at most b bits -/
def Rt (b : Nat) (r : Rat) (d : D) : Prop := ∃ p q : Int, d = .tup [.int p, .int q] ∧ 0 < q ∧ r = (p : Rat) / (q : Rat) ∧ Bt b p ∧ Bt b q
theorem Rt.up {a b : Nat} {r : Rat} {d : D} (h : Rt a r d) (hab : a ≤ b) : Rt b r d := by
  obtain ⟨p, q, e, h1, h2, h3, h4⟩ := h
  exact ⟨p, q, e, h1, h2, h3.up hab, h4.up hab⟩
theorem rat_div {p q g : Int} (hq : q ≠ 0) (hg : 0 < g) (h1 : g ∣ p) (h2 : g ∣ q) : ((p / g : Int) : Rat) / ((q / g : Int) : Rat) = (p : Rat) / (q : Rat) := by
  obtain ⟨a, rfl⟩ := h1
  obtain ⟨b, rfl⟩ := h2
  rw [Int.mul_ediv_cancel_left _ (by omega), Int.mul_ediv_cancel_left _ (by omega), Rat.intCast_mul, Rat.intCast_mul]
  have hg' : (g : Rat) ≠ 0 := by
    intro z
    have : g = 0 := by exact_mod_cast z
    omega
  have hb' : (b : Rat) ≠ 0 := by
    intro z
    have : b = 0 := by exact_mod_cast z
    subst this
    simp at hq
  grind
theorem e_ratio {p q : Int} {a b : Nat} (hq : q ≠ 0) (hp : Bt a p) (hqb : Bt b q) (hb : b ≤ 8000) (hn : 2 ≤ n) : ∃ d, (∀ s, callF fs gs n 2 [.int p, .int q] s = .ok d s) ∧ ∃ p' q' : Int, d = .tup [.int p', .int q'] ∧ 0 < q' ∧ (p : Rat) / (q : Rat) = (p' : Rat) / (q' : Rat) ∧ Bt a p' ∧ Bt b q' := by
  obtain ⟨m, rfl, hm⟩ := sc hn
  have key : ∀ p q : Int, 0 < q → Bt a p → Bt b q → ∃ p' q' : Int, 0 < q' ∧ (p : Rat) / (q : Rat) = (p' : Rat) / (q' : Rat) ∧ Bt a p' ∧ Bt b q' ∧ p / (Nat.gcd p.natAbs q.natAbs : Nat) = p' ∧ q / (Nat.gcd p.natAbs q.natAbs : Nat) = q' ∧ binD .div (.int p) (.int (Nat.gcd p.natAbs q.natAbs : Nat)) = some (.int p') ∧ binD .div (.int q) (.int (Nat.gcd p.natAbs q.natAbs : Nat)) = some (.int q') := by
    intro p q hq hp hqb
    have hg : 0 < Nat.gcd p.natAbs q.natAbs := Nat.gcd_pos_of_pos_right _ (by omega)
    have hg' : (0 : Int) < (Nat.gcd p.natAbs q.natAbs : Nat) := by omega
    have d1 : ((Nat.gcd p.natAbs q.natAbs : Nat) : Int) ∣ p := Int.ofNat_dvd_left.mpr (Nat.gcd_dvd_left _ _)
    have d2 : ((Nat.gcd p.natAbs q.natAbs : Nat) : Int) ∣ q := Int.ofNat_dvd_left.mpr (Nat.gcd_dvd_right _ _)
    have gb : Bt b (Nat.gcd p.natAbs q.natAbs : Nat) := hqb.le (by
      rw [Int.natAbs_natCast]
      exact Nat.le_of_dvd (by omega) (Nat.gcd_dvd_right _ _))
    have v1 := div_bt (i := p) hg' gb hb
    have v2 := div_bt (i := q) hg' gb hb
    have rd := rat_div (p := p) (q := q) (by omega) hg' d1 d2
    refine ⟨p / (Nat.gcd p.natAbs q.natAbs : Nat), q / (Nat.gcd p.natAbs q.natAbs : Nat), Int.ediv_pos_of_pos_of_dvd hq (by omega) d2, rd.symm, hp.le (Int.natAbs_ediv_le_natAbs _ _), hqb.le (Int.natAbs_ediv_le_natAbs _ _), rfl, rfl, v1, v2⟩
  by_cases c : q < 0
  · obtain ⟨p', q', h1, h2, h3, h4, -, -, v1, v2⟩ := key (-p) (-q) (by omega) hp.neg hqb.neg
    have e : ((-p : Int) : Rat) / ((-q : Int) : Rat) = (p : Rat) / (q : Rat) := by
      rw [Rat.intCast_neg, Rat.intCast_neg]
      grind
    rw [e] at h2
    refine ⟨.tup [.int p', .int q'], fun s => ?_, p', q', rfl, h1, h2, h3, h4⟩
    rw [call_at (f := c_ratio_of) rfl rfl]
    have ed := e_divisor (n := m) (s := s) (a := -p) (b := -q) hm
    generalize ((Nat.gcd (-p).natAbs (-q).natAbs : Nat) : Int) = g at *
    simp [c_ratio_of, startE, List.replicate, frzR, c, ed, v1, v2, borrows, isOwn, -bin_div]
  · obtain ⟨p', q', h1, h2, h3, h4, -, -, v1, v2⟩ := key p q (by omega) hp hqb
    refine ⟨.tup [.int p', .int q'], fun s => ?_, p', q', rfl, h1, h2, h3, h4⟩
    rw [call_at (f := c_ratio_of) rfl rfl]
    have ed := e_divisor (n := m) (s := s) (a := p) (b := q) hm
    simp [c_ratio_of, startE, List.replicate, frzR, c, ed, v1, v2, borrows, isOwn, -bin_div]
theorem rat_ne {q : Int} (h : 0 < q) : (q : Rat) ≠ 0 := fun z => by
  have : q = 0 := by exact_mod_cast z
  omega
theorem e_sum {a b : Nat} {r t : Rat} {d e : D} (h : Rt a r d) (k : Rt b t e) (hab : a + b ≤ 4000) (hn : 3 ≤ n) : ∃ f, (∀ s, callF fs gs n 3 [d, e] s = .ok f s) ∧ Rt (a + b + 1) (r + t) f := by
  obtain ⟨p, q, rfl, h1, h2, h3, h4⟩ := h
  obtain ⟨p2, q2, rfl, k1, k2, k3, k4⟩ := k
  obtain ⟨m, rfl, hm⟩ := sc hn
  have b1 := (h3.mul k4).add2 ((k3.mul h4).up (b := a + b) (by omega))
  have b2 := h4.mul k4
  obtain ⟨f, ef, p', q', rfl, g1, g2, g3, g4⟩ := e_ratio (n := m) (p := p * q2 + p2 * q) (q := q * q2) (Int.ne_of_gt (Int.mul_pos h1 k1)) b1 b2 (by omega) hm
  have m1 := mul_bt h3 k4 (by omega)
  have m2 := mul_bt k3 h4 (by omega)
  have m3 := mul_bt h4 k4 (by omega)
  refine ⟨_, fun s => ?_, p', q', rfl, g1, ?_, g3, g4.up (by omega)⟩
  · rw [call_at (f := c_sum_of) rfl rfl]
    simp [c_sum_of, startE, List.replicate, frzR, m1, m2, m3, ef, borrows, isOwn, -bin_mul]
  · rw [← g2, h2, k2]
    have n1 := rat_ne h1
    have n2 := rat_ne k1
    rw [Rat.intCast_add, Rat.intCast_mul, Rat.intCast_mul, Rat.intCast_mul]
    grind
theorem e_times {a b : Nat} {r t : Rat} {d e : D} (h : Rt a r d) (k : Rt b t e) (hab : a + b ≤ 4000) (hn : 3 ≤ n) : ∃ f, (∀ s, callF fs gs n 4 [d, e] s = .ok f s) ∧ Rt (a + b) (r * t) f := by
  obtain ⟨p, q, rfl, h1, h2, h3, h4⟩ := h
  obtain ⟨p2, q2, rfl, k1, k2, k3, k4⟩ := k
  obtain ⟨m, rfl, hm⟩ := sc hn
  have b1 := h3.mul k3
  have b2 := h4.mul k4
  obtain ⟨f, ef, p', q', rfl, g1, g2, g3, g4⟩ := e_ratio (n := m) (p := p * p2) (q := q * q2) (Int.ne_of_gt (Int.mul_pos h1 k1)) b1 b2 (by omega) hm
  have m1 := mul_bt h3 k3 (by omega)
  have m3 := mul_bt h4 k4 (by omega)
  refine ⟨_, fun s => ?_, p', q', rfl, g1, ?_, g3, g4⟩
  · rw [call_at (f := c_times_of) rfl rfl]
    simp [c_times_of, startE, List.replicate, frzR, m1, m3, ef, borrows, isOwn, -bin_mul]
  · rw [← g2, h2, k2]
    have n1 := rat_ne h1
    have n2 := rat_ne k1
    rw [Rat.intCast_mul, Rat.intCast_mul]
    grind
theorem rat_pos {q : Int} (h : 0 < q) : (0 : Rat) < (q : Rat) := by exact_mod_cast h
theorem rat_lt {p q p2 q2 : Int} (h : 0 < q) (k : 0 < q2) : (p : Rat) / (q : Rat) < (p2 : Rat) / (q2 : Rat) ↔ p * q2 < p2 * q := by
  have n1 := rat_pos h
  have n2 := rat_pos k
  rw [Rat.div_lt_iff n1]
  have e : (p2 : Rat) / (q2 : Rat) * (q : Rat) = ((p2 : Rat) * (q : Rat)) / (q2 : Rat) := by grind
  rw [e, Rat.lt_div_iff n2]
  rw [← Rat.intCast_mul, ← Rat.intCast_mul]
  exact_mod_cast Iff.rfl
theorem e_less {a b : Nat} {r t : Rat} {d e : D} (h : Rt a r d) (k : Rt b t e) (hab : a + b ≤ 4000) (hn : 1 ≤ n) : callF fs gs n 5 [d, e] s = .ok (.bl (decide (r < t))) s := by
  obtain ⟨p, q, rfl, h1, h2, h3, h4⟩ := h
  obtain ⟨p2, q2, rfl, k1, k2, k3, k4⟩ := k
  obtain ⟨m, rfl, hm⟩ := sc hn
  have m1 := mul_bt h3 k4 (by omega)
  have m2 := mul_bt k3 h4 (by omega)
  have e : decide (r < t) = decide (p * q2 < p2 * q) := by
    rw [h2, k2]
    congr 1
    rw [eq_iff_iff]
    exact rat_lt h1 k1
  rw [e, call_at (f := c_is_less_ratio) rfl rfl]
  simp [c_is_less_ratio, startE, List.replicate, frzR, m1, m2, -bin_mul]
theorem e_floor {a : Nat} {r : Rat} {d : D} (h : Rt a r d) (ha : a ≤ 4000) (hn : 1 ≤ n) : ∃ i : Int, (∀ s, callF fs gs n 6 [d] s = .ok (.int i) s) ∧ r < (i : Rat) + 1 ∧ Bt a i := by
  obtain ⟨p, q, rfl, h1, h2, h3, h4⟩ := h
  obtain ⟨m, rfl, hm⟩ := sc hn
  have v := div_bt (i := p) h1 h4 (by omega)
  refine ⟨p / q, fun s => ?_, ?_, h3.le (Int.natAbs_ediv_le_natAbs _ _)⟩
  · rw [call_at (f := c_floor_of) rfl rfl]
    simp [c_floor_of, startE, List.replicate, frzR, v, -bin_div]
  · rw [h2, Rat.div_lt_iff (rat_pos h1)]
    have : p < (p / q + 1) * q := by
      have := Int.lt_ediv_add_one_mul_self p h1
      exact this
    exact_mod_cast this
end
end PV.K22
set_option maxRecDepth 100000
set_option maxHeartbeats 4000000
/-! Rows of inequalities, an axis taken out: plain mathematics. -/
namespace PV.K22
open PySem PV
abbrev V3 := Int × Int × Int
def vat (v : V3) (i : Nat) : Int := if i = 0 then v.1 else if i = 1 then v.2.1 else v.2.2
structure Row where
  v : V3
  st : Bool
  w : List Int
  deriving DecidableEq
def less3 (a b : V3) : V3 := (a.1 - b.1, a.2.1 - b.2.1, a.2.2 - b.2.2)
def unit3 (i : Nat) : V3 := (if 0 = i then 1 else 0, if 1 = i then 1 else 0, if 2 = i then 1 else 0)
def one1 (n j : Nat) : List Int := (List.range n).map fun i => if i = j then 1 else 0
def wk (ws : List V3) (k : Nat) : V3 := ws.getD k (0, 0, 0)
def rowJ (ws : List V3) (k j : Nat) : Row := ⟨less3 (wk ws j) (wk ws k), false, one1 ws.length j⟩
def rowA (n ax : Nat) : Row := ⟨unit3 ax, true, List.replicate n 0⟩
def firstRows (ws : List V3) (k : Nat) : List Row := ((List.range ws.length).flatMap fun j => if j = k then [] else [rowJ ws k j]) ++ (List.range 3).map (rowA ws.length)
def joinR (ax : Nat) (x y : Row) : Row := ⟨(-(vat y.v ax) * x.v.1 + vat x.v ax * y.v.1, -(vat y.v ax) * x.v.2.1 + vat x.v ax * y.v.2.1, -(vat y.v ax) * x.v.2.2 + vat x.v ax * y.v.2.2), x.st || y.st, List.zipWith (fun p q => -(vat y.v ax) * p + vat x.v ax * q) x.w y.w⟩
def addR (acc : List Row) (r : Row) : List Row := if r ∈ acc then acc else acc ++ [r]
def zer (ax : Nat) (R : List Row) : List Row := R.filter fun r => decide (vat r.v ax = 0)
def pos (ax : Nat) (R : List Row) : List Row := R.filter fun r => decide (0 < vat r.v ax)
def neg (ax : Nat) (R : List Row) : List Row := R.filter fun r => decide (vat r.v ax < 0)
def inner (ax : Nat) (N : List Row) (acc : List Row) (x : Row) : List Row := N.foldl (fun acc y => addR acc (joinR ax x y)) acc
def without (ax : Nat) (R : List Row) : List Row := (pos ax R).foldl (inner ax (neg ax R)) (zer ax R)
def lay1 (ws : List V3) (k : Nat) : List Row := without 2 (firstRows ws k)
def lay2 (ws : List V3) (k : Nat) : List Row := without 1 (lay1 ws k)
def lay3 (ws : List V3) (k : Nat) : List Row := without 0 (lay2 ws k)
theorem mem_addR {acc : List Row} {r x : Row} : x ∈ addR acc r ↔ x ∈ acc ∨ x = r := by
  unfold addR
  by_cases h : r ∈ acc
  · rw [if_pos h]
    exact ⟨.inl, fun z => z.elim id fun e => e ▸ h⟩
  · rw [if_neg h, List.mem_append, List.mem_singleton]
theorem len_addR {acc : List Row} {r : Row} : (addR acc r).length ≤ acc.length + 1 := by
  unfold addR
  split
  · omega
  · simp
theorem mem_inner {ax : Nat} {N : List Row} {x r : Row} : ∀ {acc : List Row}, r ∈ inner ax N acc x ↔ r ∈ acc ∨ ∃ y ∈ N, r = joinR ax x y := by
  unfold inner
  induction N with
  | nil => intro acc; simp
  | cons y N ih =>
    intro acc
    rw [List.foldl_cons, ih, mem_addR]
    simp only [List.mem_cons]
    constructor
    · rintro ((h | h) | ⟨z, hz, e⟩)
      · exact .inl h
      · exact .inr ⟨y, .inl rfl, h⟩
      · exact .inr ⟨z, .inr hz, e⟩
    · rintro (h | ⟨z, hz | hz, e⟩)
      · exact .inl (.inl h)
      · subst hz; exact .inl (.inr e)
      · exact .inr ⟨z, hz, e⟩
theorem len_inner {ax : Nat} {N : List Row} {x : Row} : ∀ {acc : List Row}, (inner ax N acc x).length ≤ acc.length + N.length := by
  unfold inner
  induction N with
  | nil => intro acc; simp
  | cons y N ih =>
    intro acc
    rw [List.foldl_cons]
    have h1 := ih (acc := addR acc (joinR ax x y))
    have h2 := len_addR (acc := acc) (r := joinR ax x y)
    rw [List.length_cons]
    omega
theorem mem_outer {ax : Nat} {N : List Row} {r : Row} : ∀ {P acc : List Row}, r ∈ P.foldl (inner ax N) acc ↔ r ∈ acc ∨ ∃ x ∈ P, ∃ y ∈ N, r = joinR ax x y
  | [], acc => by simp
  | x :: P, acc => by
    rw [List.foldl_cons, mem_outer, mem_inner]
    simp only [List.mem_cons]
    constructor
    · rintro ((h | ⟨y, hy, e⟩) | ⟨z, hz, y, hy, e⟩)
      · exact .inl h
      · exact .inr ⟨x, .inl rfl, y, hy, e⟩
      · exact .inr ⟨z, .inr hz, y, hy, e⟩
    · rintro (h | ⟨z, hz | hz, y, hy, e⟩)
      · exact .inl (.inl h)
      · subst hz; exact .inl (.inr ⟨y, hy, e⟩)
      · exact .inr ⟨z, hz, y, hy, e⟩
theorem len_outer {ax : Nat} {N : List Row} : ∀ {P acc : List Row}, (P.foldl (inner ax N) acc).length ≤ acc.length + P.length * N.length
  | [], acc => by simp
  | x :: P, acc => by
    rw [List.foldl_cons, List.length_cons, Nat.add_mul]
    have h1 := len_outer (ax := ax) (N := N) (P := P) (acc := inner ax N acc x)
    have h2 := len_inner (ax := ax) (N := N) (x := x) (acc := acc)
    omega
theorem mem_without {ax : Nat} {R : List Row} {r : Row} : r ∈ without ax R ↔ (r ∈ R ∧ vat r.v ax = 0) ∨ ∃ x, (x ∈ R ∧ 0 < vat x.v ax) ∧ ∃ y, (y ∈ R ∧ vat y.v ax < 0) ∧ r = joinR ax x y := by
  unfold without
  rw [mem_outer]
  unfold zer pos neg
  simp only [List.mem_filter, decide_eq_true_eq]
theorem filt3 {ax : Nat} : ∀ {R : List Row}, (zer ax R).length + (pos ax R).length + (neg ax R).length = R.length
  | [] => rfl
  | r :: R => by
    have ih := filt3 (ax := ax) (R := R)
    unfold zer pos neg at *
    rw [List.length_cons]
    rcases Int.lt_trichotomy (vat r.v ax) 0 with c | c | c
    · rw [List.filter_cons_of_neg (by simp; omega), List.filter_cons_of_neg (by simp; omega), List.filter_cons_of_pos (by simp; omega), List.length_cons]
      omega
    · rw [List.filter_cons_of_pos (by simp; omega), List.filter_cons_of_neg (by simp; omega), List.filter_cons_of_neg (by simp; omega), List.length_cons]
      omega
    · rw [List.filter_cons_of_neg (by simp; omega), List.filter_cons_of_pos (by simp; omega), List.filter_cons_of_neg (by simp; omega), List.length_cons]
      omega
theorem amgm {p n : Nat} : 4 * (p * n) ≤ (p + n) * (p + n) := by
  have h : ∀ a b : Nat, a ≤ b → 4 * (a * b) ≤ (a + b) * (a + b) := fun a b hab => by
    obtain ⟨c, rfl⟩ := Nat.exists_eq_add_of_le hab
    have e : (a + (a + c)) * (a + (a + c)) = 4 * (a * (a + c)) + c * c := by grind
    omega
  rcases Nat.le_total p n with c | c
  · exact h p n c
  · have := h n p c
    rw [Nat.mul_comm p n, Nat.add_comm p n]; exact this
theorem len_without {ax : Nat} {R : List Row} {N : Nat} (h : R.length ≤ N) : 4 * (without ax R).length ≤ 4 * N + N * N := by
  have h1 := len_outer (ax := ax) (N := neg ax R) (P := pos ax R) (acc := zer ax R)
  have h2 := filt3 (ax := ax) (R := R)
  have h3 := amgm (p := (pos ax R).length) (n := (neg ax R).length)
  have h4 : ((pos ax R).length + (neg ax R).length) * ((pos ax R).length + (neg ax R).length) ≤ N * N := Nat.mul_le_mul (by omega) (by omega)
  have h1 : (without ax R).length ≤ _ := h1
  omega
theorem vat_lin {a b : Int} {c d : V3} {i : Nat} : vat ((a * c.1 + b * d.1, a * c.2.1 + b * d.2.1, a * c.2.2 + b * d.2.2) : V3) i = a * vat c i + b * vat d i := by
  unfold vat
  split
  · rfl
  · split <;> rfl
theorem vat_join {ax i : Nat} {x y : Row} : vat (joinR ax x y).v i = -(vat y.v ax) * vat x.v i + vat x.v ax * vat y.v i := vat_lin
theorem without_zero {ax : Nat} {R : List Row} : ∀ r ∈ without ax R, vat r.v ax = 0 := fun r h => by
  rcases mem_without.mp h with h | ⟨x, hx, y, hy, rfl⟩
  · exact h.2
  · rw [vat_join]
    have : vat x.v ax * vat y.v ax = vat y.v ax * vat x.v ax := Int.mul_comm _ _
    rw [this, Int.neg_mul]
    omega
theorem without_keep {ax i : Nat} {R : List Row} (h : ∀ r ∈ R, vat r.v i = 0) : ∀ r ∈ without ax R, vat r.v i = 0 := fun r hr => by
  rcases mem_without.mp hr with hr | ⟨x, hx, y, hy, rfl⟩
  · exact h r hr.1
  · rw [vat_join, h x hx.1, h y hy.1]; simp
/-! ### what rows are made of -/
def comb (w : List Int) (ws : List V3) (k : V3) (i : Nat) : Int := (List.zipWith (fun n (u : V3) => n * (vat u i - vat k i)) w ws).sum
theorem comb_join {a b : Int} {k : V3} {i : Nat} : ∀ {w1 w2 : List Int} {ws : List V3}, w1.length = w2.length → comb (List.zipWith (fun p q => a * p + b * q) w1 w2) ws k i = a * comb w1 ws k i + b * comb w2 ws k i
  | [], [], ws, _ => by simp [comb]
  | x :: w1, y :: w2, [], _ => by simp [comb]
  | x :: w1, y :: w2, u :: ws, h => by
    have ih := comb_join (a := a) (b := b) (k := k) (i := i) (w1 := w1) (w2 := w2) (ws := ws) (by simpa using h)
    unfold comb at *
    simp only [List.zipWith_cons_cons, List.sum_cons]
    rw [ih]
    grind
structure Mk (ws : List V3) (k : V3) (r : Row) : Prop where
  len : r.w.length = ws.length
  nn : ∀ x ∈ r.w, 0 ≤ x
  cs : ∃ c : V3, (∀ i, 0 ≤ vat c i ∧ vat r.v i = comb r.w ws k i + vat c i) ∧ (r.st = true → 0 < c.1 + c.2.1 + c.2.2)
theorem zip_nn {a b : Int} (ha : 0 ≤ a) (hb : 0 ≤ b) : ∀ {w1 w2 : List Int}, (∀ x ∈ w1, 0 ≤ x) → (∀ x ∈ w2, 0 ≤ x) → ∀ x ∈ List.zipWith (fun p q => a * p + b * q) w1 w2, 0 ≤ x
  | [], _, _, _ => by simp
  | _ :: _, [], _, _ => by simp
  | p :: w1, q :: w2, h1, h2 => by
    intro x hx
    rw [List.zipWith_cons_cons] at hx
    rcases List.mem_cons.mp hx with rfl | hx
    · have := Int.mul_nonneg ha (h1 p List.mem_cons_self)
      have := Int.mul_nonneg hb (h2 q List.mem_cons_self)
      omega
    · exact zip_nn ha hb (fun x h => h1 x (List.mem_cons_of_mem _ h)) (fun x h => h2 x (List.mem_cons_of_mem _ h)) x hx
theorem Mk.join {ws : List V3} {k : V3} {ax : Nat} {x y : Row} (hx : Mk ws k x) (hy : Mk ws k y) (h1 : 0 < vat x.v ax) (h2 : vat y.v ax < 0) : Mk ws k (joinR ax x y) := by
  obtain ⟨c, hc, sc⟩ := hx.cs
  obtain ⟨d, hd, sd⟩ := hy.cs
  have ll : x.w.length = y.w.length := by rw [hx.len, hy.len]
  have A : 0 < -(vat y.v ax) := by omega
  refine ⟨?_, zip_nn (by omega) (by omega) hx.nn hy.nn, ?_⟩
  · show (List.zipWith _ x.w y.w).length = _
    rw [List.length_zipWith, ll, Nat.min_self, hy.len]
  · refine ⟨(-(vat y.v ax) * c.1 + vat x.v ax * d.1, -(vat y.v ax) * c.2.1 + vat x.v ax * d.2.1, -(vat y.v ax) * c.2.2 + vat x.v ax * d.2.2), fun i => ?_, fun hs => ?_⟩
    · have e := vat_lin (a := -(vat y.v ax)) (b := vat x.v ax) (c := c) (d := d) (i := i)
      refine ⟨?_, ?_⟩
      · rw [e]
        have := Int.mul_nonneg (Int.le_of_lt A) (hc i).1
        have := Int.mul_nonneg (Int.le_of_lt h1) (hd i).1
        omega
      · rw [e, vat_join]
        show _ = comb (List.zipWith _ x.w y.w) ws k i + _
        rw [comb_join ll, (hc i).2, (hd i).2]
        grind
    · have hs : (x.st || y.st) = true := hs
      have c0 := (hc 0).1; have c1 := (hc 1).1; have c2 := (hc 2).1
      have d0 := (hd 0).1; have d1 := (hd 1).1; have d2 := (hd 2).1
      have c0 : 0 ≤ c.1 := c0
      have c1 : 0 ≤ c.2.1 := c1
      have c2 : 0 ≤ c.2.2 := c2
      have d0 : 0 ≤ d.1 := d0
      have d1 : 0 ≤ d.2.1 := d1
      have d2 : 0 ≤ d.2.2 := d2
      have e : (-(vat y.v ax) * c.1 + vat x.v ax * d.1) + (-(vat y.v ax) * c.2.1 + vat x.v ax * d.2.1) + (-(vat y.v ax) * c.2.2 + vat x.v ax * d.2.2) = -(vat y.v ax) * (c.1 + c.2.1 + c.2.2) + vat x.v ax * (d.1 + d.2.1 + d.2.2) := by grind
      show 0 < (-(vat y.v ax) * c.1 + vat x.v ax * d.1) + (-(vat y.v ax) * c.2.1 + vat x.v ax * d.2.1) + (-(vat y.v ax) * c.2.2 + vat x.v ax * d.2.2)
      rw [e]
      have n1 := Int.mul_nonneg (Int.le_of_lt A) (show 0 ≤ c.1 + c.2.1 + c.2.2 by omega)
      have n2 := Int.mul_nonneg (Int.le_of_lt h1) (show 0 ≤ d.1 + d.2.1 + d.2.2 by omega)
      rw [Bool.or_eq_true] at hs
      rcases hs with hs | hs
      · have := Int.mul_pos A (sc hs)
        omega
      · have := Int.mul_pos h1 (sd hs)
        omega
theorem mk_without {ws : List V3} {k : V3} {ax : Nat} {R : List Row} (h : ∀ r ∈ R, Mk ws k r) : ∀ r ∈ without ax R, Mk ws k r := fun r hr => by
  rcases mem_without.mp hr with hr | ⟨x, hx, y, hy, rfl⟩
  · exact h r hr.1
  · exact (h x hx.1).join (h y hy.1) hx.2 hy.2
theorem comb_zero {k : V3} {i : Nat} : ∀ {n : Nat} {ws : List V3}, comb (List.replicate n 0) ws k i = 0
  | 0, ws => by simp [comb]
  | n + 1, [] => by simp [comb]
  | n + 1, u :: ws => by
    have ih := comb_zero (k := k) (i := i) (n := n) (ws := ws)
    unfold comb at *
    rw [List.replicate_succ, List.zipWith_cons_cons, List.sum_cons, ih]
    simp
theorem one1_succ {n j : Nat} : one1 (n + 1) (j + 1) = 0 :: one1 n j := by
  unfold one1
  rw [List.range_succ_eq_map, List.map_cons, List.map_map]
  congr 1
  refine List.map_congr_left fun i _ => ?_
  simp [Function.comp]
theorem one1_zero {n : Nat} : one1 (n + 1) 0 = 1 :: List.replicate n 0 := by
  unfold one1
  rw [List.range_succ_eq_map, List.map_cons, List.map_map]
  congr 1
  rw [show List.map ((fun i => if i = 0 then (1 : Int) else 0) ∘ Nat.succ) (List.range n) = (List.range n).map fun _ => 0 from List.map_congr_left fun i _ => by simp [Function.comp]]
  rw [List.map_const', List.length_range]
theorem comb_one {k : V3} {i : Nat} : ∀ {j : Nat} {ws : List V3}, j < ws.length → comb (one1 ws.length j) ws k i = vat (wk ws j) i - vat k i
  | 0, u :: ws, _ => by
    have z := comb_zero (k := k) (i := i) (n := ws.length) (ws := ws)
    unfold comb at *
    rw [List.length_cons, one1_zero, List.zipWith_cons_cons, List.sum_cons, z]
    show 1 * (vat u i - vat k i) + 0 = _
    rw [Int.one_mul]; simp [wk]
  | j + 1, u :: ws, h => by
    have ih := comb_one (k := k) (i := i) (j := j) (ws := ws) (by simpa using h)
    unfold comb at *
    rw [List.length_cons, one1_succ, List.zipWith_cons_cons, List.sum_cons, ih]
    simp [wk]
  | 0, [], h => by simp at h
  | j + 1, [], h => by simp at h
theorem vat_less {a b : V3} {i : Nat} : vat (less3 a b) i = vat a i - vat b i := by
  unfold vat less3
  split
  · rfl
  · split <;> rfl
theorem mk_first {ws : List V3} {k : Nat} : ∀ r ∈ firstRows ws k, Mk ws (wk ws k) r := fun r hr => by
  unfold firstRows at hr
  rcases List.mem_append.mp hr with hr | hr
  · obtain ⟨j, hj, hr⟩ := List.mem_flatMap.mp hr
    have hj := List.mem_range.mp hj
    by_cases c : j = k
    · rw [if_pos c] at hr; cases hr
    · rw [if_neg c, List.mem_singleton] at hr
      subst hr
      refine ⟨by simp [rowJ, one1], fun x hx => ?_, (0, 0, 0), fun i => ⟨?_, ?_⟩, fun z => by cases z⟩
      · obtain ⟨i, _, rfl⟩ := List.mem_map.mp hx
        split <;> omega
      · unfold vat; split <;> (try split) <;> simp
      · show vat (less3 _ _) i = comb (one1 ws.length j) ws (wk ws k) i + vat (0, 0, 0) i
        rw [vat_less, comb_one hj]
        have : vat ((0, 0, 0) : V3) i = 0 := by unfold vat; split <;> (try split) <;> rfl
        rw [this]; omega
  · obtain ⟨ax, hax, rfl⟩ := List.mem_map.mp hr
    have hax := List.mem_range.mp hax
    refine ⟨by simp [rowA], fun x hx => ?_, unit3 ax, fun i => ⟨?_, ?_⟩, fun _ => ?_⟩
    · rw [List.eq_of_mem_replicate hx]; omega
    · unfold vat unit3
      split
      · simp only; split <;> omega
      · split <;> (simp only; split <;> omega)
    · show vat (unit3 ax) i = comb (List.replicate ws.length 0) ws (wk ws k) i + _
      rw [comb_zero]; omega
    · rcases (by omega : ax = 0 ∨ ax = 1 ∨ ax = 2) with rfl | rfl | rfl <;> decide
theorem mk_lay3 {ws : List V3} {k : Nat} : ∀ r ∈ lay3 ws k, Mk ws (wk ws k) r ∧ ∀ i, vat r.v i = 0 := fun r hr => by
  refine ⟨mk_without (mk_without (mk_without mk_first)) r hr, fun i => ?_⟩
  have z2 : ∀ r ∈ lay1 ws k, vat r.v 2 = 0 := without_zero
  have z2' : ∀ r ∈ lay2 ws k, vat r.v 2 = 0 := without_keep z2
  have z1 : ∀ r ∈ lay2 ws k, vat r.v 1 = 0 := without_zero
  have z2'' : vat r.v 2 = 0 := without_keep z2' r hr
  have z1' : vat r.v 1 = 0 := without_keep z1 r hr
  have z0 : vat r.v 0 = 0 := without_zero r hr
  by_cases h0 : i = 0
  · rw [h0]; exact z0
  · by_cases h1 : i = 1
    · rw [h1]; exact z1'
    · have : vat r.v i = vat r.v 2 := by unfold vat; rw [if_neg h0, if_neg h1]; rfl
      rw [this]; exact z2''
end PV.K22
set_option maxRecDepth 100000
set_option maxHeartbeats 4000000
namespace PV.K22
open PySem PV
/-! ### an axis chosen by those ahead of it -/
def SatB (st : Bool) (x : Rat) : Prop := if st = true then 0 < x else 0 ≤ x
def bd (f : Row → Rat) (ax : Nat) (r : Row) : Rat := -f r / (vat r.v ax : Rat)
inductive Cho (R : List Row) (f : Row → Rat) (ax : Nat) (t : Rat) : Prop
  | up : (∀ r ∈ R, ¬ vat r.v ax < 0) → (∀ r ∈ R, 0 < vat r.v ax → bd f ax r < t) → Cho R f ax t
  | mid (lo hi : Row) : lo ∈ R → 0 < vat lo.v ax → (∀ r ∈ R, 0 < vat r.v ax → bd f ax r ≤ bd f ax lo) → hi ∈ R → vat hi.v ax < 0 → (∀ r ∈ R, vat r.v ax < 0 → bd f ax hi ≤ bd f ax r) → t = (bd f ax lo + bd f ax hi) * (1 / 2) → Cho R f ax t
theorem satB_le {st : Bool} {x : Rat} (h : SatB st x) : 0 ≤ x := by
  unfold SatB at h
  split at h
  · grind
  · exact h
theorem pos_of {m x : Rat} (hm : 0 < m) (h : 0 < m * x) : 0 < x := by
  by_cases c : 0 < x
  · exact c
  · exfalso
    by_cases z : x = 0
    · rw [z] at h; grind
    · have : 0 < -x := by grind
      have := Rat.mul_pos hm this
      grind
theorem nn_of {m x : Rat} (hm : 0 < m) (h : 0 ≤ m * x) : 0 ≤ x := by
  by_cases c : 0 ≤ x
  · exact c
  · exfalso
    have : 0 < -x := by grind
    have := Rat.mul_pos hm this
    grind
theorem satB_of {m x : Rat} {st : Bool} (hm : 0 < m) (h : SatB st (m * x)) : SatB st x := by
  unfold SatB at *
  split at h
  · rename_i c; rw [if_pos c]; exact pos_of hm h
  · rename_i c; rw [if_neg c]; exact nn_of hm h
theorem satB_mul {m x : Rat} {st : Bool} (hm : 0 < m) (h : SatB st x) : SatB st (m * x) := by
  unfold SatB at *
  split at h
  · rename_i c; rw [if_pos c]; exact Rat.mul_pos hm h
  · rename_i c; rw [if_neg c]; exact Rat.mul_nonneg (by grind) h
theorem cast_pos {a : Int} (h : 0 < a) : (0 : Rat) < (a : Rat) := by exact_mod_cast h
theorem cast_neg {a : Int} (h : a < 0) : (a : Rat) < 0 := by exact_mod_cast h
theorem f_bd {f : Row → Rat} {ax : Nat} {r : Row} (h : vat r.v ax ≠ 0) : f r = -((vat r.v ax : Rat) * bd f ax r) := by
  unfold bd
  have : (vat r.v ax : Rat) ≠ 0 := fun z => h (by exact_mod_cast z)
  grind
theorem back {R : List Row} {f : Row → Rat} {ax : Nat} {t : Rat} (hf : ∀ x y, f (joinR ax x y) = (-(vat y.v ax : Rat)) * f x + (vat x.v ax : Rat) * f y) (hs : ∀ r ∈ without ax R, SatB r.st (f r)) (ht : Cho R f ax t) :
    ∀ r ∈ R, SatB r.st (f r + (vat r.v ax : Rat) * t) := by
  have pair : ∀ x ∈ R, 0 < vat x.v ax → ∀ y ∈ R, vat y.v ax < 0 → SatB (x.st || y.st) (bd f ax y - bd f ax x) := fun x hx px y hy py => by
    have h := hs (joinR ax x y) (mem_without.mpr (.inr ⟨x, ⟨hx, px⟩, y, ⟨hy, py⟩, rfl⟩))
    have h : SatB (x.st || y.st) (f (joinR ax x y)) := h
    rw [hf, f_bd (f := f) (ax := ax) (r := x) (by omega), f_bd (f := f) (ax := ax) (r := y) (by omega)] at h
    have cx := cast_pos px
    have cy := cast_neg py
    have m : (0 : Rat) < (vat x.v ax : Rat) * (-(vat y.v ax : Rat)) := Rat.mul_pos cx (by grind)
    refine satB_of m ?_
    have e : (vat x.v ax : Rat) * (-(vat y.v ax : Rat)) * (bd f ax y - bd f ax x) = -(vat y.v ax : Rat) * -((vat x.v ax : Rat) * bd f ax x) + (vat x.v ax : Rat) * -((vat y.v ax : Rat) * bd f ax y) := by grind
    rw [e]; exact h
  intro r hr
  rcases Int.lt_trichotomy (vat r.v ax) 0 with c | c | c
  · rw [f_bd (f := f) (ax := ax) (r := r) (by omega)]
    have cr := cast_neg c
    have e : -((vat r.v ax : Rat) * bd f ax r) + (vat r.v ax : Rat) * t = (-(vat r.v ax : Rat)) * (bd f ax r - t) := by grind
    rw [e]
    refine satB_mul (by grind) ?_
    cases ht with
    | up h1 _ => exact absurd c (h1 r hr)
    | mid lo hi l1 l2 l3 h1 h2 h3 et =>
      have p1 := pair lo l1 l2 r hr c
      have p2 := satB_le (pair lo l1 l2 hi h1 h2)
      have q := h3 r hr c
      unfold SatB at *
      cases hst : r.st with
      | false => rw [if_neg (by simp)]; grind
      | true =>
        rw [hst, Bool.or_true, if_pos rfl] at p1
        rw [if_pos rfl]; grind
  · have h := hs r (mem_without.mpr (.inl ⟨hr, c⟩))
    rw [c]
    have e : f r + ((0 : Int) : Rat) * t = f r := by
      have : ((0 : Int) : Rat) = 0 := rfl
      rw [this]; grind
    rw [e]; exact h
  · rw [f_bd (f := f) (ax := ax) (r := r) (by omega)]
    have cr := cast_pos c
    have e : -((vat r.v ax : Rat) * bd f ax r) + (vat r.v ax : Rat) * t = (vat r.v ax : Rat) * (t - bd f ax r) := by grind
    rw [e]
    refine satB_mul cr ?_
    cases ht with
    | up _ h2 =>
      have := h2 r hr c
      unfold SatB
      split <;> grind
    | mid lo hi l1 l2 l3 h1 h2 h3 et =>
      have p1 := pair r hr c hi h1 h2
      have p2 := satB_le (pair lo l1 l2 hi h1 h2)
      have q := l3 r hr c
      unfold SatB at *
      cases hst : r.st with
      | false => rw [if_neg (by simp)]; grind
      | true =>
        rw [hst, Bool.true_or, if_pos rfl] at p1
        rw [if_pos rfl]; grind
/-! ### three axes -/
def f0 (r : Row) : Rat := 0
def f1 (x : Rat) (r : Row) : Rat := (vat r.v 0 : Rat) * x
def f2 (x y : Rat) (r : Row) : Rat := (vat r.v 0 : Rat) * x + (vat r.v 1 : Rat) * y
def f3 (x y z : Rat) (r : Row) : Rat := (vat r.v 0 : Rat) * x + (vat r.v 1 : Rat) * y + (vat r.v 2 : Rat) * z
theorem vat_joinR {ax i : Nat} {x y : Row} : (vat (joinR ax x y).v i : Rat) = (-(vat y.v ax : Rat)) * (vat x.v i : Rat) + (vat x.v ax : Rat) * (vat y.v i : Rat) := by
  rw [vat_join, Rat.intCast_add, Rat.intCast_mul, Rat.intCast_mul, Rat.intCast_neg]
theorem three {ws : List V3} {k : Nat} {x y z : Rat} (h : ∀ r ∈ lay3 ws k, r.st = false) (h0 : Cho (lay2 ws k) f0 0 x) (h1 : Cho (lay1 ws k) (f1 x) 1 y) (h2 : Cho (firstRows ws k) (f2 x y) 2 z) : ∀ r ∈ firstRows ws k, SatB r.st (f3 x y z r) := by
  have s2 : ∀ r ∈ lay2 ws k, SatB r.st (f1 x r) := fun r hr => by
    have := back (f := f0) (fun a b => by unfold f0; grind) (fun r hr => by
      rw [h r hr]; unfold SatB f0; simp) h0 r hr
    have e : f0 r + (vat r.v 0 : Rat) * x = f1 x r := by unfold f0 f1; grind
    rwa [e] at this
  have s1 : ∀ r ∈ lay1 ws k, SatB r.st (f2 x y r) := fun r hr => back (f := f1 x) (fun a b => by unfold f1; rw [vat_joinR]; grind) s2 h1 r hr
  exact fun r hr => back (f := f2 x y) (fun a b => by unfold f2; rw [vat_joinR, vat_joinR]; grind) s1 h2 r hr
/-! ### paces, papers -/
def timeV (u p : V3) : Int := u.1 * p.1 + u.2.1 * p.2.1 + u.2.2 * p.2.2
def Least (ws : List V3) (k : Nat) (p : V3) : Prop := (0 < p.1 ∧ 0 < p.2.1 ∧ 0 < p.2.2) ∧ ∀ u ∈ ws, timeV (wk ws k) p ≤ timeV u p
def told (w : List Int) (ws : List V3) (i : Nat) : Int := (List.zipWith (fun n (u : V3) => n * vat u i) w ws).sum
def Worse (ws : List V3) (k : Nat) (w : List Int) : Prop := w.length = ws.length ∧ (∀ x ∈ w, 0 ≤ x) ∧ (∀ i, i < 3 → told w ws i ≤ w.sum * vat (wk ws k) i) ∧ ∃ i, i < 3 ∧ told w ws i ≠ w.sum * vat (wk ws k) i
theorem least_of {ws : List V3} {k : Nat} {x y z S : Rat} {p : V3} (h : ∀ r ∈ firstRows ws k, SatB r.st (f3 x y z r)) (hS : 0 < S) (e0 : (p.1 : Rat) = x * S) (e1 : (p.2.1 : Rat) = y * S) (e2 : (p.2.2 : Rat) = z * S) : Least ws k p := by
  have ax : ∀ i, i < 3 → 0 < f3 x y z (rowA ws.length i) := fun i hi => by
    have := h (rowA ws.length i) (List.mem_append_right _ (List.mem_map.mpr ⟨i, List.mem_range.mpr hi, rfl⟩))
    unfold SatB rowA at this
    exact this
  have p0 : 0 < x := by
    have := ax 0 (by omega)
    have e : f3 x y z (rowA ws.length 0) = (1 : Int) * x + (0 : Int) * y + (0 : Int) * z := rfl
    rw [e] at this
    have i1 : ((1 : Int) : Rat) = 1 := rfl
    have i0 : ((0 : Int) : Rat) = 0 := rfl
    grind
  have p1 : 0 < y := by
    have := ax 1 (by omega)
    have e : f3 x y z (rowA ws.length 1) = (0 : Int) * x + (1 : Int) * y + (0 : Int) * z := rfl
    rw [e] at this
    have i1 : ((1 : Int) : Rat) = 1 := rfl
    have i0 : ((0 : Int) : Rat) = 0 := rfl
    grind
  have p2 : 0 < z := by
    have := ax 2 (by omega)
    have e : f3 x y z (rowA ws.length 2) = (0 : Int) * x + (0 : Int) * y + (1 : Int) * z := rfl
    rw [e] at this
    have i1 : ((1 : Int) : Rat) = 1 := rfl
    have i0 : ((0 : Int) : Rat) = 0 := rfl
    grind
  have pos : ∀ {a : Int} {r : Rat}, 0 < r → (a : Rat) = r * S → 0 < a := fun {a r} hr e => by
    have := Rat.mul_pos hr hS
    rw [← e] at this
    exact_mod_cast this
  refine ⟨⟨pos p0 e0, pos p1 e1, pos p2 e2⟩, fun u hu => ?_⟩
  obtain ⟨j, hj, rfl⟩ := List.getElem_of_mem hu
  have ej : ws[j] = wk ws j := by simp [wk, List.getD_eq_getElem?_getD, hj]
  rw [ej]
  by_cases c : j = k
  · rw [c]; omega
  · have := h (rowJ ws k j) (List.mem_append_left _ (List.mem_flatMap.mpr ⟨j, List.mem_range.mpr hj, by rw [if_neg c]; exact List.mem_singleton.mpr rfl⟩))
    have s : 0 ≤ f3 x y z (rowJ ws k j) := satB_le this
    have e : f3 x y z (rowJ ws k j) * S = ((timeV (wk ws j) p - timeV (wk ws k) p : Int) : Rat) := by
      show (((wk ws j).1 - (wk ws k).1 : Int) * x + ((wk ws j).2.1 - (wk ws k).2.1 : Int) * y + ((wk ws j).2.2 - (wk ws k).2.2 : Int) * z : Rat) * S = _
      unfold timeV
      simp only [Rat.intCast_sub, Rat.intCast_add, Rat.intCast_mul, e0, e1, e2]
      grind
    have m := Rat.mul_nonneg s (show 0 ≤ S by grind)
    rw [e] at m
    have m : (0 : Int) ≤ timeV (wk ws j) p - timeV (wk ws k) p := by exact_mod_cast m
    omega
theorem comb_told {k : V3} {i : Nat} : ∀ {w : List Int} {ws : List V3}, w.length = ws.length → comb w ws k i = told w ws i - w.sum * vat k i
  | [], [], _ => by simp [comb, told]
  | x :: w, u :: ws, h => by
    have ih := comb_told (k := k) (i := i) (w := w) (ws := ws) (by simpa using h)
    unfold comb told at *
    simp only [List.zipWith_cons_cons, List.sum_cons]
    rw [ih]
    grind
theorem worse_of {ws : List V3} {k : Nat} {r : Row} (h : r ∈ lay3 ws k) (hs : r.st = true) : Worse ws k r.w := by
  obtain ⟨m, z⟩ := mk_lay3 r h
  obtain ⟨c, hc, sc⟩ := m.cs
  have e : ∀ i, told r.w ws i - r.w.sum * vat (wk ws k) i + vat c i = 0 := fun i => by
    have := (hc i).2
    rw [z, comb_told m.len] at this
    omega
  refine ⟨m.len, m.nn, fun i _ => by have := e i; have := (hc i).1; omega, ?_⟩
  have p := sc hs
  have c0 : 0 ≤ c.1 := (hc 0).1
  have c1 : 0 ≤ c.2.1 := (hc 1).1
  have c2 : 0 ≤ c.2.2 := (hc 2).1
  by_cases k0 : 0 < c.1
  · exact ⟨0, by omega, fun q => by have := e 0; have : vat c 0 = c.1 := rfl; omega⟩
  · by_cases k1 : 0 < c.2.1
    · exact ⟨1, by omega, fun q => by have := e 1; have : vat c 1 = c.2.1 := rfl; omega⟩
    · exact ⟨2, by omega, fun q => by have := e 2; have : vat c 2 = c.2.2 := rfl; omega⟩
theorem wsum {k p : V3} : ∀ {w : List Int} {ws : List V3}, w.length = ws.length → (∀ x ∈ w, 0 ≤ x) → (∀ u ∈ ws, timeV k p ≤ timeV u p) → 0 ≤ comb w ws k 0 * p.1 + comb w ws k 1 * p.2.1 + comb w ws k 2 * p.2.2
  | [], [], _, _, _ => by simp [comb]
  | x :: w, u :: ws, h, hw, hu => by
    have ih := wsum (k := k) (p := p) (w := w) (ws := ws) (by simpa using h) (fun y hy => hw y (List.mem_cons_of_mem _ hy)) fun v hv => hu v (List.mem_cons_of_mem _ hv)
    have e : ∀ i, comb (x :: w) (u :: ws) k i = x * (vat u i - vat k i) + comb w ws k i := fun i => by simp [comb]
    rw [e, e, e]
    have t := hu u List.mem_cons_self
    have m := Int.mul_nonneg (hw x List.mem_cons_self) (show 0 ≤ timeV u p - timeV k p by omega)
    have q : x * (timeV u p - timeV k p) = x * (vat u 0 - vat k 0) * p.1 + x * (vat u 1 - vat k 1) * p.2.1 + x * (vat u 2 - vat k 2) * p.2.2 := by
      show x * ((u.1 * p.1 + u.2.1 * p.2.1 + u.2.2 * p.2.2) - (k.1 * p.1 + k.2.1 * p.2.1 + k.2.2 * p.2.2)) = x * (u.1 - k.1) * p.1 + x * (u.2.1 - k.2.1) * p.2.1 + x * (u.2.2 - k.2.2) * p.2.2
      grind
    rw [q] at m
    grind
theorem never {ws : List V3} {k : Nat} {p : V3} {w : List Int} (hl : Least ws k p) (hw : Worse ws k w) : False := by
  obtain ⟨⟨p0, p1, p2⟩, hl⟩ := hl
  obtain ⟨len, nn, le, i, hi, ne⟩ := hw
  have s := wsum (p := p) len nn hl
  have c : ∀ i, i < 3 → comb w ws (wk ws k) i ≤ 0 := fun i hi => by have := le i hi; rw [comb_told len]; omega
  have c0 := c 0 (by omega)
  have c1 := c 1 (by omega)
  have c2 := c 2 (by omega)
  have n : comb w ws (wk ws k) i < 0 := by have := le i hi; rw [comb_told len]; omega
  have m0 := Int.mul_nonneg (show 0 ≤ -comb w ws (wk ws k) 0 by omega) (Int.le_of_lt p0)
  have m1 := Int.mul_nonneg (show 0 ≤ -comb w ws (wk ws k) 1 by omega) (Int.le_of_lt p1)
  have m2 := Int.mul_nonneg (show 0 ≤ -comb w ws (wk ws k) 2 by omega) (Int.le_of_lt p2)
  rw [Int.neg_mul] at m0 m1 m2
  rcases (by omega : i = 0 ∨ i = 1 ∨ i = 2) with rfl | rfl | rfl
  · have := Int.mul_pos (show 0 < -comb w ws (wk ws k) 0 by omega) p0
    rw [Int.neg_mul] at this
    omega
  · have := Int.mul_pos (show 0 < -comb w ws (wk ws k) 1 by omega) p1
    rw [Int.neg_mul] at this
    omega
  · have := Int.mul_pos (show 0 < -comb w ws (wk ws k) 2 by omega) p2
    rw [Int.neg_mul] at this
    omega
end PV.K22
set_option maxRecDepth 100000
set_option maxHeartbeats 4000000
namespace PV.K22
open PySem PV
def v3D (v : V3) : D := .tup [.int v.1, .int v.2.1, .int v.2.2]
def rwD (r : Row) : D := .tup [v3D r.v, .bl r.st, .tup (r.w.map D.int)]
def wsD (ws : List V3) : D := .tup (ws.map v3D)
structure RB (b : Nat) (r : Row) : Prop where
  v : ∀ i, Bt b (vat r.v i)
  w : ∀ x ∈ r.w, Bt b x
section
variable {n : Nat} {s : Sto} {ws : List V3} {k : Nat}
theorem idx_vat {v : V3} {ax : Nat} (h : ax < 3) : idxD (v3D v) (.int ax) = some (.int (vat v ax)) := by
  rcases (by omega : ax = 0 ∨ ax = 1 ∨ ax = 2) with rfl | rfl | rfl
  · exact idx_0
  · exact idx_1
  · exact idx_2
theorem zip_ints {a b : List Int} : zip? (.tup (a.map D.int)) (.tup (b.map D.int)) = some ((a.zip b).map fun p => .tup [.int p.1, .int p.2]) := by
  show some (List.zipWith _ (a.map D.int) (b.map D.int)) = _
  congr 1
  induction a generalizing b with
  | nil => simp
  | cons x a ih => cases b with
    | nil => simp
    | cons y b => simp [ih]
theorem zip_v3 {a b : V3} : zip? (v3D a) (v3D b) = some ([(a.1, b.1), (a.2.1, b.2.1), (a.2.2, b.2.2)].map fun p => .tup [.int p.1, .int p.2]) := rfl
theorem zip_with {f : Int → Int → Int} {a b : List Int} : (a.zip b).map (fun p => D.int (f p.1 p.2)) = (List.zipWith f a b).map D.int := by
  induction a generalizing b with
  | nil => simp
  | cons x a ih => cases b with
    | nil => simp
    | cons y b => simp [ih]
theorem e_less3 {a b : V3} (hn : 1 ≤ n) : callF fs gs n 8 [v3D a, v3D b] s = .ok (v3D (less3 a b)) s := by
  obtain ⟨m, rfl, hm⟩ := sc hn
  rw [call_at (f := c_less_work) rfl rfl]
  have e : ∀ env, env = [some (SV.val (v3D a)), some (.val (v3D b)), none, none] → evF (callF fs gs m) gs (.cp1 (.bin .sub (.var 2) (.var 3)) (.tp (.c (.nm 2) (.c (.nm 3) .nil))) (.zip (.var 0) (.var 1)) .n [2, 3]) env s = .ok ([(a.1, b.1), (a.2.1, b.2.1), (a.2.2, b.2.2)].map fun p => D.int (p.1 - p.2)) s := by
    rintro env rfl
    refine cp1_map (xs := [(a.1, b.1), (a.2.1, b.2.1), (a.2.2, b.2.2)]) (mk := fun p => D.tup [.int p.1, .int p.2]) (by simp [zip_v3]) (fun p hp => ⟨_, rfl, ?_⟩) (by show 3 ≤ 16777216; omega)
    simp [noOwn, wipeE]
  have e1 := e _ rfl
  have e1 : evF (callF fs gs m) gs (.cp1 (.bin .sub (.var 2) (.var 3)) (.tp (.c (.nm 2) (.c (.nm 3) .nil))) (.zip (.var 0) (.var 1)) .n [2, 3]) [some (SV.val (v3D a)), some (.val (v3D b)), none, none] s = .ok [.int (a.1 - b.1), .int (a.2.1 - b.2.1), .int (a.2.2 - b.2.2)] s := e1
  have ev : D.tup [.int (a.1 - b.1), .int (a.2.1 - b.2.1), .int (a.2.2 - b.2.2)] = v3D (less3 a b) := rfl
  rw [← ev]
  generalize [D.int (a.1 - b.1), .int (a.2.1 - b.2.1), .int (a.2.2 - b.2.2)] = L at *
  simp [c_less_work, startE, List.replicate, frzR, e1]
/-! ### rows joined -/
theorem e_join {ax b : Nat} {x y : Row} (hx : RB b x) (hy : RB b y) (ha : ax < 3) (hb : b ≤ 1000) (hl : x.w.length ≤ 1000) (hn : 1 ≤ n) : callF fs gs n 10 [rwD x, rwD y, .int ax] s = .ok (rwD (joinR ax x y)) s := by
  obtain ⟨m, rfl, hm⟩ := sc hn
  rw [call_at (f := c_joined_row) rfl rfl]
  have i1 := idx_vat (v := x.v) ha
  have i2 := idx_vat (v := y.v) ha
  have A : Bt b (-(vat y.v ax)) := (hy.v ax).neg
  have B := hx.v ax
  have ix : ∀ r : Row, idxD (rwD r) (.int 0) = some (v3D r.v) := fun r => idx_0
  have i1x : ∀ r : Row, idxD (rwD r) (.int 1) = some (.bl r.st) := fun r => idx_1
  have i2x : ∀ r : Row, idxD (rwD r) (.int 2) = some (.tup (r.w.map D.int)) := fun r => idx_2
  have dr : ∀ r : Row, deref s (rwD r) = rwD r := fun _ => rfl
  have dv : ∀ v : V3, deref s (v3D v) = v3D v := fun _ => rfl
  have key : ∀ (e0 : Ex) (ps : List (Int × Int)) (env : Env), env.length = 8 → At env 3 (.int (-(vat y.v ax))) → At env 4 (.int (vat x.v ax)) → (∀ p ∈ ps, Bt b p.1 ∧ Bt b p.2) → ps.length ≤ 1000 → ∀ (f0 : Ex), evI (callF fs gs m) gs true (.zip e0 f0) env s = .ok (ps.map fun p => D.tup [.int p.1, .int p.2]) s →
      evF (callF fs gs m) gs (.cp1 (.bin .add (.bin .mul (.var 3) (.var 6)) (.bin .mul (.var 4) (.var 7))) (.tp (.c (.nm 6) (.c (.nm 7) .nil))) (.zip e0 f0) .n [6, 7]) env s = .ok (ps.map fun p => D.int (-(vat y.v ax) * p.1 + vat x.v ax * p.2)) s := by
    intro e0 ps env hlen h3 h4 hps hz f0 ez
    refine cp1_map (xs := ps) (mk := fun p => D.tup [.int p.1, .int p.2]) ez (fun p hp => ⟨(((wipeE (noOwn env) [6, 7]).set 6 (some (.val (.int p.1)))).set 7 (some (.val (.int p.2)))), by simp, ?_⟩) (by show _ ≤ 16777216; omega)
    have q3 : At (((wipeE (noOwn env) [6, 7]).set 6 (some (.val (.int p.1)))).set 7 (some (.val (.int p.2)))) 3 (.int (-(vat y.v ax))) := by
      simp only [wipeE]
      exact (((h3.no.ne (by omega)).ne (by omega)).ne (by omega)).ne (by omega)
    have q4 : At (((wipeE (noOwn env) [6, 7]).set 6 (some (.val (.int p.1)))).set 7 (some (.val (.int p.2)))) 4 (.int (vat x.v ax)) := by
      simp only [wipeE]
      exact (((h4.no.ne (by omega)).ne (by omega)).ne (by omega)).ne (by omega)
    have q6 : At (((wipeE (noOwn env) [6, 7]).set 6 (some (.val (.int p.1)))).set 7 (some (.val (.int p.2)))) 6 (.int p.1) := (atS (by simp [wipeE, noOwn, hlen])).ne (by omega)
    have q7 : At (((wipeE (noOwn env) [6, 7]).set 6 (some (.val (.int p.1)))).set 7 (some (.val (.int p.2)))) 7 (.int p.2) := atS (by simp [wipeE, noOwn, hlen])
    generalize ((wipeE (noOwn env) [6, 7]).set 6 (some (SV.val (.int p.1)))).set 7 (some (.val (.int p.2))) = env2 at *
    have m1 := mul_bt A (hps p hp).1 (by omega)
    have m2 := mul_bt B (hps p hp).2 (by omega)
    simp [q3, q4, q6, q7, m1, m2, -bin_mul]
  have bv : ∀ p ∈ [(x.v.1, y.v.1), (x.v.2.1, y.v.2.1), (x.v.2.2, y.v.2.2)], Bt b p.1 ∧ Bt b p.2 := fun p hp => by
    simp only [List.mem_cons, List.not_mem_nil, or_false] at hp
    rcases hp with rfl | rfl | rfl
    · exact ⟨hx.v 0, hy.v 0⟩
    · exact ⟨hx.v 1, hy.v 1⟩
    · exact ⟨hx.v 2, hy.v 2⟩
  have bw : ∀ p ∈ x.w.zip y.w, Bt b p.1 ∧ Bt b p.2 := fun p hp => ⟨hx.w _ (List.of_mem_zip hp).1, hy.w _ (List.of_mem_zip hp).2⟩
  have k1 := key (.idx (.var 0) (.int 0)) _ [some (SV.val (rwD x)), some (.val (rwD y)), some (.val (.int ax)), some (.val (.int (-(vat y.v ax)))), some (.val (.int (vat x.v ax))), none, none, none] rfl rfl rfl bv (by simp) (.idx (.var 1) (.int 0)) (by simp [ix, dr, zip_v3])
  have k2 := key (.idx (.var 0) (.int 2)) _ [some (SV.val (rwD x)), some (.val (rwD y)), some (.val (.int ax)), some (.val (.int (-(vat y.v ax)))), some (.val (.int (vat x.v ax))), some (.val (v3D (joinR ax x y).v)), none, none] rfl rfl rfl bw (by rw [List.length_zip]; omega) (.idx (.var 1) (.int 2)) (by simp [i2x, dr, zip_ints])
  have ev : D.tup ([(x.v.1, y.v.1), (x.v.2.1, y.v.2.1), (x.v.2.2, y.v.2.2)].map fun p => D.int (-(vat y.v ax) * p.1 + vat x.v ax * p.2)) = v3D (joinR ax x y).v := rfl
  rw [zip_with (f := fun p q => -(vat y.v ax) * p + vat x.v ax * q)] at k2
  have ew : D.tup [v3D (joinR ax x y).v, .bl (x.st || y.st), .tup ((List.zipWith (fun p q => -(vat y.v ax) * p + vat x.v ax * q) x.w y.w).map D.int)] = rwD (joinR ax x y) := rfl
  rw [← ew]
  generalize v3D (joinR ax x y).v = VV at *
  generalize ([(x.v.1, y.v.1), (x.v.2.1, y.v.2.1), (x.v.2.2, y.v.2.2)].map fun p => D.int (-(vat y.v ax) * p.1 + vat x.v ax * p.2)) = LV at *
  generalize (List.zipWith (fun p q => -(vat y.v ax) * p + vat x.v ax * q) x.w y.w).map D.int = LW at *
  generalize hA : -(vat y.v ax) = NA at *
  generalize hB : vat x.v ax = NB at *
  generalize hst : (x.st || y.st) = ST at *
  have eo : (if x.st = true then Out.ok (D.bl x.st) s else .ok (.bl y.st) s) = .ok (.bl ST) s := by
    rw [← hst]; cases x.st <;> rfl
  have hnA : -(vat y.v ax) = NA := hA
  cases hxs : x.st with
  | true =>
    have : ST = true := by rw [← hst, hxs]; rfl
    subst this
    simp [c_joined_row, startE, List.replicate, frzR, ix, i1x, dr, dv, i1, i2, hA, k1, k2, ev, hxs]
  | false =>
    have : ST = y.st := by rw [← hst, hxs]; rfl
    subst this
    simp [c_joined_row, startE, List.replicate, frzR, ix, i1x, dr, dv, i1, i2, hA, k1, k2, ev, hxs]
theorem RB.join {ax b : Nat} {x y : Row} (hx : RB b x) (hy : RB b y) : RB (b + b + 1) (joinR ax x y) := by
  refine ⟨fun i => ?_, ?_⟩
  · rw [vat_join]
    exact (((hy.v ax).neg.mul (hx.v i)).add2 ((hx.v ax).mul (hy.v i))).up (by omega)
  · have A := (hy.v ax).neg
    have B := hx.v ax
    show ∀ z ∈ List.zipWith (fun p q => -(vat y.v ax) * p + vat x.v ax * q) x.w y.w, Bt (b + b + 1) z
    have hx := hx.w
    have hy := hy.w
    generalize -(vat y.v ax) = p at *
    generalize vat x.v ax = q at *
    generalize x.w = w1 at *
    generalize y.w = w2 at *
    induction w1 generalizing w2 with
    | nil => simp
    | cons a w1 ih => cases w2 with
      | nil => simp
      | cons c w2 =>
        intro z hz
        rw [List.zipWith_cons_cons] at hz
        rcases List.mem_cons.mp hz with rfl | hz
        · exact ((A.mul (hx a List.mem_cons_self)).add2 (B.mul (hy c List.mem_cons_self))).up (by omega)
        · exact ih (fun x h => hx x (List.mem_cons_of_mem _ h)) w2 (fun x h => hy x (List.mem_cons_of_mem _ h)) z hz
theorem RB.up {a b : Nat} {r : Row} (h : RB a r) (hab : a ≤ b) : RB b r := ⟨fun i => (h.v i).up hab, fun x hx => (h.w x hx).up hab⟩
theorem rb_without {ax b : Nat} {R : List Row} (h : ∀ r ∈ R, RB b r) : ∀ r ∈ without ax R, RB (b + b + 1) r := fun r hr => by
  rcases mem_without.mp hr with hr | ⟨x, hx, y, hy, rfl⟩
  · exact (h r hr.1).up (by omega)
  · exact (h x hx.1).join (h y hy.1)
/-! ### a row among rows -/
theorem nob_v3 {v : V3} : nob? (v3D v) = true := rfl
theorem nob_w {w : List Int} : nob? (.tup (w.map D.int)) = true := by
  show nobs? (w.map D.int) = true
  exact nobs_of fun d hd => by obtain ⟨i, _, rfl⟩ := List.mem_map.mp hd; rfl
theorem dep_w {w : List Int} : dep (.tup (w.map D.int)) ≤ 1 := by
  show deps (w.map D.int) + 1 ≤ 1
  have := deps_of (k := 0) (ds := w.map D.int) fun d hd => by obtain ⟨i, _, rfl⟩ := List.mem_map.mp hd; exact Nat.le_refl _
  omega
theorem tri_lay {V W : D} {st : Bool} (a1 : pure? V = true) (b1 : pure? W = true) (a2 : (toPy V).canLay0 = true) (b2 : (toPy W).canLay0 = true) (a3 : (toPy V).depth ≤ 2) (b3 : (toPy W).depth ≤ 2) : pure? (.tup [V, .bl st, W]) = true ∧ (toPy (.tup [V, .bl st, W])).canLay0 = true ∧ (toPy (.tup [V, .bl st, W])).depth ≤ 3 := by
  refine ⟨by simp [pure?, pures?, a1, b1], by simp [toPy, toPys, PyData.canLay0, PyData.canLayAll0, a2, b2], ?_⟩
  simp only [toPy, toPys, PyData.depth, PyData.depthAll]
  omega
theorem row_lay (r : Row) : pure? (rwD r) = true ∧ (toPy (rwD r)).canLay0 = true ∧ (toPy (rwD r)).depth ≤ 3 := by
  obtain ⟨a1, a2, a3⟩ := pure_nob (nob_v3 (v := r.v))
  obtain ⟨b1, b2, b3⟩ := pure_nob (nob_w (w := r.w))
  have d1 : dep (v3D r.v) ≤ 1 := by simp [v3D, dep, deps]
  have d2 := dep_w (w := r.w)
  exact tri_lay a1 b1 a2 b2 (by omega) (by omega)
theorem rows_lay : ∀ {R : List Row}, pures? (R.map rwD) = true ∧ PyData.canLayAll0 (toPys (R.map rwD)) = true ∧ PyData.depthAll (toPys (R.map rwD)) ≤ 3
  | [] => ⟨rfl, rfl, by simp [toPys, PyData.depthAll]⟩
  | r :: R => by
    obtain ⟨a1, a2, a3⟩ := row_lay r
    obtain ⟨b1, b2, b3⟩ := rows_lay (R := R)
    refine ⟨by simp [pures?, a1, b1], by simp [toPys, PyData.canLayAll0, a2, b2], ?_⟩
    simp only [List.map_cons, toPys, PyData.depthAll]
    omega
theorem shp_row (r : Row) : shp (rwD r) = true := by
  obtain ⟨a, b, c⟩ := row_lay r
  have : (toPy (rwD r)).depth ≤ 64 := by omega
  simp [shp, SeqAt.shaped, a, b, this]
theorem shp_rows {R : List Row} : shp (.lst (R.map rwD)) = true := by
  obtain ⟨a, b, c⟩ := rows_lay (R := R)
  have h1 : pure? (.lst (R.map rwD)) = true := by simpa [pure?] using a
  have h2 : (toPy (.lst (R.map rwD))).canLay0 = true := by simpa [toPy, PyData.canLay0] using b
  have h3 : (toPy (.lst (R.map rwD))).depth ≤ 64 := by simp only [toPy, PyData.depth]; omega
  simp [shp, SeqAt.shaped, h1, h2, h3]
theorem v3_inj {a b : V3} (h : v3D a = v3D b) : a = b := by
  obtain ⟨a1, a2, a3⟩ := a
  obtain ⟨b1, b2, b3⟩ := b
  cases h; rfl
theorem ints_inj : ∀ {a b : List Int}, a.map D.int = b.map D.int → a = b
  | [], [], _ => rfl
  | [], _ :: _, h => by cases h
  | _ :: _, [], h => by cases h
  | x :: a, y :: b, h => by
    rw [List.map_cons, List.map_cons] at h
    injection h with h1 h2
    cases h1
    rw [ints_inj h2]
theorem row_eqv {x y : Row} : PyData.eqv (toPy (rwD x)) (toPy (rwD y)) = true ↔ x = y := by
  have e1 := eqv_iff (nob_v3 (v := x.v)) (nob_v3 (v := y.v))
  have e2 := eqv_iff (nob_w (w := x.w)) (nob_w (w := y.w))
  have e0 : PyData.eqv (toPy (rwD x)) (toPy (rwD y)) = (PyData.eqv (toPy (v3D x.v)) (toPy (v3D y.v)) && (PyData.eqv (.bool x.st) (.bool y.st) && (PyData.eqv (toPy (.tup (x.w.map D.int))) (toPy (.tup (y.w.map D.int))) && true))) := by
    simp [rwD, toPy, toPys, PyData.eqv, PyData.eqvAll]
  rw [e0]
  have e3 : PyData.eqv (.bool x.st) (.bool y.st) = true ↔ x.st = y.st := by
    cases x.st <;> cases y.st <;> simp [PyData.eqv]
  rw [Bool.and_eq_true, Bool.and_eq_true, Bool.and_eq_true, e1, e2, e3]
  constructor
  · rintro ⟨h1, h2, h3, -⟩
    obtain ⟨xv, xs, xw⟩ := x
    obtain ⟨yv, ys, yw⟩ := y
    have h1 := v3_inj h1
    have h3 : xw = yw := ints_inj (by injection h3)
    simp only at h1 h2 h3
    rw [h1, h2, h3]
  · rintro rfl
    exact ⟨rfl, rfl, rfl, rfl⟩
theorem nin_rows {r : Row} {R : List Row} : cmpD .nin (rwD r) (.lst (R.map rwD)) = some (!decide (r ∈ R)) := by
  show (if shp (rwD r) = true ∧ shp (D.lst (R.map rwD)) = true then some ((toPys (R.map rwD)).any fun z => z.eqv (toPy (rwD r))) else none).map (!·) = _
  rw [if_pos ⟨shp_row r, shp_rows⟩]
  show some (!_) = _
  congr 2
  rw [toPys_map, List.map_map, Bool.eq_iff_iff, decide_eq_true_eq]
  simp only [List.any_map, List.any_eq_true, Function.comp]
  constructor
  · rintro ⟨y, hy, e⟩
    rw [row_eqv.mp e] at hy; exact hy
  · exact fun h => ⟨r, h, row_eqv.mpr rfl⟩
end
end PV.K22
set_option maxRecDepth 100000
set_option maxHeartbeats 4000000
namespace PV.K22
open PySem PV
section
variable {n : Nat} {s : Sto} {ws : List V3} {k ax b : Nat} {R : List Row}
def rwsD (R : List Row) : D := .lst (R.map rwD)
/-! ### an axis taken out -/
def bWi : Sms := (.c (.asg (.nm 5) (.call 10 (.c (.var 3) (.c (.var 4) (.c (.var 1) .nil))))) (.c (.ite (.cmp .nin (.var 5) (.var 2)) (.c (.app 2 (.var 5)) .nil) .nil) .nil))
def fxNeg : Fx := (.cp1 (.var 6) (.nm 6) (.seq (.var 0)) (.s (.cmp .lt (.idx (.idx (.var 6) (.int 0)) (.var 1)) (.int 0))) [6])
def fxPos : Fx := (.cp1 (.var 6) (.nm 6) (.seq (.var 0)) (.s (.cmp .gt (.idx (.idx (.var 6) (.int 0)) (.var 1)) (.int 0))) [6])
def fxZer : Fx := (.cp1 (.var 6) (.nm 6) (.seq (.var 0)) (.s (.cmp .eq (.idx (.idx (.var 6) (.int 0)) (.var 1)) (.int 0))) [6])
def bWo : Sms := (.c (.for (.nm 4) (.seq (.fz fxNeg)) bWi) .nil)
def EW (R : List Row) (ax : Nat) (acc : List Row) (o3 o4 o5 : Option SV) : Env := [some (.val (rwsD R)), some (.val (.int ax)), some (.own (acc.map rwD)), o3, o4, o5, none]
theorem filt_flat {α : Type} {p : α → Bool} {mk : α → D} {l : List α} : l.flatMap (fun x => if p x = true then [mk x] else []) = (l.filter p).map mk := by
  induction l with
  | nil => rfl
  | cons x l ih => by_cases h : p x = true <;> simp [h, ih]
theorem e_filt {p : Row → Bool} {c : Ex} {env : Env} (hax : ax < 3) (h0 : At env 0 (rwsD R)) (h1 : At env 1 (.int ax)) (hl : env.length = 7) (hz : R.length ≤ 1000000)
    (hc : ∀ r env2, At env2 6 (rwD r) → At env2 1 (.int ax) → ev (callF fs gs n) gs true c env2 s = .ok (.bl (p r)) s) :
    evF (callF fs gs n) gs (.cp1 (.var 6) (.nm 6) (.seq (.var 0)) (.s c) [6]) env s = .ok ((R.filter p).map rwD) s := by
  rw [← filt_flat]
  have hle : (R.flatMap fun x => if p x = true then [rwD x] else []).length ≤ LINE := by
    rw [filt_flat, List.length_map]
    have := List.length_filter_le p R
    show _ ≤ 16777216
    omega
  refine cp1_pure (xs := R) (mk := rwD) (by simp [h0, rwsD, items?]) (fun r hr => ?_) hle
  have q6 : At ((wipeE (noOwn env) [6]).set 6 (some (.val (rwD r)))) 6 (rwD r) := At.new (by omega)
  have q1 : At ((wipeE (noOwn env) [6]).set 6 (some (.val (rwD r)))) 1 (.int ax) := h1.inn (by omega)
  unfold turn1
  rw [bindT_nm]
  generalize (wipeE (noOwn env) [6]).set 6 (some (SV.val (rwD r))) = env2 at *
  have := hc r env2 q6 q1
  cases hp : p r with
  | true => rw [hp] at this; simp [this, q6]
  | false => rw [hp] at this; simp [this]
theorem rw_0 {r : Row} : idxD (rwD r) (.int 0) = some (v3D r.v) := idx_0
theorem rw_1 {r : Row} : idxD (rwD r) (.int 1) = some (.bl r.st) := idx_1
theorem rw_2 {r : Row} : idxD (rwD r) (.int 2) = some (.tup (r.w.map D.int)) := idx_2
theorem e_neg {env : Env} (hax : ax < 3) (h0 : At env 0 (rwsD R)) (h1 : At env 1 (.int ax)) (hl : env.length = 7) (hz : R.length ≤ 1000000) : evF (callF fs gs n) gs fxNeg env s = .ok ((neg ax R).map rwD) s :=
  e_filt hax h0 h1 hl hz fun r env2 q6 q1 => by
    have dr : ∀ s : Sto, deref s (rwD r) = rwD r := fun _ => rfl
    have dv : ∀ s : Sto, deref s (v3D r.v) = v3D r.v := fun _ => rfl
    simp [q6, q1, rw_0, idx_vat hax, dr, dv]
theorem e_pos {env : Env} (hax : ax < 3) (h0 : At env 0 (rwsD R)) (h1 : At env 1 (.int ax)) (hl : env.length = 7) (hz : R.length ≤ 1000000) : evF (callF fs gs n) gs fxPos env s = .ok ((pos ax R).map rwD) s :=
  e_filt hax h0 h1 hl hz fun r env2 q6 q1 => by
    have dr : ∀ s : Sto, deref s (rwD r) = rwD r := fun _ => rfl
    have dv : ∀ s : Sto, deref s (v3D r.v) = v3D r.v := fun _ => rfl
    simp [q6, q1, rw_0, idx_vat hax, dr, dv]
theorem e_zer {env : Env} (hax : ax < 3) (h0 : At env 0 (rwsD R)) (h1 : At env 1 (.int ax)) (hl : env.length = 7) (hz : R.length ≤ 1000000) : evF (callF fs gs n) gs fxZer env s = .ok ((zer ax R).map rwD) s :=
  e_filt hax h0 h1 hl hz fun r env2 q6 q1 => by
    have dr : ∀ s : Sto, deref s (rwD r) = rwD r := fun _ => rfl
    have dv : ∀ s : Sto, deref s (v3D r.v) = v3D r.v := fun _ => rfl
    simp [q6, q1, rw_0, idx_vat hax, dr, dv]
theorem wi_step {x y : Row} {acc : List Row} {o4 o5 : Option SV} (hx : RB b x) (hy : RB b y) (hax : ax < 3) (hb : b ≤ 1000) (hl : x.w.length ≤ 1000) (hz : acc.length < 16777216) (hn : 1 ≤ n) :
    stepF (callF fs gs n) gs (.nm 4) bWi (rwD y) (EW R ax acc (some (.val (rwD x))) o4 o5) s = .ok (.nx (EW R ax (addR acc (joinR ax x y)) (some (.val (rwD x))) (some (.val (rwD y))) (some (.val (rwD (joinR ax x y)))))) s := by
  have ej := e_join (n := n) (s := s) hx hy hax hb hl hn
  have ni := nin_rows (r := joinR ax x y) (R := acc)
  have dr : ∀ (s : Sto) (r : Row), deref s (rwD r) = rwD r := fun _ _ => rfl
  have hz' : acc.length < LINE := hz
  unfold stepF addR
  by_cases c : joinR ax x y ∈ acc
  · rw [decide_eq_true c] at ni
    rw [if_pos c]
    simp [bWi, EW, ej, ni, dr, borrows, isOwn]
  · rw [decide_eq_false c] at ni
    rw [if_neg c]
    simp [bWi, EW, ej, ni, dr, borrows, isOwn, chg, hz']
theorem wi_loop {x : Row} (hx : RB b x) (hax : ax < 3) (hb : b ≤ 1000) (hl : x.w.length ≤ 1000) (hn : 1 ≤ n) : ∀ {N acc : List Row} {o4 o5 : Option SV}, (∀ y ∈ N, RB b y) → acc.length + N.length < 16777216 →
    ∃ q4 q5, forF (stepF (callF fs gs n) gs (.nm 4) bWi) (N.map rwD) (EW R ax acc (some (.val (rwD x))) o4 o5) s = .ok (.nx (EW R ax (inner ax N acc x) (some (.val (rwD x))) q4 q5)) s
  | [], acc, o4, o5, _, _ => ⟨o4, o5, rfl⟩
  | y :: N, acc, o4, o5, h, hz => by
    rw [List.length_cons] at hz
    have l := len_addR (acc := acc) (r := joinR ax x y)
    obtain ⟨q4, q5, e⟩ := wi_loop hx hax hb hl hn (N := N) (acc := addR acc (joinR ax x y)) (o4 := some (.val (rwD y))) (o5 := some (.val (rwD (joinR ax x y)))) (fun z hz => h z (List.mem_cons_of_mem _ hz)) (by omega)
    exact ⟨q4, q5, by rw [List.map_cons, forF_cons, wi_step hx (h y List.mem_cons_self) hax hb hl (by omega) hn, nextL_nx, e]; rfl⟩
theorem wo_loop (hR : ∀ r ∈ R, RB b r ∧ r.w.length ≤ 1000) (hax : ax < 3) (hb : b ≤ 1000) (hz0 : R.length ≤ 1000000) (hn : 1 ≤ n) : ∀ {P acc : List Row} {o3 o4 o5 : Option SV}, (∀ x ∈ P, x ∈ R) → acc.length + P.length * (neg ax R).length < 16777216 →
    ∃ q3 q4 q5, forF (stepF (callF fs gs n) gs (.nm 3) bWo) (P.map rwD) (EW R ax acc o3 o4 o5) s = .ok (.nx (EW R ax (P.foldl (inner ax (neg ax R)) acc) q3 q4 q5)) s
  | [], acc, o3, o4, o5, _, _ => ⟨o3, o4, o5, rfl⟩
  | x :: P, acc, o3, o4, o5, h, hz => by
    rw [List.length_cons, Nat.add_mul] at hz
    have hx := hR x (h x List.mem_cons_self)
    have nb : ∀ y ∈ neg ax R, RB b y := fun y hy => (hR y (List.mem_filter.mp hy).1).1
    obtain ⟨q4, q5, e1⟩ := wi_loop (n := n) (s := s) (R := R) (o4 := o4) (o5 := o5) hx.1 hax hb hx.2 hn (N := neg ax R) (acc := acc) nb (by omega)
    have l := len_inner (ax := ax) (N := neg ax R) (x := x) (acc := acc)
    obtain ⟨p3, p4, p5, e2⟩ := wo_loop hR hax hb hz0 hn (P := P) (acc := inner ax (neg ax R) acc x) (o3 := some (.val (rwD x))) (o4 := q4) (o5 := q5) (fun z hz => h z (List.mem_cons_of_mem _ hz)) (by omega)
    refine ⟨p3, p4, p5, ?_⟩
    have en := e_neg (n := n) (s := s) (R := R) (env := EW R ax acc (some (.val (rwD x))) o4 o5) hax rfl rfl rfl hz0
    have e0 : stepF (callF fs gs n) gs (.nm 3) bWo (rwD x) (EW R ax acc o3 o4 o5) s = .ok (.nx (EW R ax (inner ax (neg ax R) acc x) (some (.val (rwD x))) q4 q5)) s := by
      unfold stepF
      have eb : bindT (.nm 3) (rwD x) (EW R ax acc o3 o4 o5) = some (EW R ax acc (some (.val (rwD x))) o4 o5) := by simp [EW]
      rw [eb]
      have ei : evI (callF fs gs n) gs false (.seq (.fz fxNeg)) (frzI (EW R ax acc (some (.val (rwD x))) o4 o5) (.seq (.fz fxNeg))) s = .ok ((neg ax R).map rwD) s := by
        have ef : frzI (EW R ax acc (some (.val (rwD x))) o4 o5) (.seq (.fz fxNeg)) = EW R ax acc (some (.val (rwD x))) o4 o5 := rfl
        rw [ef, evI_seq, ev_fz, en, ok_bind, ok_bind]
        rfl
      show execs (callF fs gs n) gs bWo (EW R ax acc (some (.val (rwD x))) o4 o5) s = _
      unfold bWo
      have ef : frzI (EW R ax acc (some (.val (rwD x))) o4 o5) (.seq (.fz fxNeg)) = EW R ax acc (some (.val (rwD x))) o4 o5 := rfl
      rw [execs_c, exec_for, ei, ok_bind, ef, e1, nextF_nx, execs_nil]
    rw [List.map_cons, forF_cons, e0, nextL_nx, e2]
    rfl
theorem e_without (hR : ∀ r ∈ R, RB b r ∧ r.w.length ≤ 1000) (hax : ax < 3) (hb : b ≤ 1000) (hz : R.length ≤ 2000) (hn : 2 ≤ n) : callF fs gs n 11 [rwsD R, .int ax] s = .ok (rwsD (without ax R)) s := by
  obtain ⟨m, rfl, hm⟩ := sc hn
  rw [call_at (f := c_rows_without) rfl rfl]
  have f3 := filt3 (ax := ax) (R := R)
  have hm2 : (pos ax R).length * (neg ax R).length ≤ 2000 * 2000 := Nat.mul_le_mul (by omega) (by omega)
  have eb : c_rows_without.body = .c (.own 2 fxZer) (.c (.for (.nm 3) (.seq (.fz fxPos)) bWo) (.c (.ret (.var 2)) .nil)) := rfl
  have es : startE c_rows_without.N.length [rwsD R, .int ax] = [some (SV.val (rwsD R)), some (.val (.int ax)), none, none, none, none, none] := rfl
  rw [eb, es]
  have ez := e_zer (n := m) (s := s) (R := R) (env := [some (SV.val (rwsD R)), some (.val (.int ax)), none, none, none, none, none]) hax rfl rfl rfl (by omega)
  have ep := e_pos (n := m) (s := s) (R := R) (env := EW R ax (zer ax R) none none none) hax rfl rfl rfl (by omega)
  obtain ⟨q3, q4, q5, e⟩ := wo_loop (n := m) (s := s) hR hax hb (by omega) hm (P := pos ax R) (acc := zer ax R) (o3 := none) (o4 := none) (o5 := none) (fun x hx => (List.mem_filter.mp hx).1) (by omega)
  have x0 : exec (callF fs gs m) gs (.own 2 fxZer) [some (SV.val (rwsD R)), some (.val (.int ax)), none, none, none, none, none] s = .ok (.nx (EW R ax (zer ax R) none none none)) s := by
    rw [exec_own, ez, ok_bind]; rfl
  have ef : frzI (EW R ax (zer ax R) none none none) (.seq (.fz fxPos)) = EW R ax (zer ax R) none none none := rfl
  have ei : evI (callF fs gs m) gs false (.seq (.fz fxPos)) (EW R ax (zer ax R) none none none) s = .ok ((pos ax R).map rwD) s := by
    rw [evI_seq, ev_fz, ep, ok_bind, ok_bind]; rfl
  rw [execs_c, x0, nextF_nx, execs_c, exec_for, ef, ei, ok_bind, e, nextF_nx]
  have ew : (pos ax R).foldl (inner ax (neg ax R)) (zer ax R) = without ax R := rfl
  rw [ew]
  simp [EW, frzR, rwsD]
/-! ### the first rows -/
theorem enL_rel {α : Type} {f : α → D} {d : α} : ∀ {l : List α} {a : Nat}, enL (a : Int) (l.map f) = (List.range l.length).map fun j => D.tup [.int ((a + j : Nat) : Int), f (l.getD j d)]
  | [], a => rfl
  | x :: l, a => by
    have ih := enL_rel (f := f) (d := d) (l := l) (a := a + 1)
    rw [List.length_cons, List.range_succ_eq_map, List.map_cons, List.map_cons, List.map_map]
    show D.tup [.int (a : Int), f x] :: enL ((a : Int) + 1) (l.map f) = _
    have e : ((a : Int) + 1) = ((a + 1 : Nat) : Int) := by omega
    rw [e, ih]
    congr 1
    refine List.map_congr_left fun j _ => ?_
    simp only [Function.comp]
    have e2 : a + 1 + j = a + (j + 1) := by omega
    rw [e2]
    rfl
theorem en_ws : enum? (wsD ws) = some ((List.range ws.length).map fun (j : Nat) => D.tup [.int (j : Int), v3D (wk ws j)]) := by
  unfold wsD
  rw [enum_tup]
  have := enL_rel (f := v3D) (d := (0, 0, 0)) (l := ws) (a := 0)
  have e : ((0 : Nat) : Int) = 0 := rfl
  rw [e] at this
  rw [this]
  congr 1
  refine List.map_congr_left fun j _ => ?_
  rw [Nat.zero_add]; rfl
theorem idx_ws (hk : k < ws.length) : idxD (wsD ws) (.int k) = some (v3D (wk ws k)) := idx_tup (by
  rw [List.getElem?_map]
  simp [wk, List.getD_eq_getElem?_getD, hk])
theorem len_ws : bltD .len [wsD ws] = some (.int ws.length) := by unfold wsD; rw [blt_len_tup, List.length_map]
def EF (ws : List V3) (k : Nat) (L : List D) (o : Option SV × Option SV × Option SV) : Env := [some (.val (wsD ws)), some (.val (.int k)), some (.own L), o.1, o.2.1, o.2.2, none]
def bF1 : Sms := (.c (.ite (.cmp .ne (.var 3) (.var 1)) (.c (.app 2 (.tup (.c (.call 8 (.c (.var 4) (.c (.idx (.var 0) (.var 1)) .nil))) (.c (.bl false) (.c (.blt .tup (.c (.fz (.cp1 (.ite (.cmp .eq (.var 6) (.var 3)) (.int 1) (.int 0)) (.nm 6) (.rg1 (.blt .len (.c (.var 0) .nil))) .n [6])) .nil)) .nil))))) .nil) .nil) .nil)
def bF2 : Sms := (.c (.app 2 (.tup (.c (.blt .tup (.c (.fz (.cp1 (.ite (.cmp .eq (.var 6) (.var 5)) (.int 1) (.int 0)) (.nm 6) (.rg1 (.gl 0)) .n [6])) .nil)) (.c (.bl true) (.c (.bin .mul (.tup (.c (.int 0) .nil)) (.blt .len (.c (.var 0) .nil))) .nil))))) .nil)
theorem e_unit {v j N : Nat} {src : Ex} {env : Env} (hv : v < 6) (h : At env v (.int j)) (hl : env.length = 7) (hN : N ≤ 1000) (hs : ev (callF fs gs n) gs true src env s = .ok (.int N) s) :
    evF (callF fs gs n) gs (.cp1 (.ite (.cmp .eq (.var 6) (.var v)) (.int 1) (.int 0)) (.nm 6) (.rg1 src) .n [6]) env s = .ok ((one1 N j).map D.int) s := by
  unfold one1
  rw [List.map_map]
  refine cp1_map (xs := List.range N) (mk := fun (i : Nat) => D.int i) (by simp [hs, rng1_nat (W := N) hN]) (fun i hi => ⟨_, bindT_nm, ?_⟩) (by rw [List.length_range]; show _ ≤ 16777216; omega)
  have q6 : At ((wipeE (noOwn env) [6]).set 6 (some (.val (.int (i : Int))))) 6 (.int (i : Int)) := At.new (by omega)
  have q1 : At ((wipeE (noOwn env) [6]).set 6 (some (.val (.int (i : Int))))) v (.int j) := h.inn (by omega)
  generalize (wipeE (noOwn env) [6]).set 6 (some (SV.val (.int (i : Int)))) = env2 at *
  by_cases c : i = j
  · subst c
    simp [q6, q1]
  · have c' : ¬ (i : Int) = (j : Int) := by omega
    simp [q6, q1, c, c']
theorem e_first (hk : k < ws.length) (hz : ws.length ≤ 100) (hn : 2 ≤ n) : callF fs gs n 9 [wsD ws, .int k] s = .ok (rwsD (firstRows ws k)) s := by
  obtain ⟨m, rfl, hm⟩ := sc hn
  rw [call_at (f := c_first_rows) rfl rfl]
  have eb : c_first_rows.body = .c (.own 2 (.dsp .nil)) (.c (.for (.tp (.c (.nm 3) (.c (.nm 4) .nil))) (.enm (.var 0)) bF1) (.c (.for (.nm 5) (.rg1 (.gl 0)) bF2) (.c (.ret (.var 2)) .nil))) := rfl
  have es : startE c_first_rows.N.length [wsD ws, .int k] = [some (SV.val (wsD ws)), some (.val (.int k)), none, none, none, none, none] := rfl
  rw [eb, es]
  have x0 : exec (callF fs gs m) gs (.own 2 (.dsp .nil)) [some (SV.val (wsD ws)), some (.val (.int k)), none, none, none, none, none] s = .ok (.nx (EF ws k [] (none, none, none))) s := by simp [EF]
  have ix := idx_ws hk
  have hlen := len_ws (ws := ws)
  have dw : ∀ s : Sto, deref s (wsD ws) = wsD ws := fun _ => rfl
  obtain ⟨o1, l1⟩ := forF_app (f := stepF (callF fs gs m) gs (.tp (.c (.nm 3) (.c (.nm 4) .nil))) bF1) (mk := fun (j : Nat) => D.tup [.int (j : Int), v3D (wk ws j)]) (E := EF ws k) (g := fun j => (if j = k then [] else [rowJ ws k j]).map rwD) (s := s) (M := 1000) (c := 1) (xs := List.range ws.length)
    (fun j hj acc o hacc => by
      have ha : acc.length < LINE := by show _ < 16777216; omega
      refine ⟨(some (.val (.int j)), some (.val (v3D (wk ws j))), o.2.2), ?_⟩
      have el := e_less3 (n := m) (s := s) (a := wk ws j) (b := wk ws k) hm
      have eu := e_unit (n := m) (s := s) (v := 3) (j := j) (N := ws.length) (src := .blt .len (.c (.var 0) .nil)) (env := EF ws k acc (some (.val (.int j)), some (.val (v3D (wk ws j))), o.2.2)) (by omega) rfl rfl (by omega) (by simp [EF, dw, hlen])
      unfold stepF
      by_cases c : j = k
      · subst c
        simp [bF1, EF]
      · have c' : ¬ (j : Int) = (k : Int) := by omega
        have er : D.tup [v3D (less3 (wk ws j) (wk ws k)), .bl false, .tup ((one1 ws.length j).map D.int)] = rwD (rowJ ws k j) := rfl
        rw [if_neg c, List.map_singleton, ← er]
        generalize (one1 ws.length j).map D.int = O at *
        simp only [EF] at eu
        simp [bF1, EF, c', ix, dw, el, eu, chg, ha, borrows, isOwn, -blt_len_tup]) (fun j hj => by by_cases c : j = k <;> simp [c]) [] (none, none, none) (by simp; omega)
  have ei : evI (callF fs gs m) gs false (.enm (.var 0)) (EF ws k [] (none, none, none)) s = .ok ((List.range ws.length).map fun (j : Nat) => D.tup [.int (j : Int), v3D (wk ws j)]) s := by
    simp [EF, en_ws]
  have ef : frzI (EF ws k [] (none, none, none)) (.enm (.var 0)) = EF ws k [] (none, none, none) := rfl
  have flat : ((List.range ws.length).flatMap fun j => (if j = k then [] else [rowJ ws k j]).map rwD) = ((List.range ws.length).flatMap fun j => if j = k then [] else [rowJ ws k j]).map rwD := by
    rw [List.map_flatMap]
  rw [List.nil_append, flat] at l1
  have lz : ((List.range ws.length).flatMap fun j => if j = k then [] else [rowJ ws k j]).length ≤ 100 := by
    have h : ∀ l : List Nat, (l.flatMap fun j => if j = k then [] else [rowJ ws k j]).length ≤ l.length := fun l => by
      induction l with
      | nil => simp
      | cons j l ih =>
        rw [List.flatMap_cons, List.length_append, List.length_cons]
        by_cases c : j = k
        · rw [if_pos c, List.length_nil]; omega
        · rw [if_neg c, List.length_singleton]; omega
    have := h (List.range ws.length)
    rw [List.length_range] at this
    omega
  obtain ⟨o2, l2⟩ := forF_app (f := stepF (callF fs gs m) gs (.nm 5) bF2) (mk := fun (i : Nat) => D.int i) (E := EF ws k) (g := fun i => [rwD (rowA ws.length i)]) (s := s) (M := 1000) (c := 1) (xs := List.range 3)
    (fun i hi acc o hacc => by
      have hi := List.mem_range.mp hi
      have ha : acc.length < LINE := by show _ < 16777216; omega
      refine ⟨(o.1, o.2.1, some (.val (.int i))), ?_⟩
      have eu := e_unit (n := m) (s := s) (v := 5) (j := i) (N := 3) (src := .gl 0) (env := EF ws k acc (o.1, o.2.1, some (.val (.int i)))) (by omega) rfl rfl (by omega) (by simp [gs])
      have mu := mul_tup0 (x := .int 0) (k := ws.length) (by omega)
      have er : D.tup [v3D (unit3 i), .bl true, .tup ((List.replicate ws.length 0).map D.int)] = rwD (rowA ws.length i) := rfl
      have ev : v3D (unit3 i) = .tup ((one1 3 i).map D.int) := rfl
      rw [List.map_replicate] at er
      unfold stepF
      rw [← er, ev]
      generalize (one1 3 i).map D.int = O at *
      simp only [EF] at eu
      simp [bF2, EF, dw, eu, chg, ha, mu, hlen, -blt_len_tup]) (fun i hi => by simp) (((List.range ws.length).flatMap fun j => if j = k then [] else [rowJ ws k j]).map rwD) o1 (by rw [List.length_map, List.length_range]; omega)
  have ei2 : ∀ L o, evI (callF fs gs m) gs false (.rg1 (.gl 0)) (EF ws k L o) s = .ok ((List.range 3).map fun (i : Nat) => D.int i) s := fun L o => by
    have r := rng1_nat (W := 3) (by omega)
    have r : rng1? (.int 3) = some ((List.range 3).map fun (i : Nat) => D.int i) := r
    have g0 : gs[0]? = some (.int 3) := rfl
    simp only [evI_rg1, ev_gl, g0, lift_some, ok_bind, r]
  have ef2 : ∀ L o, frzI (EF ws k L o) (.rg1 (.gl 0)) = EF ws k L o := fun _ _ => rfl
  have fin : ((List.range ws.length).flatMap fun j => if j = k then [] else [rowJ ws k j]).map rwD ++ (List.range 3).flatMap (fun i => [rwD (rowA ws.length i)]) = (firstRows ws k).map rwD := by
    unfold firstRows
    rw [List.map_append, flatMap_one, List.map_map]
    rfl
  rw [execs_c, x0, nextF_nx, execs_c, exec_for, ef, ei, ok_bind, l1, nextF_nx, execs_c, exec_for, ef2, ei2, ok_bind, l2, nextF_nx, fin]
  simp [EF, frzR, rwsD]
end
end PV.K22
set_option maxRecDepth 100000
set_option maxHeartbeats 4000000
namespace PV.K22
open PySem PV
section
variable {n : Nat} {s : Sto} {ws : List V3} {k ax b : Nat} {R : List Row}
/-- works of small numbers -/
structure WB (ws : List V3) : Prop where
  b : ∀ u ∈ ws, ∀ i, Bt 5 (vat u i)
  len : ws.length ≤ 6
theorem wk_mem (hk : k < ws.length) : wk ws k ∈ ws := by
  have e : wk ws k = ws[k] := by simp [wk, List.getD_eq_getElem?_getD, hk]
  rw [e]; exact List.getElem_mem hk
theorem rb_first (B : WB ws) (hk : k < ws.length) : ∀ r ∈ firstRows ws k, RB 6 r := fun r hr => by
  unfold firstRows at hr
  rcases List.mem_append.mp hr with hr | hr
  · obtain ⟨j, hj, hr⟩ := List.mem_flatMap.mp hr
    have hj := List.mem_range.mp hj
    by_cases c : j = k
    · rw [if_pos c] at hr; cases hr
    · rw [if_neg c, List.mem_singleton] at hr
      subst hr
      refine ⟨fun i => ?_, fun x hx => ?_⟩
      · show Bt 6 (vat (less3 _ _) i)
        rw [vat_less]
        exact (B.b _ (wk_mem hj) i).add2 (B.b _ (wk_mem hk) i).neg
      · obtain ⟨i, _, rfl⟩ := List.mem_map.mp hx
        split <;> (show _ < _; decide)
  · obtain ⟨a, ha, rfl⟩ := List.mem_map.mp hr
    have ha := List.mem_range.mp ha
    refine ⟨fun i => ?_, fun x hx => ?_⟩
    · show Bt 6 (vat (unit3 a) i)
      rcases (by omega : a = 0 ∨ a = 1 ∨ a = 2) with rfl | rfl | rfl <;> (unfold vat unit3; split <;> (try split) <;> (show _ < _; decide))
    · rw [List.eq_of_mem_replicate hx]; show _ < _; decide
theorem len_first : (firstRows ws k).length ≤ ws.length + 3 := by
  unfold firstRows
  have h : ∀ l : List Nat, (l.flatMap fun j => if j = k then [] else [rowJ ws k j]).length ≤ l.length := fun l => by
    induction l with
    | nil => simp
    | cons j l ih =>
      rw [List.flatMap_cons, List.length_append, List.length_cons]
      by_cases c : j = k
      · rw [if_pos c, List.length_nil]; omega
      · rw [if_neg c, List.length_singleton]; omega
  have := h (List.range ws.length)
  rw [List.length_append, List.length_map, List.length_range]
  rw [List.length_range] at this
  omega
theorem lays (B : WB ws) (hk : k < ws.length) : ((firstRows ws k).length ≤ 9 ∧ (lay1 ws k).length ≤ 29 ∧ (lay2 ws k).length ≤ 239 ∧ (lay3 ws k).length ≤ 15000) ∧
    (∀ r ∈ firstRows ws k, RB 6 r ∧ r.w.length ≤ 6) ∧ (∀ r ∈ lay1 ws k, RB 13 r ∧ r.w.length ≤ 6) ∧ (∀ r ∈ lay2 ws k, RB 27 r ∧ r.w.length ≤ 6) ∧ ∀ r ∈ lay3 ws k, RB 55 r ∧ r.w.length ≤ 6 := by
  have l0 := len_first (ws := ws) (k := k)
  have hl := B.len
  have l1 := len_without (ax := 2) (R := firstRows ws k) (N := 9) (by omega)
  have l1 : 4 * (lay1 ws k).length ≤ _ := l1
  have l2 := len_without (ax := 1) (R := lay1 ws k) (N := 29) (by omega)
  have l2 : 4 * (lay2 ws k).length ≤ _ := l2
  have l3 := len_without (ax := 0) (R := lay2 ws k) (N := 239) (by omega)
  have l3 : 4 * (lay3 ws k).length ≤ _ := l3
  have b0 := rb_first B hk
  have b1 := rb_without (ax := 2) b0
  have b2 := rb_without (ax := 1) b1
  have b3 := rb_without (ax := 0) b2
  have m0 : ∀ r ∈ firstRows ws k, r.w.length ≤ 6 := fun r hr => by rw [(mk_first r hr).len]; exact hl
  have m1 : ∀ r ∈ lay1 ws k, r.w.length ≤ 6 := fun r hr => by rw [(mk_without mk_first r hr).len]; exact hl
  have m2 : ∀ r ∈ lay2 ws k, r.w.length ≤ 6 := fun r hr => by rw [(mk_without (mk_without mk_first) r hr).len]; exact hl
  have m3 : ∀ r ∈ lay3 ws k, r.w.length ≤ 6 := fun r hr => by rw [(mk_lay3 r hr).1.len]; exact hl
  exact ⟨⟨by omega, by omega, by omega, by omega⟩, fun r h => ⟨b0 r h, m0 r h⟩, fun r h => ⟨b1 r h, m1 r h⟩, fun r h => ⟨b2 r h, m2 r h⟩, fun r h => ⟨b3 r h, m3 r h⟩⟩
def layD (ws : List V3) (k : Nat) : D := .lst [rwsD (firstRows ws k), rwsD (lay1 ws k), rwsD (lay2 ws k), rwsD (lay3 ws k)]
theorem e_layers (B : WB ws) (hk : k < ws.length) (hn : 3 ≤ n) : callF fs gs n 12 [wsD ws, .int k] s = .ok (layD ws k) s := by
  obtain ⟨m, rfl, hm⟩ := sc hn
  rw [call_at (f := c_layers_of) rfl rfl]
  obtain ⟨⟨z0, z1, z2, z3⟩, r0, r1, r2, r3⟩ := lays B hk
  have e0 := fun s => e_first (n := m) (s := s) hk (by have := B.len; omega) hm
  have e1 := fun s => e_without (n := m) (s := s) (ax := 2) (b := 6) (R := firstRows ws k) (fun r h => ⟨(r0 r h).1, by have := (r0 r h).2; omega⟩) (by omega) (by omega) (by omega) hm
  have e2 := fun s => e_without (n := m) (s := s) (ax := 1) (b := 13) (R := lay1 ws k) (fun r h => ⟨(r1 r h).1, by have := (r1 r h).2; omega⟩) (by omega) (by omega) (by omega) hm
  have e3 := fun s => e_without (n := m) (s := s) (ax := 0) (b := 27) (R := lay2 ws k) (fun r h => ⟨(r2 r h).1, by have := (r2 r h).2; omega⟩) (by omega) (by omega) (by omega) hm
  have e1 : ∀ s, callF fs gs m 11 [rwsD (firstRows ws k), .int 2] s = .ok (rwsD (lay1 ws k)) s := e1
  have e2 : ∀ s, callF fs gs m 11 [rwsD (lay1 ws k), .int 1] s = .ok (rwsD (lay2 ws k)) s := e2
  have e3 : ∀ s, callF fs gs m 11 [rwsD (lay2 ws k), .int 0] s = .ok (rwsD (lay3 ws k)) s := e3
  unfold layD
  have dr : ∀ (R : List Row) (s : Sto), deref s (rwsD R) = rwsD R := fun _ _ => rfl
  have i1 : ∀ a : D, idxD (.lst [a]) (.int (-1)) = some a := fun _ => rfl
  have i2 : ∀ a b : D, idxD (.lst [a, b]) (.int (-1)) = some b := fun _ _ => rfl
  have i3 : ∀ a b c : D, idxD (.lst [a, b, c]) (.int (-1)) = some c := fun _ _ _ => rfl
  have eb : c_layers_of.body = .c (.own 2 (.dsp (.c (.call 9 (.c (.var 0) (.c (.var 1) .nil))) .nil))) (.c (.for (.nm 3) (.rg3 (.bin .sub (.gl 0) (.int 1)) (.neg (.int 1)) (.neg (.int 1))) (.c (.app 2 (.call 11 (.c (.idx (.var 2) (.neg (.int 1))) (.c (.var 3) .nil)))) .nil)) (.c (.ret (.var 2)) .nil)) := rfl
  have es : startE c_layers_of.N.length [wsD ws, .int k] = [some (SV.val (wsD ws)), some (.val (.int k)), none, none] := rfl
  rw [eb, es]
  generalize wsD ws = WW at *
  generalize rwsD (firstRows ws k) = A0 at *
  generalize rwsD (lay1 ws k) = A1 at *
  generalize rwsD (lay2 ws k) = A2 at *
  generalize rwsD (lay3 ws k) = A3 at *
  have lt : ∀ j, j ≤ 10 → j < LINE := fun j h => by show j < 16777216; omega
  have x0 : exec (callF fs gs m) gs (.own 2 (.dsp (.c (.call 9 (.c (.var 0) (.c (.var 1) .nil))) .nil))) [some (SV.val WW), some (.val (.int k)), none, none] s = .ok (.nx [some (SV.val WW), some (.val (.int k)), some (.own [A0]), none]) s := by
    simp [e0, borrows, isOwn]
  have s1 : ∀ o, stepF (callF fs gs m) gs (.nm 3) (.c (.app 2 (.call 11 (.c (.idx (.var 2) (.neg (.int 1))) (.c (.var 3) .nil)))) .nil) (.int 2) [some (SV.val WW), some (.val (.int k)), some (.own [A0]), o] s = .ok (.nx [some (SV.val WW), some (.val (.int k)), some (.own [A0, A1]), some (.val (.int 2))]) s := fun o => by
    unfold stepF; simp [e1, i1, borrows, isOwn, chg, lt 1]
  have s2 : ∀ o, stepF (callF fs gs m) gs (.nm 3) (.c (.app 2 (.call 11 (.c (.idx (.var 2) (.neg (.int 1))) (.c (.var 3) .nil)))) .nil) (.int 1) [some (SV.val WW), some (.val (.int k)), some (.own [A0, A1]), o] s = .ok (.nx [some (SV.val WW), some (.val (.int k)), some (.own [A0, A1, A2]), some (.val (.int 1))]) s := fun o => by
    unfold stepF; simp [e2, i2, borrows, isOwn, chg, lt 2]
  have s3 : ∀ o, stepF (callF fs gs m) gs (.nm 3) (.c (.app 2 (.call 11 (.c (.idx (.var 2) (.neg (.int 1))) (.c (.var 3) .nil)))) .nil) (.int 0) [some (SV.val WW), some (.val (.int k)), some (.own [A0, A1, A2]), o] s = .ok (.nx [some (SV.val WW), some (.val (.int k)), some (.own [A0, A1, A2, A3]), some (.val (.int 0))]) s := fun o => by
    unfold stepF; simp [e3, i3, borrows, isOwn, chg, lt 3]
  have ei : evI (callF fs gs m) gs false (.rg3 (.bin .sub (.gl 0) (.int 1)) (.neg (.int 1)) (.neg (.int 1))) [some (SV.val WW), some (.val (.int k)), some (.own [A0]), none] s = .ok [.int 2, .int 1, .int 0] s := by
    have g0 : gs[0]? = some (.int 3) := rfl
    have r : rng3? (.int 2) (.int (-1)) (.int (-1)) = some [.int 2, .int 1, .int 0] := by rfl
    simp [g0, r]
  have ef : frzI [some (SV.val WW), some (.val (.int k)), some (.own [A0]), none] (.rg3 (.bin .sub (.gl 0) (.int 1)) (.neg (.int 1)) (.neg (.int 1))) = [some (SV.val WW), some (.val (.int k)), some (.own [A0]), none] := rfl
  rw [execs_c, x0, nextF_nx, execs_c, exec_for, ef, ei, ok_bind, forF_cons, s1, nextL_nx, forF_cons, s2, nextL_nx, forF_cons, s3, nextL_nx, forF_nil, nextF_nx]
  simp [frzR]
theorem lay_last : idxD (layD ws k) (.int (-1)) = some (rwsD (lay3 ws k)) := rfl
/-! ### the paper -/
def papD (ws : List V3) (k : Nat) : D := match (lay3 ws k).find? (·.st) with
  | some r => .tup (r.w.map D.int)
  | none => .non
theorem filt_find {p : Row → Bool} {l : List Row} : (l.filter p).head? = l.find? p := by rw [List.head?_filter]
theorem e_paper (B : WB ws) (hk : k < ws.length) (hn : 4 ≤ n) : callF fs gs n 13 [wsD ws, .int k] s = .ok (papD ws k) s := by
  obtain ⟨m, rfl, hm⟩ := sc hn
  rw [call_at (f := c_worse_paper) rfl rfl]
  obtain ⟨⟨z0, z1, z2, z3⟩, r0, r1, r2, r3⟩ := lays B hk
  have el := e_layers (n := m) (s := s) B hk hm
  have dl : ∀ s : Sto, deref s (layD ws k) = layD ws k := fun _ => rfl
  have ll := lay_last (ws := ws) (k := k)
  have e : ∀ env, env = [some (SV.val (wsD ws)), some (.val (.int k)), none, none, none, none] → evF (callF fs gs m) gs (.cp1 (.var 5) (.tp (.c (.nm 3) (.c (.nm 4) (.c (.nm 5) .nil)))) (.seq (.idx (.call 12 (.c (.var 0) (.c (.var 1) .nil))) (.neg (.int 1)))) (.s (.var 4)) [3, 4, 5]) env s = .ok (((lay3 ws k).filter (·.st)).map fun r => D.tup (r.w.map D.int)) s := by
    rintro env rfl
    rw [← filt_flat (mk := fun r : Row => D.tup (r.w.map D.int)) (p := fun r : Row => r.st)]
    refine cp1_pure (xs := lay3 ws k) (mk := rwD) ?_ (fun r hr => ?_) (by
      rw [filt_flat (mk := fun r : Row => D.tup (r.w.map D.int)) (p := fun r : Row => r.st), List.length_map]
      have := List.length_filter_le (fun r : Row => r.st) (lay3 ws k)
      show _ ≤ 16777216
      omega)
    · have it : items? (rwsD (lay3 ws k)) = some ((lay3 ws k).map rwD) := rfl
      generalize layD ws k = LL at *
      generalize wsD ws = WW at *
      generalize rwsD (lay3 ws k) = R3 at *
      simp [el, dl, ll, it, borrows, isOwn]
    · unfold rwD
      cases hst : r.st with
      | true => simp [turn1, noOwn, wipeE]
      | false => simp [turn1, noOwn, wipeE]
  have e1 := e _ rfl
  have hd := filt_find (p := fun r => r.st) (l := lay3 ws k)
  unfold papD
  cases hf : (lay3 ws k).filter (·.st) with
  | nil =>
    rw [hf] at hd e1
    have hd : (lay3 ws k).find? (·.st) = none := hd.symm
    rw [hd]
    have e1 : evF (callF fs gs m) gs (.cp1 (.var 5) (.tp (.c (.nm 3) (.c (.nm 4) (.c (.nm 5) .nil)))) (.seq (.idx (.call 12 (.c (.var 0) (.c (.var 1) .nil))) (.neg (.int 1)))) (.s (.var 4)) [3, 4, 5]) [some (SV.val (wsD ws)), some (.val (.int k)), none, none, none, none] s = .ok [] s := e1
    simp [c_worse_paper, startE, List.replicate, frzR, e1]
  | cons r l =>
    rw [hf] at hd e1
    have hd : (lay3 ws k).find? (·.st) = some r := hd.symm
    rw [hd]
    have e1 : evF (callF fs gs m) gs (.cp1 (.var 5) (.tp (.c (.nm 3) (.c (.nm 4) (.c (.nm 5) .nil)))) (.seq (.idx (.call 12 (.c (.var 0) (.c (.var 1) .nil))) (.neg (.int 1)))) (.s (.var 4)) [3, 4, 5]) [some (SV.val (wsD ws)), some (.val (.int k)), none, none, none, none] s = .ok (D.tup (r.w.map D.int) :: l.map fun r => D.tup (r.w.map D.int)) s := e1
    simp [c_worse_paper, startE, List.replicate, frzR, e1]
/-! ### bounds -/
def sm (r : Row) : Nat → List (D × Rat) → Rat
  | _, [] => 0
  | a, p :: t => (vat r.v a : Rat) * p.2 + sm r (a + 1) t
def bBa : Sms := (.c (.asg (.nm 3) (.call 3 (.c (.var 3) (.c (.call 4 (.c (.tup (.c (.neg (.idx (.idx (.var 0) (.int 0)) (.var 4))) (.c (.int 1) .nil))) (.c (.var 5) .nil))) .nil)))) .nil)
def EB (r : Row) (ax : Nat) (kn : List (D × Rat)) (f : D) (o4 o5 : Option SV) : Env := [some (.val (rwD r)), some (.val (.int ax)), some (.val (.lst (kn.map (·.1)))), some (.val f), o4, o5]
theorem ba_loop {r : Row} {br β : Nat} {kn0 : List (D × Rat)} (hr : RB br r) (hb : 1 ≤ br ∧ br + β ≤ 2000) (hn : 3 ≤ n) : ∀ {kn : List (D × Rat)} {a c : Nat} {f : D} {q : Rat}, a + kn.length ≤ 3 → (∀ p ∈ kn, Rt β p.2 p.1) → Rt c q f → c + kn.length * (br + β + 1) ≤ 1500 →
    ∃ f', (∀ s o4 o5, ∃ q4 q5, forF (stepF (callF fs gs n) gs (.tp (.c (.nm 4) (.c (.nm 5) .nil))) bBa) (enL (a : Int) (kn.map (·.1))) (EB r ax kn0 f o4 o5) s = .ok (.nx (EB r ax kn0 f' q4 q5)) s) ∧ Rt (c + kn.length * (br + β + 1)) (q - sm r a kn) f'
  | [], a, c, f, q, _, _, hf, _ => ⟨f, fun s o4 o5 => ⟨o4, o5, rfl⟩, by
      have e : q - sm r a [] = q := by unfold sm; grind
      rw [e]; simpa using hf⟩
  | p :: kn, a, c, f, q, ha, hk, hf, hc => by
    rw [List.length_cons] at ha
    rw [List.length_cons, Nat.add_mul, Nat.one_mul] at hc
    have v : Rt br (((-(vat r.v a) : Int) : Rat)) (.tup [.int (-(vat r.v a)), .int 1]) := ⟨_, _, rfl, by omega, by
      have : ((1 : Int) : Rat) = 1 := rfl
      rw [this]; grind, (hr.v a).neg, Bt.up (a := 1) (by show _ < _; decide) hb.1⟩
    obtain ⟨g, eg, hg⟩ := e_times (n := n) v (hk p List.mem_cons_self) (by omega) hn
    obtain ⟨h, eh, hh⟩ := e_sum (n := n) hf hg (by omega) hn
    have q' : q + ((-(vat r.v a) : Int) : Rat) * p.2 = q - (vat r.v a : Rat) * p.2 := by rw [Rat.intCast_neg]; grind
    rw [q'] at hh
    obtain ⟨f', e, hf'⟩ := ba_loop hr hb hn (kn := kn) (a := a + 1) (c := c + (br + β) + 1) (f := h) (by omega) (fun p hp => hk p (List.mem_cons_of_mem _ hp)) hh (by omega)
    refine ⟨f', fun s o4 o5 => ?_, ?_⟩
    · obtain ⟨q4, q5, e⟩ := e s (some (.val (.int a))) (some (.val p.1))
      refine ⟨q4, q5, ?_⟩
      have e0 : enL (a : Int) ((p :: kn).map (·.1)) = .tup [.int a, p.1] :: enL ((a + 1 : Nat) : Int) (kn.map (·.1)) := by
        have : ((a + 1 : Nat) : Int) = (a : Int) + 1 := by omega
        rw [this]; rfl
      have iv := idx_vat (v := r.v) (ax := a) (by omega)
      have dr : ∀ s : Sto, deref s (rwD r) = rwD r := fun _ => rfl
      have dv : ∀ s : Sto, deref s (v3D r.v) = v3D r.v := fun _ => rfl
      have e1 : stepF (callF fs gs n) gs (.tp (.c (.nm 4) (.c (.nm 5) .nil))) bBa (.tup [.int a, p.1]) (EB r ax kn0 f o4 o5) s = .ok (.nx (EB r ax kn0 h (some (.val (.int a))) (some (.val p.1)))) s := by
        unfold stepF
        simp [bBa, EB, rw_0, iv, dr, dv, eg, eh, borrows, isOwn]
      rw [e0, forF_cons, e1, nextL_nx, e]
    · have e2 : q - sm r a (p :: kn) = q - (vat r.v a : Rat) * p.2 - sm r (a + 1) kn := by
        show q - ((vat r.v a : Rat) * p.2 + sm r (a + 1) kn) = _
        grind
      rw [e2, List.length_cons, Nat.add_mul, Nat.one_mul]
      exact hf'.up (by omega)
theorem e_bound {r : Row} {br β : Nat} {kn : List (D × Rat)} (hr : RB br r) (hb : 1 ≤ br ∧ br + β ≤ 2000) (ha : ax < 3) (hne : vat r.v ax ≠ 0) (hk : ∀ p ∈ kn, Rt β p.2 p.1) (hl : kn.length ≤ 3) (hc : 1 + kn.length * (br + β + 1) + br ≤ 1400) (hn : 4 ≤ n) :
    ∃ d, (∀ s, callF fs gs n 15 [rwD r, .int ax, .lst (kn.map (·.1))] s = .ok d s) ∧ Rt (1 + kn.length * (br + β + 1) + br) (-(sm r 0 kn) / (vat r.v ax : Rat)) d := by
  obtain ⟨m, rfl, hm⟩ := sc hn
  have z : Rt 1 0 (.tup [.int 0, .int 1]) := ⟨0, 1, rfl, by omega, by
    have h1 : ((1 : Int) : Rat) = 1 := rfl
    have h0 : ((0 : Int) : Rat) = 0 := rfl
    rw [h1, h0]; grind, by show _ < _; decide, by show _ < _; decide⟩
  obtain ⟨d1, e1, p', q', rfl, g1, g2, g3, g4⟩ := e_ratio (n := m) (p := 1) (q := vat r.v ax) (a := br) (b := br) hne (Bt.up (a := 1) (by show _ < _; decide) hb.1) (hr.v ax) (by omega) (by omega)
  have R1 : Rt br ((1 : Rat) / (vat r.v ax : Rat)) (.tup [.int p', .int q']) := ⟨p', q', rfl, g1, by rw [← g2]; rfl, g3, g4⟩
  obtain ⟨f', e2, hf⟩ := ba_loop (n := m) (ax := ax) (kn0 := kn) hr hb hm (kn := kn) (a := 0) (c := 1) (f := .tup [.int 0, .int 1]) (q := 0) (by omega) hk z (by omega)
  obtain ⟨g, eg, hg⟩ := e_times (n := m) hf R1 (by omega) hm
  have fin : (0 - sm r 0 kn) * ((1 : Rat) / (vat r.v ax : Rat)) = -(sm r 0 kn) / (vat r.v ax : Rat) := by grind
  rw [fin] at hg
  refine ⟨g, fun s => ?_, hg⟩
  obtain ⟨q4, q5, e2⟩ := e2 s none none
  rw [call_at (f := c_bound_at) rfl rfl]
  have eb : c_bound_at.body = .c (.asg (.nm 3) (.tup (.c (.int 0) (.c (.int 1) .nil)))) (.c (.for (.tp (.c (.nm 4) (.c (.nm 5) .nil))) (.enm (.var 2)) bBa) (.c (.ret (.call 4 (.c (.var 3) (.c (.call 2 (.c (.int 1) (.c (.idx (.idx (.var 0) (.int 0)) (.var 1)) .nil))) .nil)))) .nil)) := rfl
  have es : startE c_bound_at.N.length [rwD r, .int ax, .lst (kn.map (·.1))] = [some (SV.val (rwD r)), some (.val (.int ax)), some (.val (.lst (kn.map (·.1)))), none, none, none] := rfl
  rw [eb, es]
  have x0 : exec (callF fs gs m) gs (.asg (.nm 3) (.tup (.c (.int 0) (.c (.int 1) .nil)))) [some (SV.val (rwD r)), some (.val (.int ax)), some (.val (.lst (kn.map (·.1)))), none, none, none] s = .ok (.nx (EB r ax kn (.tup [.int 0, .int 1]) none none)) s := by simp [EB]
  have ei : evI (callF fs gs m) gs false (.enm (.var 2)) (EB r ax kn (.tup [.int 0, .int 1]) none none) s = .ok (enL ((0 : Nat) : Int) (kn.map (·.1))) s := by
    simp [EB, enum_lst]
  have ef : frzI (EB r ax kn (.tup [.int 0, .int 1]) none none) (.enm (.var 2)) = EB r ax kn (.tup [.int 0, .int 1]) none none := rfl
  rw [execs_c, x0, nextF_nx, execs_c, exec_for, ef, ei, ok_bind, e2, nextF_nx]
  have iv := idx_vat (v := r.v) ha
  have dr : ∀ s : Sto, deref s (rwD r) = rwD r := fun _ => rfl
  have dv : ∀ s : Sto, deref s (v3D r.v) = v3D r.v := fun _ => rfl
  simp [EB, frzR, rw_0, iv, dr, dv, e1, eg, borrows, isOwn]
end
end PV.K22
set_option maxRecDepth 100000
set_option maxHeartbeats 4000000
namespace PV.K22
open PySem PV
section
variable {n : Nat} {s : Sto} {ws : List V3} {k ax : Nat} {R : List Row}
def EC (R : List Row) (ax : Nat) (kn : List (D × Rat)) (LO HI : List D) (o5 o6 o7 : Option SV) : Env := [some (.val (rwsD R)), some (.val (.int ax)), some (.val (.lst (kn.map (·.1)))), some (.val (.lst LO)), some (.val (.lst HI)), o5, o6, o7, none]
def bLo : Sms := (.c (.asg (.nm 5) (.ite (.call 5 (.c (.var 5) (.c (.var 6) .nil))) (.var 6) (.var 5))) .nil)
def bHi : Sms := (.c (.asg (.nm 7) (.ite (.call 5 (.c (.var 6) (.c (.var 7) .nil))) (.var 6) (.var 7))) .nil)
theorem lo_loop {b : Nat} {g : Row → Rat} {F : Row → D} {kn : List (D × Rat)} {LO HI : List D} {o7 : Option SV} (hb : b ≤ 1900) (hn : 1 ≤ n) : ∀ {P : List Row} {r0 : Row}, Rt b (g r0) (F r0) → (∀ r ∈ P, Rt b (g r) (F r)) →
    ∃ r1, (r1 = r0 ∨ r1 ∈ P) ∧ g r0 ≤ g r1 ∧ (∀ x ∈ P, g x ≤ g r1) ∧ ∀ s o6, ∃ q6, forF (stepF (callF fs gs n) gs (.nm 6) bLo) (P.map F) (EC R ax kn LO HI (some (.val (F r0))) o6 o7) s = .ok (.nx (EC R ax kn LO HI (some (.val (F r1))) q6 o7)) s
  | [], r0, h0, _ => ⟨r0, .inl rfl, (by grind), (fun x h => by cases h), fun s o6 => ⟨o6, rfl⟩⟩
  | x :: P, r0, h0, hP => by
    have hx := hP x List.mem_cons_self
    have el := fun s => e_less (n := n) (s := s) h0 hx (by omega) hn
    by_cases c : g r0 < g x
    · obtain ⟨r1, m1, l1, a1, e1⟩ := lo_loop hb hn (P := P) (r0 := x) hx fun r hr => hP r (List.mem_cons_of_mem _ hr)
      refine ⟨r1, .inr (m1.elim (fun e => e ▸ List.mem_cons_self) (List.mem_cons_of_mem _)), by grind, fun y hy => (List.mem_cons.mp hy).elim (fun e => e ▸ l1) (a1 y), fun s o6 => ?_⟩
      obtain ⟨q6, e1⟩ := e1 s (some (.val (F x)))
      have es : stepF (callF fs gs n) gs (.nm 6) bLo (F x) (EC R ax kn LO HI (some (.val (F r0))) o6 o7) s = .ok (.nx (EC R ax kn LO HI (some (.val (F x))) (some (.val (F x))) o7)) s := by
        have el := el s
        rw [decide_eq_true c] at el
        unfold stepF
        simp [bLo, EC, el, borrows, isOwn]
      exact ⟨q6, by rw [List.map_cons, forF_cons, es, nextL_nx, e1]⟩
    · obtain ⟨r1, m1, l1, a1, e1⟩ := lo_loop hb hn (P := P) (r0 := r0) h0 fun r hr => hP r (List.mem_cons_of_mem _ hr)
      refine ⟨r1, m1.elim .inl (fun h => .inr (List.mem_cons_of_mem _ h)), l1, fun y hy => (List.mem_cons.mp hy).elim (fun e => by rw [e]; grind) (a1 y), fun s o6 => ?_⟩
      obtain ⟨q6, e1⟩ := e1 s (some (.val (F x)))
      have es : stepF (callF fs gs n) gs (.nm 6) bLo (F x) (EC R ax kn LO HI (some (.val (F r0))) o6 o7) s = .ok (.nx (EC R ax kn LO HI (some (.val (F r0))) (some (.val (F x))) o7)) s := by
        have el := el s
        rw [decide_eq_false c] at el
        unfold stepF
        simp [bLo, EC, el, borrows, isOwn]
      exact ⟨q6, by rw [List.map_cons, forF_cons, es, nextL_nx, e1]⟩
theorem hi_loop {b : Nat} {g : Row → Rat} {F : Row → D} {kn : List (D × Rat)} {LO HI : List D} {o5 : Option SV} (hb : b ≤ 1900) (hn : 1 ≤ n) : ∀ {P : List Row} {r0 : Row}, Rt b (g r0) (F r0) → (∀ r ∈ P, Rt b (g r) (F r)) →
    ∃ r1, (r1 = r0 ∨ r1 ∈ P) ∧ g r1 ≤ g r0 ∧ (∀ x ∈ P, g r1 ≤ g x) ∧ ∀ s o6, ∃ q6, forF (stepF (callF fs gs n) gs (.nm 6) bHi) (P.map F) (EC R ax kn LO HI o5 o6 (some (.val (F r0)))) s = .ok (.nx (EC R ax kn LO HI o5 q6 (some (.val (F r1))))) s
  | [], r0, h0, _ => ⟨r0, .inl rfl, (by grind), (fun x h => by cases h), fun s o6 => ⟨o6, rfl⟩⟩
  | x :: P, r0, h0, hP => by
    have hx := hP x List.mem_cons_self
    have el := fun s => e_less (n := n) (s := s) hx h0 (by omega) hn
    by_cases c : g x < g r0
    · obtain ⟨r1, m1, l1, a1, e1⟩ := hi_loop hb hn (P := P) (r0 := x) hx fun r hr => hP r (List.mem_cons_of_mem _ hr)
      refine ⟨r1, .inr (m1.elim (fun e => e ▸ List.mem_cons_self) (List.mem_cons_of_mem _)), by grind, fun y hy => (List.mem_cons.mp hy).elim (fun e => e ▸ l1) (a1 y), fun s o6 => ?_⟩
      obtain ⟨q6, e1⟩ := e1 s (some (.val (F x)))
      have es : stepF (callF fs gs n) gs (.nm 6) bHi (F x) (EC R ax kn LO HI o5 o6 (some (.val (F r0)))) s = .ok (.nx (EC R ax kn LO HI o5 (some (.val (F x))) (some (.val (F x))))) s := by
        have el := el s
        rw [decide_eq_true c] at el
        unfold stepF
        simp [bHi, EC, el, borrows, isOwn]
      exact ⟨q6, by rw [List.map_cons, forF_cons, es, nextL_nx, e1]⟩
    · obtain ⟨r1, m1, l1, a1, e1⟩ := hi_loop hb hn (P := P) (r0 := r0) h0 fun r hr => hP r (List.mem_cons_of_mem _ hr)
      refine ⟨r1, m1.elim .inl (fun h => .inr (List.mem_cons_of_mem _ h)), l1, fun y hy => (List.mem_cons.mp hy).elim (fun e => by rw [e]; grind) (a1 y), fun s o6 => ?_⟩
      obtain ⟨q6, e1⟩ := e1 s (some (.val (F x)))
      have es : stepF (callF fs gs n) gs (.nm 6) bHi (F x) (EC R ax kn LO HI o5 o6 (some (.val (F r0)))) s = .ok (.nx (EC R ax kn LO HI o5 (some (.val (F x))) (some (.val (F r0))))) s := by
        have el := el s
        rw [decide_eq_false c] at el
        unfold stepF
        simp [bHi, EC, el, borrows, isOwn]
      exact ⟨q6, by rw [List.map_cons, forF_cons, es, nextL_nx, e1]⟩
theorem filt_flatF {α : Type} {p : α → Bool} {mk : α → D} {l : List α} : l.flatMap (fun x => if p x = true then [mk x] else []) = (l.filter p).map mk := filt_flat
theorem e_bounds {p : Row → Bool} {c : Ex} {F : Row → D} {kn : List (D × Rat)} {env : Env} (h0 : At env 0 (rwsD R)) (h1 : At env 1 (.int ax)) (h2 : At env 2 (.lst (kn.map (·.1)))) (hl : env.length = 9) (hz : R.length ≤ 1000000)
    (hc : ∀ r env2, At env2 8 (rwD r) → At env2 1 (.int ax) → ev (callF fs gs n) gs true c env2 s = .ok (.bl (p r)) s)
    (hF : ∀ r ∈ R, p r = true → callF fs gs n 15 [rwD r, .int ax, .lst (kn.map (·.1))] s = .ok (F r) s) :
    evF (callF fs gs n) gs (.cp1 (.call 15 (.c (.var 8) (.c (.var 1) (.c (.var 2) .nil)))) (.nm 8) (.seq (.var 0)) (.s c) [8]) env s = .ok ((R.filter p).map F) s := by
  rw [← filt_flat]
  have hle : (R.flatMap fun x => if p x = true then [F x] else []).length ≤ LINE := by
    rw [filt_flat, List.length_map]
    have := List.length_filter_le p R
    show _ ≤ 16777216
    omega
  refine cp1_pure (xs := R) (mk := rwD) (by simp [h0, rwsD, items?]) (fun r hr => ?_) hle
  have q8 : At ((wipeE (noOwn env) [8]).set 8 (some (.val (rwD r)))) 8 (rwD r) := At.new (by omega)
  have q1 : At ((wipeE (noOwn env) [8]).set 8 (some (.val (rwD r)))) 1 (.int ax) := h1.inn (by omega)
  have q2 : At ((wipeE (noOwn env) [8]).set 8 (some (.val (rwD r)))) 2 (.lst (kn.map (·.1))) := h2.inn (by omega)
  unfold turn1
  rw [bindT_nm]
  generalize (wipeE (noOwn env) [8]).set 8 (some (SV.val (rwD r))) = env2 at *
  have := hc r env2 q8 q1
  cases hp : p r with
  | true =>
    rw [hp] at this
    have hF := hF r hr hp
    simp [this, q8, q1, q2, hF, borrows, isOwn]
  | false => rw [hp] at this; simp [this]
def fxLo : Fx := (.cp1 (.call 15 (.c (.var 8) (.c (.var 1) (.c (.var 2) .nil)))) (.nm 8) (.seq (.var 0)) (.s (.cmp .gt (.idx (.idx (.var 8) (.int 0)) (.var 1)) (.int 0))) [8])
def fxHi : Fx := (.cp1 (.call 15 (.c (.var 8) (.c (.var 1) (.c (.var 2) .nil)))) (.nm 8) (.seq (.var 0)) (.s (.cmp .lt (.idx (.idx (.var 8) (.int 0)) (.var 1)) (.int 0))) [8])
theorem e_chosen {br β : Nat} {kn : List (D × Rat)} (hR : ∀ r ∈ R, RB br r) (hz : R.length ≤ 2000) (hb : 1 ≤ br ∧ br + β ≤ 2000) (ha : ax < 3) (hp : ∃ r ∈ R, 0 < vat r.v ax) (hk : ∀ p ∈ kn, Rt β p.2 p.1) (hl : kn.length ≤ 3) (hc : 1 + kn.length * (br + β + 1) + br ≤ 1400) (hn : 5 ≤ n) :
    ∃ d t, (∀ s, callF fs gs n 16 [rwsD R, .int ax, .lst (kn.map (·.1))] s = .ok d s) ∧ Rt (2 * (1 + kn.length * (br + β + 1) + br) + 3) t d ∧ Cho R (fun r => sm r 0 kn) ax t := by
  obtain ⟨m, rfl, hm⟩ := sc hn
  obtain ⟨F, hF⟩ : ∃ F : Row → D, ∀ r ∈ R, vat r.v ax ≠ 0 → (∀ s, callF fs gs m 15 [rwD r, .int ax, .lst (kn.map (·.1))] s = .ok (F r) s) ∧ Rt (1 + kn.length * (br + β + 1) + br) (bd (fun r => sm r 0 kn) ax r) (F r) := by
    have h : ∀ r : Row, ∃ d : D, r ∈ R → vat r.v ax ≠ 0 → (∀ s, callF fs gs m 15 [rwD r, .int ax, .lst (kn.map (·.1))] s = .ok d s) ∧ Rt (1 + kn.length * (br + β + 1) + br) (bd (fun r => sm r 0 kn) ax r) d := fun r => by
      by_cases c : r ∈ R ∧ vat r.v ax ≠ 0
      · obtain ⟨d, h1, h2⟩ := e_bound (n := m) (hR r c.1) hb ha c.2 hk hl hc hm
        exact ⟨d, fun _ _ => ⟨h1, h2⟩⟩
      · exact ⟨.non, fun a b => absurd ⟨a, b⟩ c⟩
    exact ⟨fun r => Classical.choose (h r), fun r => Classical.choose_spec (h r)⟩
  generalize hB : 1 + kn.length * (br + β + 1) + br = B at *
  have gF : ∀ r ∈ pos ax R, Rt B (bd (fun r => sm r 0 kn) ax r) (F r) := fun r hr => by
    have := List.mem_filter.mp hr
    exact (hF r this.1 (by have := of_decide_eq_true this.2; omega)).2
  have gH : ∀ r ∈ neg ax R, Rt B (bd (fun r => sm r 0 kn) ax r) (F r) := fun r hr => by
    have := List.mem_filter.mp hr
    exact (hF r this.1 (by have := of_decide_eq_true this.2; omega)).2
  generalize hbd : bd (fun r => sm r 0 kn) ax = g at *
  have dr : ∀ (r : Row) (s : Sto), deref s (rwD r) = rwD r := fun _ _ => rfl
  have dv : ∀ (r : Row) (s : Sto), deref s (v3D r.v) = v3D r.v := fun _ _ => rfl
  obtain ⟨rp, hrp, hrp2⟩ := hp
  have mp : rp ∈ pos ax R := List.mem_filter.mpr ⟨hrp, decide_eq_true hrp2⟩
  obtain ⟨r0, P, hP⟩ : ∃ r0 P, pos ax R = r0 :: P := by
    cases h : pos ax R with
    | nil => rw [h] at mp; cases mp
    | cons a l => exact ⟨a, l, rfl⟩
  have elo : ∀ (s : Sto) env, env = [some (SV.val (rwsD R)), some (.val (.int ax)), some (.val (.lst (kn.map (·.1)))), none, none, none, none, none, none] → evF (callF fs gs m) gs fxLo env s = .ok ((pos ax R).map F) s := by
    rintro s env rfl
    exact e_bounds (n := m) (s := s) (F := F) (kn := kn) rfl rfl rfl rfl (by omega) (fun r env2 q8 q1 => by simp [q8, q1, rw_0, idx_vat ha, dr, dv]) fun r hr hp => (hF r hr (by have := of_decide_eq_true hp; omega)).1 s
  have ehi : ∀ (s : Sto) env, env = [some (SV.val (rwsD R)), some (.val (.int ax)), some (.val (.lst (kn.map (·.1)))), some (.val (.lst ((pos ax R).map F))), none, none, none, none, none] → evF (callF fs gs m) gs fxHi env s = .ok ((neg ax R).map F) s := by
    rintro s env rfl
    exact e_bounds (n := m) (s := s) (F := F) (kn := kn) rfl rfl rfl rfl (by omega) (fun r env2 q8 q1 => by simp [q8, q1, rw_0, idx_vat ha, dr, dv]) fun r hr hp => (hF r hr (by have := of_decide_eq_true hp; omega)).1 s
  have eb : c_chosen.body = .c (.asg (.nm 3) (.fz fxLo)) (.c (.asg (.nm 4) (.fz fxHi)) (.c (.asg (.nm 5) (.idx (.var 3) (.int 0))) (.c (.for (.nm 6) (.seq (.var 3)) bLo) (.c (.ite (.not (.var 4)) (.c (.ret (.tup (.c (.bin .add (.call 6 (.c (.var 5) .nil)) (.int 1)) (.c (.int 1) .nil)))) .nil) .nil) (.c (.asg (.nm 7) (.idx (.var 4) (.int 0))) (.c (.for (.nm 6) (.seq (.var 4)) bHi) (.c (.ret (.call 4 (.c (.call 3 (.c (.var 5) (.c (.var 7) .nil))) (.c (.tup (.c (.int 1) (.c (.int 2) .nil))) .nil)))) .nil))))))) := rfl
  have es : startE c_chosen.N.length [rwsD R, .int ax, .lst (kn.map (·.1))] = [some (SV.val (rwsD R)), some (.val (.int ax)), some (.val (.lst (kn.map (·.1)))), none, none, none, none, none, none] := rfl
  have x0 : ∀ s, exec (callF fs gs m) gs (.asg (.nm 3) (.fz fxLo)) [some (SV.val (rwsD R)), some (.val (.int ax)), some (.val (.lst (kn.map (·.1)))), none, none, none, none, none, none] s = .ok (.nx [some (SV.val (rwsD R)), some (.val (.int ax)), some (.val (.lst (kn.map (·.1)))), some (.val (.lst ((pos ax R).map F))), none, none, none, none, none]) s := fun s => by
    simp [elo s _ rfl]
  have x1 : ∀ s, exec (callF fs gs m) gs (.asg (.nm 4) (.fz fxHi)) [some (SV.val (rwsD R)), some (.val (.int ax)), some (.val (.lst (kn.map (·.1)))), some (.val (.lst ((pos ax R).map F))), none, none, none, none, none] s = .ok (.nx (EC R ax kn ((pos ax R).map F) ((neg ax R).map F) none none none)) s := fun s => by
    simp [ehi s _ rfl, EC]
  have i0 : idxD (.lst ((pos ax R).map F)) (.int 0) = some (F r0) := by rw [hP]; exact idxL_0
  have x2 : ∀ s, exec (callF fs gs m) gs (.asg (.nm 5) (.idx (.var 3) (.int 0))) (EC R ax kn ((pos ax R).map F) ((neg ax R).map F) none none none) s = .ok (.nx (EC R ax kn ((pos ax R).map F) ((neg ax R).map F) (some (.val (F r0))) none none)) s := fun s => by
    simp [EC, i0]
  have m0 : r0 ∈ pos ax R := by rw [hP]; exact List.mem_cons_self
  obtain ⟨lo, mlo, -, alo, e3⟩ := lo_loop (n := m) (R := R) (ax := ax) (kn := kn) (LO := (pos ax R).map F) (HI := (neg ax R).map F) (o7 := none) (b := B) (by omega) (by omega) (P := pos ax R) (r0 := r0) (gF r0 m0) gF
  have mlo : lo ∈ pos ax R := mlo.elim (fun e => e ▸ m0) id
  have mlo2 := List.mem_filter.mp mlo
  have hlo := gF lo mlo
  have ef3 : ∀ o5 o6 o7, frzI (EC R ax kn ((pos ax R).map F) ((neg ax R).map F) o5 o6 o7) (.seq (.var 3)) = EC R ax kn ((pos ax R).map F) ((neg ax R).map F) o5 o6 o7 := fun _ _ _ => rfl
  have ei3 : ∀ s o5 o6 o7, evI (callF fs gs m) gs false (.seq (.var 3)) (EC R ax kn ((pos ax R).map F) ((neg ax R).map F) o5 o6 o7) s = .ok ((pos ax R).map F) s := fun s o5 o6 o7 => by simp [EC, items?]
  cases hN : neg ax R with
  | nil =>
    obtain ⟨i, efl, hi1, hi2⟩ := e_floor (n := m) hlo (by omega) (by omega)
    have one : Bt 1 1 := by show _ < _; decide
    refine ⟨.tup [.int (i + 1), .int 1], (i : Rat) + 1, fun s => ?_, ⟨i + 1, 1, rfl, by omega, ?_, (hi2.add2 (one.up (by omega))).up (by omega), one.up (by omega)⟩, .up (fun r hr z => ?_) (fun r hr z => ?_)⟩
    · obtain ⟨q6, e3⟩ := e3 s none
      rw [call_at (f := c_chosen) rfl rfl, eb, es, execs_c, x0, nextF_nx, execs_c, x1, nextF_nx, execs_c, x2, nextF_nx, execs_c, exec_for, ef3, ei3, ok_bind, e3, nextF_nx, hN]
      simp [EC, frzR, efl, borrows, isOwn]
    · have h1 : ((1 : Int) : Rat) = 1 := rfl
      rw [Rat.intCast_add, h1]
      grind
    · have : r ∈ neg ax R := List.mem_filter.mpr ⟨hr, decide_eq_true z⟩
      rw [hN] at this; cases this
    · rw [hbd]
      have := alo r (List.mem_filter.mpr ⟨hr, decide_eq_true z⟩)
      grind
  | cons h0 N =>
    have mh0 : h0 ∈ neg ax R := by rw [hN]; exact List.mem_cons_self
    obtain ⟨hi, mhi, -, ahi, e4⟩ := hi_loop (n := m) (R := R) (ax := ax) (kn := kn) (LO := (pos ax R).map F) (HI := (neg ax R).map F) (o5 := some (.val (F lo))) (b := B) (by omega) (by omega) (P := neg ax R) (r0 := h0) (gH h0 mh0) gH
    have mhi : hi ∈ neg ax R := mhi.elim (fun e => e ▸ mh0) id
    have mhi2 := List.mem_filter.mp mhi
    have hhi := gH hi mhi
    obtain ⟨sD, esum, hs⟩ := e_sum (n := m) hlo hhi (by omega) (by omega)
    have half : Rt 2 (1 / 2) (.tup [.int 1, .int 2]) := ⟨1, 2, rfl, by omega, by
      have h1 : ((1 : Int) : Rat) = 1 := rfl
      have h2 : ((2 : Int) : Rat) = 2 := rfl
      rw [h1, h2], by show _ < _; decide, by show _ < _; decide⟩
    obtain ⟨tD, etm, ht⟩ := e_times (n := m) hs half (by omega) (by omega)
    refine ⟨tD, (g lo + g hi) * (1 / 2), fun s => ?_, ht.up (by omega), .mid lo hi mlo2.1 (of_decide_eq_true mlo2.2) (fun r hr z => ?_) mhi2.1 (of_decide_eq_true mhi2.2) (fun r hr z => ?_) (by rw [hbd])⟩
    · obtain ⟨q6, e3⟩ := e3 s none
      obtain ⟨p6, e4⟩ := e4 s q6
      have ef4 : ∀ o5 o6 o7, frzI (EC R ax kn ((pos ax R).map F) ((neg ax R).map F) o5 o6 o7) (.seq (.var 4)) = EC R ax kn ((pos ax R).map F) ((neg ax R).map F) o5 o6 o7 := fun _ _ _ => rfl
      have ei4 : ∀ s o5 o6 o7, evI (callF fs gs m) gs false (.seq (.var 4)) (EC R ax kn ((pos ax R).map F) ((neg ax R).map F) o5 o6 o7) s = .ok ((neg ax R).map F) s := fun s o5 o6 o7 => by simp [EC, items?]
      have x4 : exec (callF fs gs m) gs (.ite (.not (.var 4)) (.c (.ret (.tup (.c (.bin .add (.call 6 (.c (.var 5) .nil)) (.int 1)) (.c (.int 1) .nil)))) .nil) .nil) (EC R ax kn ((pos ax R).map F) ((neg ax R).map F) (some (.val (F lo))) q6 none) s = .ok (.nx (EC R ax kn ((pos ax R).map F) ((neg ax R).map F) (some (.val (F lo))) q6 none)) s := by
        have : ((neg ax R).map F).isEmpty = false := by rw [hN]; rfl
        generalize (neg ax R).map F = NN at *
        simp [EC, this]
      have j0 : idxD (.lst ((neg ax R).map F)) (.int 0) = some (F h0) := by rw [hN]; exact idxL_0
      have x5 : exec (callF fs gs m) gs (.asg (.nm 7) (.idx (.var 4) (.int 0))) (EC R ax kn ((pos ax R).map F) ((neg ax R).map F) (some (.val (F lo))) q6 none) s = .ok (.nx (EC R ax kn ((pos ax R).map F) ((neg ax R).map F) (some (.val (F lo))) q6 (some (.val (F h0))))) s := by
        generalize (neg ax R).map F = NN at *
        simp [EC, j0]
      rw [call_at (f := c_chosen) rfl rfl, eb, es, execs_c, x0, nextF_nx, execs_c, x1, nextF_nx, execs_c, x2, nextF_nx, execs_c, exec_for, ef3, ei3, ok_bind, e3, nextF_nx, execs_c, x4, nextF_nx, execs_c, x5, nextF_nx, execs_c, exec_for, ef4, ei4, ok_bind, e4, nextF_nx]
      simp [EC, frzR, esum, etm, borrows, isOwn]
    · rw [hbd]; exact alo r (List.mem_filter.mpr ⟨hr, decide_eq_true z⟩)
    · rw [hbd]; exact ahi r (List.mem_filter.mpr ⟨hr, decide_eq_true z⟩)
end
end PV.K22
set_option maxRecDepth 100000
set_option maxHeartbeats 4000000
namespace PV.K22
open PySem PV
section
variable {n : Nat} {s : Sto} {ws : List V3} {k ax : Nat} {R : List Row}
theorem mem_A {ax : Nat} (h : ax < 3) : rowA ws.length ax ∈ firstRows ws k := List.mem_append_right _ (List.mem_map.mpr ⟨ax, List.mem_range.mpr h, rfl⟩)
theorem A1_in : rowA ws.length 1 ∈ lay1 ws k := mem_without.mpr (.inl ⟨mem_A (by omega), rfl⟩)
theorem A0_in : rowA ws.length 0 ∈ lay2 ws k := mem_without.mpr (.inl ⟨mem_without.mpr (.inl ⟨mem_A (by omega), rfl⟩), rfl⟩)
theorem Rt.nolst {b : Nat} {r : Rat} {d : D} (h : Rt b r d) : nolst? d = true := by
  obtain ⟨p, q, rfl, _⟩ := h; rfl
def scl (q0 q1 q2 : Int) : Int := q0 * q1 * q2
def EP (ws : List V3) (k : Nat) (L : List D) (o4 o5 : Option SV) : Env := [some (.val (wsD ws)), some (.val (.int k)), some (.val (layD ws k)), some (.own L), o4, o5, none, none, none, none]
def bPa : Sms := (.c (.app 3 (.call 16 (.c (.idx (.var 2) (.bin .sub (.bin .sub (.gl 0) (.int 1)) (.var 4))) (.c (.var 4) (.c (.var 3) .nil))))) .nil)
theorem pa_step {L : List D} {R : List Row} {d : D} {j : Int} {o4 o5 : Option SV} (e : callF fs gs n 16 [rwsD R, .int j, .lst L] s = .ok d s) (hd : nolst? d = true) (hs : nolstS? s = true) (hi : idxD (layD ws k) (.int (3 - 1 - j)) = some (rwsD R)) (hL : L.length < 10) :
    stepF (callF fs gs n) gs (.nm 4) bPa (.int j) (EP ws k L o4 o5) s = .ok (.nx (EP ws k (L ++ [d]) (some (.val (.int j))) o5)) s := by
  have g0 : gs[0]? = some (.int 3) := rfl
  have dl : ∀ s : Sto, deref s (layD ws k) = layD ws k := fun _ => rfl
  have hl : L.length < LINE := by show _ < 16777216; omega
  unfold stepF EP
  generalize layD ws k = LL at *
  generalize rwsD R = RR at *
  have hi : idxD LL (.int (2 - j)) = some RR := by
    have : (2 - j : Int) = 3 - 1 - j := by omega
    rw [this]; exact hi
  simp [bPa, g0, dl, hi, e, hd, hs, chg, hl, borrows, isOwn]
theorem cho_eq {R : List Row} {f g : Row → Rat} {ax : Nat} {x : Rat} (h : Cho R f ax x) (e : ∀ r, f r = g r) : Cho R g ax x := by
  have : f = g := funext e
  rwa [← this]
def prt (S : Int) (p : Int × Int) : Int := p.1 * (S / p.2)
theorem prt_val {p q S m : Int} (hq : 0 < q) (e : S = q * m) : ((prt S (p, q) : Int) : Rat) = ((p : Rat) / (q : Rat)) * (S : Rat) := by
  unfold prt
  rw [e, Int.mul_ediv_cancel_left _ (by omega), Rat.intCast_mul, Rat.intCast_mul]
  have := rat_ne hq
  grind
theorem e_paces (B : WB ws) (hk : k < ws.length) (hs : nolstS? s = true) (hn : 6 ≤ n) :
    ((lay3 ws k).any (·.st) = true → callF fs gs n 17 [wsD ws, .int k] s = .ok .non s) ∧
    ((lay3 ws k).any (·.st) = false → ∃ p : V3, callF fs gs n 17 [wsD ws, .int k] s = .ok (v3D p) s ∧ Least ws k p ∧ Bt 1745 p.1 ∧ Bt 1745 p.2.1 ∧ Bt 1745 p.2.2) := by
  obtain ⟨m, rfl, hm⟩ := sc hn
  obtain ⟨⟨z0, z1, z2, z3⟩, r0, r1, r2, r3⟩ := lays B hk
  have el := e_layers (n := m) (s := s) B hk (by omega)
  have dl : ∀ s : Sto, deref s (layD ws k) = layD ws k := fun _ => rfl
  have ll := lay_last (ws := ws) (k := k)
  have it : items? (rwsD (lay3 ws k)) = some ((lay3 ws k).map rwD) := rfl
  have ec : ∀ env, env = [some (SV.val (wsD ws)), some (.val (.int k)), some (.val (layD ws k)), none, none, none, none, none, none, none] → evF (callF fs gs m) gs (.cp1 (.var 7) (.tp (.c (.nm 6) (.c (.nm 7) (.c (.nm 6) .nil)))) (.seq (.idx (.var 2) (.neg (.int 1)))) .n [6, 7]) env s = .ok ((lay3 ws k).map fun r => .bl r.st) s := by
    rintro env rfl
    refine cp1_map (xs := lay3 ws k) (mk := rwD) ?_ (fun r hr => ⟨_, by unfold rwD; rfl, ?_⟩) (by show _ ≤ 16777216; omega)
    · generalize layD ws k = LL at *
      generalize rwsD (lay3 ws k) = R3 at *
      simp [dl, ll, it]
    · simp [noOwn, wipeE]
  have ec := ec _ rfl
  have ea := any_bl (l := (lay3 ws k).map (·.st))
  rw [List.map_map] at ea
  have e0 : List.map (D.bl ∘ fun r => r.st) (lay3 ws k) = (lay3 ws k).map fun r => .bl r.st := rfl
  rw [e0] at ea
  have e1 : ((lay3 ws k).map (·.st)).any id = (lay3 ws k).any (·.st) := by rw [List.any_map]; rfl
  rw [e1] at ea
  rw [call_at (f := c_paces_for) rfl rfl]
  have eb : c_paces_for.body = .c (.asg (.nm 2) (.call 12 (.c (.var 0) (.c (.var 1) .nil)))) (.c (.ite (.blt .any (.c (.fz (.cp1 (.var 7) (.tp (.c (.nm 6) (.c (.nm 7) (.c (.nm 6) .nil)))) (.seq (.idx (.var 2) (.neg (.int 1)))) .n [6, 7])) .nil)) (.c (.ret .non) .nil) .nil) (.c (.own 3 (.dsp .nil)) (.c (.for (.nm 4) (.rg1 (.gl 0)) bPa) (.c (.asg (.nm 5) (.bin .mul (.bin .mul (.idx (.idx (.var 3) (.int 0)) (.int 1)) (.idx (.idx (.var 3) (.int 1)) (.int 1))) (.idx (.idx (.var 3) (.int 2)) (.int 1)))) (.c (.ret (.blt .tup (.c (.fz (.cp1 (.bin .mul (.var 8) (.bin .div (.var 5) (.var 9))) (.tp (.c (.nm 8) (.c (.nm 9) .nil))) (.seq (.var 3)) .n [8, 9])) .nil))) .nil))))) := rfl
  have es : startE c_paces_for.N.length [wsD ws, .int k] = [some (SV.val (wsD ws)), some (.val (.int k)), none, none, none, none, none, none, none, none] := rfl
  have x0 : exec (callF fs gs m) gs (.asg (.nm 2) (.call 12 (.c (.var 0) (.c (.var 1) .nil)))) [some (SV.val (wsD ws)), some (.val (.int k)), none, none, none, none, none, none, none, none] s = .ok (.nx [some (SV.val (wsD ws)), some (.val (.int k)), some (.val (layD ws k)), none, none, none, none, none, none, none]) s := by
    generalize layD ws k = LL at *
    generalize wsD ws = WW at *
    simp [el, borrows, isOwn]
  rw [eb, es, execs_c, x0, nextF_nx]
  refine ⟨fun h => ?_, fun h => ?_⟩
  · rw [h] at ea
    generalize (lay3 ws k).map (fun r => D.bl r.st) = M at *
    generalize layD ws k = LL at *
    simp [ec, ea, frzR]
  · rw [h] at ea
    have x1 : exec (callF fs gs m) gs (.ite (.blt .any (.c (.fz (.cp1 (.var 7) (.tp (.c (.nm 6) (.c (.nm 7) (.c (.nm 6) .nil)))) (.seq (.idx (.var 2) (.neg (.int 1)))) .n [6, 7])) .nil)) (.c (.ret .non) .nil) .nil) [some (SV.val (wsD ws)), some (.val (.int k)), some (.val (layD ws k)), none, none, none, none, none, none, none] s = .ok (.nx [some (SV.val (wsD ws)), some (.val (.int k)), some (.val (layD ws k)), none, none, none, none, none, none, none]) s := by
      generalize (lay3 ws k).map (fun r => D.bl r.st) = M at *
      generalize layD ws k = LL at *
      simp [ec, ea]
    have x2 : exec (callF fs gs m) gs (.own 3 (.dsp .nil)) [some (SV.val (wsD ws)), some (.val (.int k)), some (.val (layD ws k)), none, none, none, none, none, none, none] s = .ok (.nx (EP ws k [] none none)) s := by
      simp [EP]
    have noS : ∀ r ∈ lay3 ws k, r.st = false := fun r hr => by
      have := List.any_eq_false.mp h r hr
      simpa using this
    obtain ⟨d0, t0, c0, b0', h0⟩ := e_chosen (n := m) (R := lay2 ws k) (ax := 0) (br := 27) (β := 1) (kn := []) (fun r h => (r2 r h).1) (by omega) (by omega) (by omega) ⟨_, A0_in, (by show (0 : Int) < 1; decide)⟩ (fun p h => by cases h) (by simp) (by simp) hm
    have b0 : Rt 59 t0 d0 := b0'.up (by simp)
    clear b0'
    have k1 : ∀ p ∈ [(d0, t0)], Rt 59 p.2 p.1 := fun p hp => by rw [List.mem_singleton.mp hp]; exact b0
    obtain ⟨d1, t1, c1, b1', h1⟩ := e_chosen (n := m) (R := lay1 ws k) (ax := 1) (br := 13) (β := 59) (kn := [(d0, t0)]) (fun r h => (r1 r h).1) (by omega) (by omega) (by omega) ⟨_, A1_in, (by show (0 : Int) < 1; decide)⟩ k1 (by simp) (by simp) hm
    have b1 : Rt 177 t1 d1 := b1'.up (by simp)
    clear b1'
    have k2 : ∀ p ∈ [(d0, t0), (d1, t1)], Rt 177 p.2 p.1 := fun p hp => by
      simp only [List.mem_cons, List.not_mem_nil, or_false] at hp
      rcases hp with rfl | rfl
      · exact b0.up (by omega)
      · exact b1
    obtain ⟨d2, t2, c2, b2', h2⟩ := e_chosen (n := m) (R := firstRows ws k) (ax := 2) (br := 6) (β := 177) (kn := [(d0, t0), (d1, t1)]) (fun r h => (r0 r h).1) (by omega) (by omega) (by omega) ⟨_, mem_A (ax := 2) (by omega), (by show (0 : Int) < 1; decide)⟩ k2 (by simp) (by simp) hm
    have b2 : Rt 753 t2 d2 := b2'.up (by simp)
    clear b2'
    have sat := three noS (cho_eq h0 fun r => rfl) (cho_eq (g := f1 t0) h1 fun r => by
      show (vat r.v 0 : Rat) * t0 + 0 = (vat r.v 0 : Rat) * t0
      grind) (cho_eq (g := f2 t0 t1) h2 fun r => by
      show (vat r.v 0 : Rat) * t0 + ((vat r.v 1 : Rat) * t1 + 0) = (vat r.v 0 : Rat) * t0 + (vat r.v 1 : Rat) * t1
      grind)
    have c0 : callF fs gs m 16 [rwsD (lay2 ws k), .int 0, .lst []] s = .ok d0 s := c0 s
    have c1 : callF fs gs m 16 [rwsD (lay1 ws k), .int 1, .lst [d0]] s = .ok d1 s := c1 s
    have c2 : callF fs gs m 16 [rwsD (firstRows ws k), .int 2, .lst [d0, d1]] s = .ok d2 s := c2 s
    have s0 := pa_step (n := m) (s := s) (ws := ws) (k := k) (L := []) (o4 := none) (o5 := none) c0 b0.nolst hs rfl (by simp)
    have s1 := pa_step (n := m) (s := s) (ws := ws) (k := k) (L := [d0]) (o4 := some (.val (.int 0))) (o5 := none) c1 b1.nolst hs rfl (by simp)
    have s2 := pa_step (n := m) (s := s) (ws := ws) (k := k) (L := [d0, d1]) (o4 := some (.val (.int 1))) (o5 := none) c2 b2.nolst hs rfl (by simp)
    have ei : evI (callF fs gs m) gs false (.rg1 (.gl 0)) (EP ws k [] none none) s = .ok [.int 0, .int 1, .int 2] s := by
      have g0 : gs[0]? = some (.int 3) := rfl
      have r : rng1? (.int 3) = some [.int 0, .int 1, .int 2] := by rfl
      simp only [evI_rg1, ev_gl, g0, lift_some, ok_bind, r]
    have ef : frzI (EP ws k [] none none) (.rg1 (.gl 0)) = EP ws k [] none none := rfl
    obtain ⟨p0, q0, rfl, g01, g02, g03, g04⟩ := b0
    obtain ⟨p1, q1, rfl, g11, g12, g13, g14⟩ := b1
    obtain ⟨p2, q2, rfl, g21, g22, g23, g24⟩ := b2
    have m1 := mul_bt g04 g14 (by omega)
    have m2 := mul_bt (g04.mul g14) g24 (by omega)
    have bS : Bt 989 (q0 * q1 * q2) := (g04.mul g14).mul g24
    have S0 : 0 < q0 * q1 * q2 := Int.mul_pos (Int.mul_pos g01 g11) g21
    have hx : ∀ p ∈ [(p0, q0), (p1, q1), (p2, q2)], 0 < p.2 ∧ Bt 753 p.1 ∧ Bt 753 p.2 := fun p hp => by
      simp only [List.mem_cons, List.not_mem_nil, or_false] at hp
      rcases hp with rfl | rfl | rfl
      · exact ⟨g01, g03.up (by omega), g04.up (by omega)⟩
      · exact ⟨g11, g13.up (by omega), g14.up (by omega)⟩
      · exact ⟨g21, g23, g24⟩
    have bq : ∀ p ∈ [(p0, q0), (p1, q1), (p2, q2)], Bt 1745 (prt (q0 * q1 * q2) p) := fun p hp => by
      obtain ⟨u1, u2, u3⟩ := hx p hp
      have : Bt 989 (q0 * q1 * q2 / p.2) := bS.le (Int.natAbs_ediv_le_natAbs _ _)
      exact (u2.mul this).up (by omega)
    refine ⟨(prt (q0 * q1 * q2) (p0, q0), prt (q0 * q1 * q2) (p1, q1), prt (q0 * q1 * q2) (p2, q2)), ?_, ?_, bq _ (by simp), bq _ (by simp), bq _ (by simp)⟩
    · rw [execs_c, x1, nextF_nx, execs_c, x2, nextF_nx, execs_c, exec_for, ef, ei, ok_bind, forF_cons, s0, nextL_nx, List.nil_append, forF_cons, s1, nextL_nx, forF_cons]
      have e2' : ([D.tup [.int p0, .int q0]] ++ [D.tup [.int p1, .int q1]] : List D) = [.tup [.int p0, .int q0], .tup [.int p1, .int q1]] := rfl
      rw [e2', s2, nextL_nx, forF_nil, nextF_nx]
      have e3' : ([D.tup [.int p0, .int q0], .tup [.int p1, .int q1]] ++ [D.tup [.int p2, .int q2]] : List D) = [.tup [.int p0, .int q0], .tup [.int p1, .int q1], .tup [.int p2, .int q2]] := rfl
      rw [e3']
      have ep : ∀ env, env = EP ws k [.tup [.int p0, .int q0], .tup [.int p1, .int q1], .tup [.int p2, .int q2]] (some (.val (.int 2))) (some (.val (.int (q0 * q1 * q2)))) → evF (callF fs gs m) gs (.cp1 (.bin .mul (.var 8) (.bin .div (.var 5) (.var 9))) (.tp (.c (.nm 8) (.c (.nm 9) .nil))) (.seq (.var 3)) .n [8, 9]) env s = .ok ([(p0, q0), (p1, q1), (p2, q2)].map fun p => .int (prt (q0 * q1 * q2) p)) s := by
        rintro env rfl
        refine cp1_map (xs := [(p0, q0), (p1, q1), (p2, q2)]) (mk := fun p => D.tup [.int p.1, .int p.2]) (by simp [EP, items?]) (fun p hp => ⟨_, rfl, ?_⟩) (by show 3 ≤ 16777216; omega)
        obtain ⟨u1, u2, u3⟩ := hx p hp
        have v1 := div_bt (i := q0 * q1 * q2) u1 u3 (by omega)
        have v2 := mul_bt u2 (bS.le (Int.natAbs_ediv_le_natAbs _ p.2)) (by omega)
        generalize q0 * q1 * q2 = S at *
        unfold prt
        simp [EP, noOwn, wipeE, v1, v2, -bin_mul, -bin_div]
      have ep := ep _ rfl
      have x4 : exec (callF fs gs m) gs (.asg (.nm 5) (.bin .mul (.bin .mul (.idx (.idx (.var 3) (.int 0)) (.int 1)) (.idx (.idx (.var 3) (.int 1)) (.int 1))) (.idx (.idx (.var 3) (.int 2)) (.int 1)))) (EP ws k [.tup [.int p0, .int q0], .tup [.int p1, .int q1], .tup [.int p2, .int q2]] (some (.val (.int 2))) none) s = .ok (.nx (EP ws k [.tup [.int p0, .int q0], .tup [.int p1, .int q1], .tup [.int p2, .int q2]] (some (.val (.int 2))) (some (.val (.int (q0 * q1 * q2)))))) s := by
        simp [EP, m1, m2, -bin_mul]
      rw [execs_c, x4, nextF_nx]
      have ev : D.tup ([(p0, q0), (p1, q1), (p2, q2)].map fun p => D.int (prt (q0 * q1 * q2) p)) = v3D (prt (q0 * q1 * q2) (p0, q0), prt (q0 * q1 * q2) (p1, q1), prt (q0 * q1 * q2) (p2, q2)) := rfl
      rw [← ev]
      have ef2 : frzR (EP ws k [.tup [.int p0, .int q0], .tup [.int p1, .int q1], .tup [.int p2, .int q2]] (some (.val (.int 2))) (some (.val (.int (q0 * q1 * q2))))) (.blt .tup (.c (.fz (.cp1 (.bin .mul (.var 8) (.bin .div (.var 5) (.var 9))) (.tp (.c (.nm 8) (.c (.nm 9) .nil))) (.seq (.var 3)) .n [8, 9])) .nil)) = EP ws k [.tup [.int p0, .int q0], .tup [.int p1, .int q1], .tup [.int p2, .int q2]] (some (.val (.int 2))) (some (.val (.int (q0 * q1 * q2)))) := rfl
      generalize ([(p0, q0), (p1, q1), (p2, q2)].map fun p => D.int (prt (q0 * q1 * q2) p)) = LL at *
      rw [execs_c, exec_ret, ef2]
      simp only [ev_blt, evL_c, ev_fz, ep, ok_bind, evL_nil, List.map_cons, List.map_nil, deref_lst, blt_tupL, lift_some, nextF_ret, retOf_ret]
    · have sS : ((q0 * q1 * q2 : Int) : Rat) > 0 := rat_pos S0
      refine least_of (S := ((q0 * q1 * q2 : Int) : Rat)) sat sS ?_ ?_ ?_
      · rw [g02]; exact prt_val (m := q1 * q2) g01 (by rw [Int.mul_assoc])
      · rw [g12]; exact prt_val (m := q0 * q2) g11 (by grind)
      · rw [g22]; exact prt_val (m := q0 * q1) g21 (by grind)
end
end PV.K22
set_option maxRecDepth 100000
set_option maxHeartbeats 4000000
namespace PV
open PySem
theorem ok_ofString (x : String) : PyData.strOk (Str.ofString x) = true := by
  rw [Str.ofString_eq_toList]
  unfold PyData.strOk
  simp only [List.all_toArray, List.all_map, List.all_eq_true, Function.comp]
  intro c _
  have := c.valid
  rw [decide_eq_true_eq]
  rcases this with h | h
  · show c.val.toNat < _
    omega
  · exact h.2
theorem Bt.sum {b : Nat} : ∀ {l : List Int}, (∀ x ∈ l, Bt b x) → Bt (b + l.length) l.sum
  | [], _ => by
    show (0 : Int).natAbs < _
    exact Nat.pow_pos (by omega)
  | x :: l, h => by
    have ih := Bt.sum (l := l) fun y hy => h y (List.mem_cons_of_mem _ hy)
    have hx := (h x List.mem_cons_self).up (b := b + l.length) (by omega)
    rw [List.sum_cons, List.length_cons]
    exact (hx.add2 ih).up (by omega)
/-- values with ints of at most b bits -/
inductive SB (b : Nat) : Nat → D → Prop
  | non {k : Nat} : SB b k .non
  | int {k : Nat} {i : Int} : Bt b i → SB b k (.int i)
  | bl {k : Nat} {x : Bool} : SB b k (.bl x)
  | str {k : Nat} {x : Str} : PyData.strOk x = true → SB b k (.str x)
  | tup {k : Nat} {ds : List D} : ds.length ≤ 1000 → (∀ d ∈ ds, SB b k d) → SB b (k + 1) (.tup ds)
  | lst {k : Nat} {ds : List D} : ds.length ≤ 1000 → (∀ d ∈ ds, SB b k d) → SB b (k + 1) (.lst ds)
theorem SB.sim {b k : Nat} {d : D} (h : SB b k d) : Sim k d := by
  induction h with
  | non => exact .non
  | int => exact .int
  | bl => exact .bl
  | str h => exact .str h
  | tup h _ ih => exact .tup (by omega) ih
  | lst h _ ih => exact .lst (by omega) ih
theorem SB.lenT {b k : Nat} {ds : List D} (h : SB b k (.tup ds)) : ds.length ≤ 1000 := by
  cases h with
  | tup h _ => exact h
theorem SB.memT {b k : Nat} {ds : List D} (h : SB b k (.tup ds)) : ∀ d ∈ ds, ∃ j, SB b j d := by
  cases h with
  | tup _ h => exact fun d hd => ⟨_, h d hd⟩
theorem SB.up {b j k : Nat} {d : D} (h : SB b j d) : j ≤ k → SB b k d := by
  induction h generalizing k with
  | non => exact fun _ => .non
  | int h => exact fun _ => .int h
  | bl => exact fun _ => .bl
  | str h => exact fun _ => .str h
  | tup h _ ih =>
    intro hk
    obtain ⟨m, rfl⟩ : ∃ m, k = m + 1 := ⟨k - 1, by omega⟩
    exact .tup h fun d hd => ih d hd (by omega)
  | lst h _ ih =>
    intro hk
    obtain ⟨m, rfl⟩ : ∃ m, k = m + 1 := ⟨k - 1, by omega⟩
    exact .lst h fun d hd => ih d hd (by omega)
theorem sum_ints {l : List Int} : bltD .sum [.lst (l.map D.int)] = some (.int l.sum) := by
  show (ints? (l.map D.int)).map _ = _
  rw [ints_map]; rfl
theorem sum_intsT {l : List Int} : bltD .sum [.tup (l.map D.int)] = some (.int l.sum) := by
  show (ints? (l.map D.int)).map _ = _
  rw [ints_map]; rfl
end PV
namespace PV.K22
open PySem PV
section
variable {n : Nat} {s : Sto} {ws : List V3} {k b : Nat}
def nnb (least : Int) : D → Bool
  | .int i => decide (least ≤ i)
  | _ => false
def areB (v : D) (size : Nat) (least : Int) : Bool := match v with
  | .tup ds => decide (ds.length = size) && ds.all (nnb least)
  | _ => false
theorem nnb_eq {least : Int} {d : D} (h : nnb least d = true) : ∃ i, d = .int i ∧ least ≤ i := by
  unfold nnb at h
  split at h
  · exact ⟨_, rfl, of_decide_eq_true h⟩
  · cases h
theorem all_nnb {least : Int} : ∀ {ds : List D}, ds.all (nnb least) = true → ∃ l : List Int, ds = l.map D.int ∧ ∀ x ∈ l, least ≤ x
  | [], _ => ⟨[], rfl, fun x h => by cases h⟩
  | d :: ds, h => by
    rw [List.all_cons, Bool.and_eq_true] at h
    obtain ⟨i, rfl, hi⟩ := nnb_eq h.1
    obtain ⟨l, rfl, hl⟩ := all_nnb h.2
    exact ⟨i :: l, rfl, fun x hx => (List.mem_cons.mp hx).elim (fun e => e ▸ hi) (hl x)⟩
theorem areB_eq {v : D} {size : Nat} {least : Int} (h : areB v size least = true) : ∃ l : List Int, v = .tup (l.map D.int) ∧ l.length = size ∧ ∀ x ∈ l, least ≤ x := by
  unfold areB at h
  split at h
  · rw [Bool.and_eq_true] at h
    obtain ⟨l, rfl, hl⟩ := all_nnb h.2
    have := of_decide_eq_true h.1
    rw [List.length_map] at this
    exact ⟨l, rfl, this, hl⟩
  · cases h
theorem SB.intsB {j : Nat} {l : List Int} (h : SB b j (.tup (l.map D.int))) : ∀ x ∈ l, Bt b x := fun x hx => by
  obtain ⟨m, hm⟩ := h.memT (.int x) (List.mem_map.mpr ⟨x, hx, rfl⟩)
  cases hm with
  | int h => exact h
theorem e_whole {j : Nat} {d : D} (h : SB b j d) (hn : 1 ≤ n) : callF fs gs n 0 [d] s = .ok (.bl (match d with
    | .int _ => true
    | _ => false)) s := by
  obtain ⟨m, rfl, hm⟩ := sc hn
  rw [call_at (f := c_is_whole) rfl rfl]
  cases h with
  | _ => simp [c_is_whole, startE, List.replicate, frzR]
theorem e_are {j : Nat} {v : D} {size : Nat} {least : Int} (h : SB b j v) (hn : 1 ≤ n) : callF fs gs n 24 [v, .int size, .int least] s = .ok (.bl (areB v size least)) s := by
  obtain ⟨m, rfl, hm⟩ := sc hn
  rw [call_at (f := c__law_are) rfl rfl]
  cases v with
  | tup ds =>
    have hz := h.lenT
    have e : ∀ env, env = [some (SV.val (.tup ds)), some (.val (.int size)), some (.val (.int least)), none] → evF (callF fs gs m) gs (.cp1 (.bop true (.c (.isi (.var 3) .int) (.c (.not (.isi (.var 3) .bool)) (.c (.cmp .ge (.var 3) (.var 2)) .nil)))) (.nm 3) (.seq (.var 0)) .n [3]) env s = .ok (ds.map fun d => .bl (nnb least d)) s := by
      rintro env rfl
      refine cp1_map (xs := ds) (mk := id) (by simp [items?]) (fun d hd => ⟨_, rfl, ?_⟩) (by show _ ≤ 16777216; omega)
      obtain ⟨j, hj⟩ := h.memT d hd
      cases hj with
      | _ => simp [noOwn, wipeE, nnb]
    have e := e _ rfl
    have ea := all_bl (l := ds.map (nnb least))
    rw [List.map_map] at ea
    have e0 : List.map (D.bl ∘ nnb least) ds = ds.map fun d => .bl (nnb least d) := rfl
    rw [e0] at ea
    have e1 : (ds.map (nnb least)).all id = ds.all (nnb least) := by rw [List.all_map]; rfl
    rw [e1] at ea
    have el := eq_len (a := ds.length) (b := size)
    have el : cmpD .eq (.int ds.length) (.int size) = some (decide (ds.length = size)) := el
    have ev : areB (.tup ds) size least = (decide (ds.length = size) && ds.all (nnb least)) := rfl
    rw [ev]
    generalize ds.map (fun d => D.bl (nnb least d)) = M at *
    generalize ds.all (nnb least) = B at *
    by_cases c : ds.length = size
    · rw [decide_eq_true c] at el ⊢
      simp [c__law_are, startE, List.replicate, frzR, el, e, ea, -eq_int]
    · rw [decide_eq_false c] at el ⊢
      simp [c__law_are, startE, List.replicate, frzR, el, -eq_int]
  | rol _ => cases h
  | loc _ => cases h
  | _ => simp [c__law_are, startE, List.replicate, frzR, areB]
theorem timeV_sum {u p : V3} : [u.1 * p.1, u.2.1 * p.2.1, u.2.2 * p.2.2].sum = timeV u p := by
  unfold timeV
  simp only [List.sum_cons, List.sum_nil]
  omega
theorem bt_v {p : V3} (h0 : Bt b p.1) (h1 : Bt b p.2.1) (h2 : Bt b p.2.2) : ∀ i, Bt b (vat p i) := fun i => by
  unfold vat
  split
  · exact h0
  · split
    · exact h1
    · exact h2
theorem e_wtime {u p : V3} (hu : ∀ i, Bt 5 (vat u i)) (hp : ∀ i, Bt b (vat p i)) (hb : b ≤ 3000) (hn : 1 ≤ n) : callF fs gs n 7 [v3D u, v3D p] s = .ok (.int (timeV u p)) s := by
  obtain ⟨m, rfl, hm⟩ := sc hn
  rw [call_at (f := c_work_time) rfl rfl]
  have e : ∀ env, env = [some (SV.val (v3D u)), some (.val (v3D p)), none, none] → evF (callF fs gs m) gs (.cp1 (.bin .mul (.var 2) (.var 3)) (.tp (.c (.nm 2) (.c (.nm 3) .nil))) (.zip (.var 0) (.var 1)) .n [2, 3]) env s = .ok ([(u.1, p.1), (u.2.1, p.2.1), (u.2.2, p.2.2)].map fun p => D.int (p.1 * p.2)) s := by
    rintro env rfl
    refine cp1_map (xs := [(u.1, p.1), (u.2.1, p.2.1), (u.2.2, p.2.2)]) (mk := fun p => D.tup [.int p.1, .int p.2]) (by simp [zip_v3]) (fun q hq => ⟨_, rfl, ?_⟩) (by show 3 ≤ 16777216; omega)
    have bq : Bt 5 q.1 ∧ Bt b q.2 := by
      simp only [List.mem_cons, List.not_mem_nil, or_false] at hq
      rcases hq with rfl | rfl | rfl
      · exact ⟨hu 0, hp 0⟩
      · exact ⟨hu 1, hp 1⟩
      · exact ⟨hu 2, hp 2⟩
    have mu := mul_bt bq.1 bq.2 (by omega)
    simp [noOwn, wipeE, mu, -bin_mul]
  have e := e _ rfl
  have su := sum_ints (l := [u.1 * p.1, u.2.1 * p.2.1, u.2.2 * p.2.2])
  rw [timeV_sum] at su
  have e2 : ([(u.1, p.1), (u.2.1, p.2.1), (u.2.2, p.2.2)].map fun p => D.int (p.1 * p.2)) = [u.1 * p.1, u.2.1 * p.2.1, u.2.2 * p.2.2].map D.int := rfl
  rw [e2] at e
  generalize [u.1 * p.1, u.2.1 * p.2.1, u.2.2 * p.2.2].map D.int = M at *
  simp [c_work_time, startE, List.replicate, frzR, e, su]
theorem e_ltime {u p : V3} (hu : ∀ i, Bt 5 (vat u i)) (hp : ∀ i, Bt b (vat p i)) (hb : b ≤ 3000) (hn : 1 ≤ n) : callF fs gs n 25 [v3D u, v3D p] s = .ok (.int (timeV u p)) s := by
  obtain ⟨m, rfl, hm⟩ := sc hn
  rw [call_at (f := c__law_time) rfl rfl]
  have r3 := rng1_nat (W := 3) (by omega)
  have r3 : rng1? (.int 3) = some ((List.range 3).map fun (a : Nat) => D.int a) := r3
  have e : ∀ env, env = [some (SV.val (v3D u)), some (.val (v3D p)), none] → evF (callF fs gs m) gs (.cp1 (.bin .mul (.idx (.var 0) (.var 2)) (.idx (.var 1) (.var 2))) (.nm 2) (.rg1 (.int 3)) .n [2]) env s = .ok ((List.range 3).map fun a => D.int (vat u a * vat p a)) s := by
    rintro env rfl
    refine cp1_map (xs := List.range 3) (mk := fun (a : Nat) => D.int a) (by simp only [evI_rg1, ev_int, ok_bind, r3, lift_some]) (fun a ha => ⟨_, rfl, ?_⟩) (by show 3 ≤ 16777216; omega)
    have ha := List.mem_range.mp ha
    have mu := mul_bt (hu a) (hp a) (by omega)
    have i1 := idx_vat (v := u) ha
    have i2 := idx_vat (v := p) ha
    have d1 : ∀ s : Sto, deref s (v3D u) = v3D u := fun _ => rfl
    have d2 : ∀ s : Sto, deref s (v3D p) = v3D p := fun _ => rfl
    simp [noOwn, wipeE, mu, i1, i2, d1, d2, -bin_mul]
  have e := e _ rfl
  have su := sum_ints (l := [u.1 * p.1, u.2.1 * p.2.1, u.2.2 * p.2.2])
  rw [timeV_sum] at su
  have e2 : ((List.range 3).map fun a => D.int (vat u a * vat p a)) = [u.1 * p.1, u.2.1 * p.2.1, u.2.2 * p.2.2].map D.int := rfl
  rw [e2] at e
  generalize [u.1 * p.1, u.2.1 * p.2.1, u.2.2 * p.2.2].map D.int = M at *
  simp [c__law_time, startE, List.replicate, frzR, e, su]
/-! ### is it the least by these paces -/
def lstB (ws : List V3) (k : Nat) : D → Bool
  | .tup [.int a, .int b, .int c] => (decide (1 ≤ a) && (decide (1 ≤ b) && decide (1 ≤ c))) && ws.all fun u => decide (timeV (wk ws k) (a, b, c) ≤ timeV u (a, b, c))
  | _ => false
theorem lst_are {v : D} (h : lstB ws k v = true) : areB v 3 1 = true := by
  unfold lstB at h
  split at h
  · rw [Bool.and_eq_true] at h
    rename_i a b c
    have h := h.1
    show (decide ([D.int a, .int b, .int c].length = 3) && (nnb 1 (.int a) && (nnb 1 (.int b) && (nnb 1 (.int c) && true)))) = true
    rw [Bool.and_true]
    exact h
  · cases h
theorem lst_least {v : D} (h : lstB ws k v = true) : ∃ p : V3, v = v3D p ∧ Least ws k p := by
  unfold lstB at h
  split at h
  · rename_i a b c
    simp only [Bool.and_eq_true, decide_eq_true_eq, List.all_eq_true] at h
    exact ⟨(a, b, c), rfl, ⟨by show 0 < a; omega, by show 0 < b; omega, by show 0 < c; omega⟩, h.2⟩
  · cases h
theorem least_lst {p : V3} (h : Least ws k p) : lstB ws k (v3D p) = true := by
  show ((decide (1 ≤ p.1) && (decide (1 ≤ p.2.1) && decide (1 ≤ p.2.2))) && ws.all fun u => decide (timeV (wk ws k) p ≤ timeV u p)) = true
  simp only [Bool.and_eq_true, decide_eq_true_eq, List.all_eq_true]
  obtain ⟨⟨h0, h1, h2⟩, h3⟩ := h
  exact ⟨⟨by omega, by omega, by omega⟩, h3⟩
theorem e_times_all {v : D} {p : V3} {env : Env} {slot : Nat} {f : Nat} (B : WB ws) (hk : k < ws.length) (hs : slot = 3 ∨ slot = 3) (h0 : At env 0 (wsD ws)) (h1 : At env 1 (.int k)) (h2 : At env 2 (v3D p)) (hl : 4 ≤ env.length)
    (ht : ∀ u ∈ ws, callF fs gs n f [v3D u, v3D p] s = .ok (.int (timeV u p)) s) :
    evF (callF fs gs n) gs (.cp1 (.cmp .le (.call f (.c (.idx (.var 0) (.var 1)) (.c (.var 2) .nil))) (.call f (.c (.var 3) (.c (.var 2) .nil)))) (.nm 3) (.seq (.var 0)) .n [3]) env s = .ok (ws.map fun u => .bl (decide (timeV (wk ws k) p ≤ timeV u p))) s := by
  refine cp1_map (xs := ws) (mk := v3D) (by simp [h0, wsD, items?]) (fun u hu => ⟨_, bindT_nm, ?_⟩) (by have := B.len; show _ ≤ 16777216; omega)
  have q3 : At ((wipeE (noOwn env) [3]).set 3 (some (.val (v3D u)))) 3 (v3D u) := At.new (by omega)
  have q0 : At ((wipeE (noOwn env) [3]).set 3 (some (.val (v3D u)))) 0 (wsD ws) := h0.inn (by omega)
  have q1 : At ((wipeE (noOwn env) [3]).set 3 (some (.val (v3D u)))) 1 (.int k) := h1.inn (by omega)
  have q2 : At ((wipeE (noOwn env) [3]).set 3 (some (.val (v3D u)))) 2 (v3D p) := h2.inn (by omega)
  generalize (wipeE (noOwn env) [3]).set 3 (some (SV.val (v3D u))) = env2 at *
  have t1 := ht u hu
  have t2 := ht _ (wk_mem hk)
  have ix := idx_ws hk
  have dw : ∀ s : Sto, deref s (wsD ws) = wsD ws := fun _ => rfl
  simp [q0, q1, q2, q3, t1, t2, ix, dw, borrows, isOwn]
theorem all_times {p : V3} : bltD .all [.lst (ws.map fun u => .bl (decide (timeV (wk ws k) p ≤ timeV u p)))] = some (.bl (ws.all fun u => decide (timeV (wk ws k) p ≤ timeV u p))) := by
  have ea := all_bl (l := ws.map fun u => decide (timeV (wk ws k) p ≤ timeV u p))
  rw [List.map_map] at ea
  have e1 : (ws.map fun u => decide (timeV (wk ws k) p ≤ timeV u p)).all id = ws.all fun u => decide (timeV (wk ws k) p ≤ timeV u p) := by rw [List.all_map]; rfl
  rw [e1] at ea
  exact ea
theorem three_of {l : List Int} (h : l.length = 3) : ∃ p : V3, D.tup (l.map D.int) = v3D p ∧ l = [p.1, p.2.1, p.2.2] := by
  match l, h with
  | [a, b, c], _ => exact ⟨(a, b, c), rfl, rfl⟩
theorem e_lleast {j : Nat} {v : D} (B : WB ws) (hk : k < ws.length) (h : SB b j v) (hb : b ≤ 3000) (hn : 2 ≤ n) : callF fs gs n 26 [wsD ws, .int k, v] s = .ok (.bl (lstB ws k v)) s := by
  obtain ⟨m, rfl, hm⟩ := sc hn
  rw [call_at (f := c__law_least) rfl rfl]
  have ea := e_are (n := m) (s := s) (size := 3) (least := 1) h hm
  have ea : callF fs gs m 24 [v, .int 3, .int 1] s = .ok (.bl (areB v 3 1)) s := ea
  cases c : areB v 3 1 with
  | false =>
    rw [c] at ea
    have : lstB ws k v = false := by
      cases e : lstB ws k v with
      | false => rfl
      | true => rw [lst_are e] at c; cases c
    rw [this]
    simp [c__law_least, startE, List.replicate, frzR, ea, borrows, isOwn]
  | true =>
    rw [c] at ea
    obtain ⟨l, rfl, hl, h1⟩ := areB_eq c
    obtain ⟨p, ep, el⟩ := three_of hl
    have hB := SB.intsB h
    have hp : ∀ i, Bt b (vat p i) := bt_v (hB _ (by simp [el])) (hB _ (by simp [el])) (hB _ (by simp [el]))
    have p1 : ∀ x ∈ [p.1, p.2.1, p.2.2], 1 ≤ x := by rw [← el]; exact h1
    rw [ep] at ea ⊢
    have et := e_times_all (n := m) (s := s) (v := v3D p) (p := p) (f := 25) (env := [some (SV.val (wsD ws)), some (.val (.int k)), some (.val (v3D p)), none]) (slot := 3) B hk (.inl rfl) rfl rfl rfl (by simp) fun u hu => e_ltime (B.b u hu) hp hb hm
    have eall := all_times (ws := ws) (k := k) (p := p)
    have ev : lstB ws k (v3D p) = ws.all fun u => decide (timeV (wk ws k) p ≤ timeV u p) := by
      show ((decide (1 ≤ p.1) && (decide (1 ≤ p.2.1) && decide (1 ≤ p.2.2))) && ws.all fun u => decide (timeV (wk ws k) p ≤ timeV u p)) = _
      rw [decide_eq_true (p1 _ (by simp)), decide_eq_true (p1 _ (by simp)), decide_eq_true (p1 _ (by simp))]
      simp
    rw [ev]
    generalize ws.map (fun u => D.bl (decide (timeV (wk ws k) p ≤ timeV u p))) = M at *
    generalize ws.all (fun u => decide (timeV (wk ws k) p ≤ timeV u p)) = T at *
    simp [c__law_least, startE, List.replicate, frzR, ea, et, eall, borrows, isOwn]
theorem e_least_by {j : Nat} {v : D} (B : WB ws) (hk : k < ws.length) (h : SB b j v) (hb : b ≤ 3000) (hn : 2 ≤ n) : callF fs gs n 18 [wsD ws, .int k, v] s = .ok (.bl (lstB ws k v)) s := by
  obtain ⟨m, rfl, hm⟩ := sc hn
  rw [call_at (f := c_is_least_by) rfl rfl]
  have g0 : gs[0]? = some (.int 3) := rfl
  have no : areB v 3 1 = false → lstB ws k v = false := fun c => by
    cases e : lstB ws k v with
    | false => rfl
    | true => rw [lst_are e] at c; cases c
  cases v with
  | tup ds =>
    have hz := h.lenT
    have e : ∀ env, env = [some (SV.val (wsD ws)), some (.val (.int k)), some (.val (.tup ds)), none, none] → evF (callF fs gs m) gs (.cp1 (.bop true (.c (.call 0 (.c (.var 4) .nil)) (.c (.cmp .gt (.var 4) (.int 0)) .nil))) (.nm 4) (.seq (.var 2)) .n [4]) env s = .ok (ds.map fun d => .bl (nnb 1 d)) s := by
      rintro env rfl
      refine cp1_map (xs := ds) (mk := id) (by simp [items?]) (fun d hd => ⟨_, rfl, ?_⟩) (by show _ ≤ 16777216; omega)
      obtain ⟨j, hj⟩ := h.memT d hd
      have ew := e_whole (n := m) (s := s) hj hm
      cases hj with
      | @int _ i hi =>
        have : decide (0 < i) = decide (1 ≤ i) := by congr 1
        simp [noOwn, wipeE, nnb, ew, this, borrows, isOwn]
      | _ => simp [noOwn, wipeE, nnb, ew, borrows, isOwn]
    have e := e _ rfl
    have ea := all_bl (l := ds.map (nnb 1))
    rw [List.map_map] at ea
    have e0 : List.map (D.bl ∘ nnb 1) ds = ds.map fun d => .bl (nnb 1 d) := rfl
    rw [e0] at ea
    have e1 : (ds.map (nnb 1)).all id = ds.all (nnb 1) := by rw [List.all_map]; rfl
    rw [e1] at ea
    have el := ne_len (a := ds.length) (b := 3)
    have el : cmpD .ne (.int ds.length) (.int 3) = some (!decide (ds.length = 3)) := el
    by_cases c : ds.length = 3
    · rw [decide_eq_true c] at el
      cases c2 : ds.all (nnb 1) with
      | false =>
        rw [c2] at ea
        rw [no (by show (decide (ds.length = 3) && ds.all (nnb 1)) = false; rw [c2, Bool.and_false])]
        generalize ds.map (fun d => D.bl (nnb 1 d)) = M at *
        generalize wsD ws = WW at *
        simp [c_is_least_by, startE, List.replicate, frzR, el, e, ea, g0, -ne_int]
      | true =>
        rw [c2] at ea
        have ca : areB (.tup ds) 3 1 = true := by show (decide (ds.length = 3) && ds.all (nnb 1)) = true; rw [c2, decide_eq_true c]; rfl
        obtain ⟨l, el2, hl, h1⟩ := areB_eq ca
        injection el2 with el2
        subst el2
        obtain ⟨p, ep, elp⟩ := three_of hl
        have hB := SB.intsB h
        have hp : ∀ i, Bt b (vat p i) := bt_v (hB _ (by simp [elp])) (hB _ (by simp [elp])) (hB _ (by simp [elp]))
        have p1 : ∀ x ∈ [p.1, p.2.1, p.2.2], 1 ≤ x := by rw [← elp]; exact h1
        have et := e_times_all (n := m) (s := s) (v := v3D p) (p := p) (f := 7) (env := [some (SV.val (wsD ws)), some (.val (.int k)), some (.val (v3D p)), none, none]) (slot := 3) B hk (.inl rfl) rfl rfl rfl (by simp) fun u hu => e_wtime (B.b u hu) hp hb hm
        have eall := all_times (ws := ws) (k := k) (p := p)
        have ev : lstB ws k (v3D p) = ws.all fun u => decide (timeV (wk ws k) p ≤ timeV u p) := by
          show ((decide (1 ≤ p.1) && (decide (1 ≤ p.2.1) && decide (1 ≤ p.2.2))) && ws.all fun u => decide (timeV (wk ws k) p ≤ timeV u p)) = _
          rw [decide_eq_true (p1 _ (by simp)), decide_eq_true (p1 _ (by simp)), decide_eq_true (p1 _ (by simp))]
          simp
        have lt : bltD .len [v3D p] = some (.int 3) := rfl
        have it : isiD (v3D p) .tup = some true := rfl
        have dp : ∀ s : Sto, deref s (v3D p) = v3D p := fun _ => rfl
        have e3 : cmpD .ne (.int 3) (.int 3) = some false := by rw [ne_int]; rfl
        rw [ep] at e ⊢
        rw [ev]
        generalize (l.map D.int).map (fun d => D.bl (nnb 1 d)) = M2 at *
        generalize ws.map (fun u => D.bl (decide (timeV (wk ws k) p ≤ timeV u p))) = M at *
        generalize ws.all (fun u => decide (timeV (wk ws k) p ≤ timeV u p)) = T at *
        generalize v3D p = PP at *
        generalize wsD ws = WW at *
        simp [c_is_least_by, startE, List.replicate, frzR, e3, lt, it, dp, e, ea, et, eall, g0, -ne_int]
    · rw [decide_eq_false c] at el
      rw [no (by show (decide (ds.length = 3) && ds.all (nnb 1)) = false; rw [decide_eq_false c]; rfl)]
      generalize wsD ws = WW at *
      simp [c_is_least_by, startE, List.replicate, frzR, el, g0, -ne_int]
  | rol _ => cases h
  | loc _ => cases h
  | _ =>
    rw [no rfl]
    generalize wsD ws = WW at *
    simp [c_is_least_by, startE, List.replicate, frzR]
end
end PV.K22
set_option maxRecDepth 100000
set_option maxHeartbeats 4000000
namespace PV.K22
open PySem PV
section
variable {n : Nat} {s : Sto} {ws : List V3} {k b : Nat}
/-! ### is it a paper -/
def tl3 (l : List Int) (ws : List V3) : List Int := [told l ws 0, told l ws 1, told l ws 2]
def dl3 (l : List Int) (ws : List V3) (k : Nat) : List Int := [l.sum * vat (wk ws k) 0, l.sum * vat (wk ws k) 1, l.sum * vat (wk ws k) 2]
def cmpB (ws : List V3) (k : Nat) (l : List Int) : Bool := (decide (told l ws 0 ≤ l.sum * vat (wk ws k) 0) && (decide (told l ws 1 ≤ l.sum * vat (wk ws k) 1) && decide (told l ws 2 ≤ l.sum * vat (wk ws k) 2))) && !decide (tl3 l ws = dl3 l ws k)
def wrsB (ws : List V3) (k : Nat) (v : D) : Bool := areB v ws.length 0 && (match v with
  | .tup ds => (match ints? ds with
    | some l => cmpB ws k l
    | none => false)
  | _ => false)
theorem wrs_eq {l : List Int} (hl : l.length = ws.length) (h0 : ∀ x ∈ l, 0 ≤ x) : wrsB ws k (.tup (l.map D.int)) = cmpB ws k l := by
  unfold wrsB
  have : areB (.tup (l.map D.int)) ws.length 0 = true := by
    show (decide ((l.map D.int).length = ws.length) && (l.map D.int).all (nnb 0)) = true
    rw [List.length_map, decide_eq_true hl, List.all_map, Bool.true_and, List.all_eq_true]
    intro x hx
    exact decide_eq_true (h0 x hx)
  rw [this, Bool.true_and]
  simp only [ints_map]
theorem wrs_no {v : D} (h : areB v ws.length 0 = false) : wrsB ws k v = false := by unfold wrsB; rw [h]; rfl
theorem cmp_worse {l : List Int} (hl : l.length = ws.length) (h0 : ∀ x ∈ l, 0 ≤ x) : cmpB ws k l = true ↔ Worse ws k l := by
  unfold cmpB Worse
  simp only [Bool.and_eq_true, decide_eq_true_eq, Bool.not_eq_true', decide_eq_false_iff_not]
  constructor
  · rintro ⟨⟨a0, a1, a2⟩, ne⟩
    refine ⟨hl, h0, fun i hi => ?_, ?_⟩
    · rcases (by omega : i = 0 ∨ i = 1 ∨ i = 2) with rfl | rfl | rfl
      · exact a0
      · exact a1
      · exact a2
    · by_cases c0 : told l ws 0 = l.sum * vat (wk ws k) 0
      · by_cases c1 : told l ws 1 = l.sum * vat (wk ws k) 1
        · by_cases c2 : told l ws 2 = l.sum * vat (wk ws k) 2
          · exact absurd (by unfold tl3 dl3; rw [c0, c1, c2]) ne
          · exact ⟨2, by omega, c2⟩
        · exact ⟨1, by omega, c1⟩
      · exact ⟨0, by omega, c0⟩
  · rintro ⟨-, -, le, i, hi, ne⟩
    refine ⟨⟨le 0 (by omega), le 1 (by omega), le 2 (by omega)⟩, fun e => ?_⟩
    unfold tl3 dl3 at e
    simp only [List.cons.injEq, and_true] at e
    rcases (by omega : i = 0 ∨ i = 1 ∨ i = 2) with rfl | rfl | rfl
    · exact ne e.1
    · exact ne e.2.1
    · exact ne e.2.2
theorem wrs_worse {v : D} (h : wrsB ws k v = true) : ∃ l : List Int, v = .tup (l.map D.int) ∧ Worse ws k l := by
  cases c : areB v ws.length 0 with
  | false => rw [wrs_no c] at h; cases h
  | true =>
    obtain ⟨l, rfl, hl, h0⟩ := areB_eq c
    rw [wrs_eq hl h0] at h
    exact ⟨l, rfl, (cmp_worse hl h0).mp h⟩
theorem ints_dat {l : List Int} : DatK 1 (.lst (l.map D.int)) := DatK.lst fun d hd => by
  obtain ⟨i, _, rfl⟩ := List.mem_map.mp hd; exact DatK.int
open Classical in
theorem ne_ints {a b : List Int} : cmpD .ne (.lst (a.map D.int)) (.lst (b.map D.int)) = some (!decide (a = b)) := by
  rw [neD_eq (t := decide (a = b))]
  rw [eqD_dat (ints_dat.dat (by omega)) (ints_dat.dat (by omega))]
  congr 1
  rw [Bool.eq_iff_iff, decide_eq_true_eq, decide_eq_true_eq]
  constructor
  · intro e
    injection e with e
    exact ints_inj e
  · intro e; rw [e]
theorem zip_lw {l : List Int} : zip? (.tup (l.map D.int)) (wsD ws) = some ((l.zip ws).map fun p => .tup [.int p.1, v3D p.2]) := by
  show some (List.zipWith _ (l.map D.int) (ws.map v3D)) = _
  congr 1
  induction l generalizing ws with
  | nil => simp
  | cons x l ih => cases ws with
    | nil => simp
    | cons y ws => simp [ih]
theorem told_zip {l : List Int} {i : Nat} : ((l.zip ws).map fun p => p.1 * vat p.2 i).sum = told l ws i := by
  unfold told
  congr 1
  induction l generalizing ws with
  | nil => simp
  | cons x l ih => cases ws with
    | nil => simp
    | cons y ws => simp [ih]
theorem told_range {l : List Int} {i : Nat} : ∀ {ws : List V3}, l.length = ws.length → ((List.range ws.length).map fun j => l.getD j 0 * vat (wk ws j) i).sum = told l ws i := by
  intro ws h
  rw [← told_zip]
  congr 1
  apply List.ext_getElem
  · simp [h]
  · intro j h1 h2
    simp at h1
    simp [wk, List.getD_eq_getElem?_getD, h1, h ▸ h1]
theorem all_le {l : List Int} : (bltD .all [.lst [.bl (decide (told l ws 0 ≤ l.sum * vat (wk ws k) 0)), .bl (decide (told l ws 1 ≤ l.sum * vat (wk ws k) 1)), .bl (decide (told l ws 2 ≤ l.sum * vat (wk ws k) 2))]]) = some (.bl (decide (told l ws 0 ≤ l.sum * vat (wk ws k) 0) && (decide (told l ws 1 ≤ l.sum * vat (wk ws k) 1) && decide (told l ws 2 ≤ l.sum * vat (wk ws k) 2)))) := by
  have := all_bl (l := [decide (told l ws 0 ≤ l.sum * vat (wk ws k) 0), decide (told l ws 1 ≤ l.sum * vat (wk ws k) 1), decide (told l ws 2 ≤ l.sum * vat (wk ws k) 2)])
  simp only [List.map_cons, List.map_nil, List.all_cons, List.all_nil, id, Bool.and_true] at this
  exact this
/-- law: .. told, due -/
theorem e_lworse {j : Nat} {v : D} (B : WB ws) (hk : k < ws.length) (h : SB b j v) (hb : b ≤ 3000) (hn : 2 ≤ n) : callF fs gs n 27 [wsD ws, .int k, v] s = .ok (.bl (wrsB ws k v)) s := by
  obtain ⟨m, rfl, hm⟩ := sc hn
  rw [call_at (f := c__law_worse) rfl rfl]
  have ea := e_are (n := m) (s := s) (size := ws.length) (least := 0) h hm
  have lw := len_ws (ws := ws)
  have dw : ∀ s : Sto, deref s (wsD ws) = wsD ws := fun _ => rfl
  cases c : areB v ws.length 0 with
  | false =>
    rw [c] at ea
    rw [wrs_no c]
    generalize wsD ws = WW at *
    simp [c__law_worse, startE, List.replicate, frzR, ea, lw, dw, borrows, isOwn]
  | true =>
    rw [c] at ea
    obtain ⟨l, rfl, hl, h0⟩ := areB_eq c
    rw [wrs_eq hl h0]
    have hB := SB.intsB h
    have hlen := B.len
    have r3 := rng1_nat (W := 3) (by omega)
    have r3 : rng1? (.int 3) = some ((List.range 3).map fun (a : Nat) => D.int a) := r3
    have rn := rng1_nat (W := ws.length) (by omega)
    have ix := idx_ws hk
    have bs := Bt.sum hB
    have su := sum_intsT (l := l)
    have dl : ∀ s : Sto, deref s (.tup (l.map D.int)) = .tup (l.map D.int) := fun _ => rfl
    have inner : ∀ (a : Nat) env, a < 3 → env = [some (SV.val (wsD ws)), some (.val (.int k)), some (.val (.tup (l.map D.int))), none, none, some (.val (.int (a : Int))), none] → evF (callF fs gs m) gs (.cp1 (.bin .mul (.idx (.var 2) (.var 6)) (.idx (.idx (.var 0) (.var 6)) (.var 5))) (.nm 6) (.rg1 (.blt .len (.c (.var 0) .nil))) .n [6]) env s = .ok (((List.range ws.length).map fun j => l.getD j 0 * vat (wk ws j) a).map D.int) s := by
      rintro a env ha rfl
      rw [List.map_map]
      refine cp1_map (xs := List.range ws.length) (mk := fun (j : Nat) => D.int j) (by simp [dw, lw, rn]) (fun j hj => ⟨_, rfl, ?_⟩) (by rw [List.length_range]; show _ ≤ 16777216; omega)
      have hj := List.mem_range.mp hj
      have i1 : idxD (.tup (l.map D.int)) (.int j) = some (.int (l.getD j 0)) := idx_tup (by rw [List.getElem?_map]; simp [List.getD_eq_getElem?_getD, hl, hj])
      have i2 := idx_ws (ws := ws) hj
      have i3 := idx_vat (v := wk ws j) ha
      have dv : ∀ s : Sto, deref s (v3D (wk ws j)) = v3D (wk ws j) := fun _ => rfl
      have hx : l.getD j 0 ∈ l := by
        rw [List.getD_eq_getElem?_getD, List.getElem?_eq_getElem (by omega)]
        exact List.getElem_mem _
      have mu := mul_bt (hB _ hx) (B.b _ (wk_mem hj) a) (by omega)
      show _ = Out.ok (D.int (l.getD j 0 * vat (wk ws j) a)) s
      generalize l.getD j 0 = X at *
      simp [noOwn, wipeE, i1, i2, i3, dw, dv, mu, -bin_mul]
    have o1 : ∀ env, env = [some (SV.val (wsD ws)), some (.val (.int k)), some (.val (.tup (l.map D.int))), none, none, none, none] → evF (callF fs gs m) gs (.cp1 (.blt .sum (.c (.fz (.cp1 (.bin .mul (.idx (.var 2) (.var 6)) (.idx (.idx (.var 0) (.var 6)) (.var 5))) (.nm 6) (.rg1 (.blt .len (.c (.var 0) .nil))) .n [6])) .nil)) (.nm 5) (.rg1 (.int 3)) .n [5]) env s = .ok ((List.range 3).map fun a => D.int (told l ws a)) s := by
      rintro env rfl
      refine cp1_map (xs := List.range 3) (mk := fun (a : Nat) => D.int a) (by simp only [evI_rg1, ev_int, ok_bind, r3, lift_some]) (fun a ha => ⟨_, rfl, ?_⟩) (by show 3 ≤ 16777216; omega)
      have ei := inner a _ (List.mem_range.mp ha) rfl
      have ss := sum_ints (l := (List.range ws.length).map fun j => l.getD j 0 * vat (wk ws j) a)
      rw [told_range hl] at ss
      generalize ((List.range ws.length).map fun j => l.getD j 0 * vat (wk ws j) a).map D.int = M at *
      simp [noOwn, wipeE, ei, ss]
    have o2 : ∀ env, env = [some (SV.val (wsD ws)), some (.val (.int k)), some (.val (.tup (l.map D.int))), some (.val (.lst ((tl3 l ws).map D.int))), none, none, none] → evF (callF fs gs m) gs (.cp1 (.bin .mul (.blt .sum (.c (.var 2) .nil)) (.idx (.idx (.var 0) (.var 1)) (.var 5))) (.nm 5) (.rg1 (.int 3)) .n [5]) env s = .ok ((List.range 3).map fun a => D.int (l.sum * vat (wk ws k) a)) s := by
      rintro env rfl
      refine cp1_map (xs := List.range 3) (mk := fun (a : Nat) => D.int a) (by simp only [evI_rg1, ev_int, ok_bind, r3, lift_some]) (fun a ha => ⟨_, rfl, ?_⟩) (by show 3 ≤ 16777216; omega)
      have i3 := idx_vat (v := wk ws k) (List.mem_range.mp ha)
      have dv : ∀ s : Sto, deref s (v3D (wk ws k)) = v3D (wk ws k) := fun _ => rfl
      have mu := mul_bt bs (B.b _ (wk_mem hk) a) (by omega)
      simp [noOwn, wipeE, i3, dw, dv, ix, su, mu, dl, -bin_mul]
    have o1 := o1 _ rfl
    have o2 := o2 _ rfl
    have t1 : ((List.range 3).map fun a => D.int (told l ws a)) = (tl3 l ws).map D.int := rfl
    have t2 : ((List.range 3).map fun a => D.int (l.sum * vat (wk ws k) a)) = (dl3 l ws k).map D.int := rfl
    rw [t1] at o1
    rw [t2] at o2
    have o3 : ∀ env, env = [some (SV.val (wsD ws)), some (.val (.int k)), some (.val (.tup (l.map D.int))), some (.val (.lst ((tl3 l ws).map D.int))), some (.val (.lst ((dl3 l ws k).map D.int))), none, none] → evF (callF fs gs m) gs (.cp1 (.cmp .le (.idx (.var 3) (.var 5)) (.idx (.var 4) (.var 5))) (.nm 5) (.rg1 (.int 3)) .n [5]) env s = .ok ((List.range 3).map fun a => .bl (decide (told l ws a ≤ l.sum * vat (wk ws k) a))) s := by
      rintro env rfl
      refine cp1_map (xs := List.range 3) (mk := fun (a : Nat) => D.int a) (by simp only [evI_rg1, ev_int, ok_bind, r3, lift_some]) (fun a ha => ⟨_, rfl, ?_⟩) (by show 3 ≤ 16777216; omega)
      have ha := List.mem_range.mp ha
      have j1 : idxD (.lst ((tl3 l ws).map D.int)) (.int a) = some (.int (told l ws a)) := by
        rcases (by omega : a = 0 ∨ a = 1 ∨ a = 2) with rfl | rfl | rfl
        · exact idxL_0
        · exact idxL_1
        · exact idxL_2
      have j2 : idxD (.lst ((dl3 l ws k).map D.int)) (.int a) = some (.int (l.sum * vat (wk ws k) a)) := by
        rcases (by omega : a = 0 ∨ a = 1 ∨ a = 2) with rfl | rfl | rfl
        · exact idxL_0
        · exact idxL_1
        · exact idxL_2
      generalize (tl3 l ws).map D.int = T1 at *
      generalize (dl3 l ws k).map D.int = T2 at *
      simp [noOwn, wipeE, j1, j2]
    have o3 := o3 _ rfl
    have al := all_le (ws := ws) (k := k) (l := l)
    have t3 : ((List.range 3).map fun a => D.bl (decide (told l ws a ≤ l.sum * vat (wk ws k) a))) = [.bl (decide (told l ws 0 ≤ l.sum * vat (wk ws k) 0)), .bl (decide (told l ws 1 ≤ l.sum * vat (wk ws k) 1)), .bl (decide (told l ws 2 ≤ l.sum * vat (wk ws k) 2))] := rfl
    rw [t3] at o3
    have nq := ne_ints (a := tl3 l ws) (b := dl3 l ws k)
    unfold cmpB
    generalize (decide (told l ws 0 ≤ l.sum * vat (wk ws k) 0) && (decide (told l ws 1 ≤ l.sum * vat (wk ws k) 1) && decide (told l ws 2 ≤ l.sum * vat (wk ws k) 2))) = B1 at *
    generalize [D.bl (decide (told l ws 0 ≤ l.sum * vat (wk ws k) 0)), .bl (decide (told l ws 1 ≤ l.sum * vat (wk ws k) 1)), .bl (decide (told l ws 2 ≤ l.sum * vat (wk ws k) 2))] = M3 at *
    generalize decide (tl3 l ws = dl3 l ws k) = B2 at *
    generalize (tl3 l ws).map D.int = T1 at *
    generalize (dl3 l ws k).map D.int = T2 at *
    generalize l.map D.int = L at *
    generalize wsD ws = WW at *
    cases B1 <;> simp [c__law_worse, startE, List.replicate, frzR, ea, lw, dw, o1, o2, o3, al, nq, borrows, isOwn]
theorem e_worse {j : Nat} {v : D} (B : WB ws) (hk : k < ws.length) (h : SB b j v) (hb : b ≤ 3000) (hn : 2 ≤ n) : callF fs gs n 14 [wsD ws, .int k, v] s = .ok (.bl (wrsB ws k v)) s := by
  obtain ⟨m, rfl, hm⟩ := sc hn
  rw [call_at (f := c_is_worse_paper) rfl rfl]
  have g0 : gs[0]? = some (.int 3) := rfl
  have lw := len_ws (ws := ws)
  have dw : ∀ s : Sto, deref s (wsD ws) = wsD ws := fun _ => rfl
  have hlen := B.len
  have ix := idx_ws hk
  cases v with
  | tup ds =>
    have hz := h.lenT
    have e : ∀ env, env = [some (SV.val (wsD ws)), some (.val (.int k)), some (.val (.tup ds)), none, none, none, none, none, none, none, none] → evF (callF fs gs m) gs (.cp1 (.bop true (.c (.call 0 (.c (.var 7) .nil)) (.c (.cmp .ge (.var 7) (.int 0)) .nil))) (.nm 7) (.seq (.var 2)) .n [7]) env s = .ok (ds.map fun d => .bl (nnb 0 d)) s := by
      rintro env rfl
      refine cp1_map (xs := ds) (mk := id) (by simp [items?]) (fun d hd => ⟨_, rfl, ?_⟩) (by show _ ≤ 16777216; omega)
      obtain ⟨j, hj⟩ := h.memT d hd
      have ew := e_whole (n := m) (s := s) hj hm
      cases hj with
      | _ => simp [noOwn, wipeE, nnb, ew, borrows, isOwn]
    have e := e _ rfl
    have ea := all_bl (l := ds.map (nnb 0))
    rw [List.map_map] at ea
    have e0 : List.map (D.bl ∘ nnb 0) ds = ds.map fun d => .bl (nnb 0 d) := rfl
    rw [e0] at ea
    have e1 : (ds.map (nnb 0)).all id = ds.all (nnb 0) := by rw [List.all_map]; rfl
    rw [e1] at ea
    have el := ne_len (a := ds.length) (b := ws.length)
    by_cases c : ds.length = ws.length
    · rw [decide_eq_true c] at el
      cases c2 : ds.all (nnb 0) with
      | false =>
        rw [c2] at ea
        rw [wrs_no (by show (decide (ds.length = ws.length) && ds.all (nnb 0)) = false; rw [c2, Bool.and_false])]
        generalize ds.map (fun d => D.bl (nnb 0 d)) = M at *
        generalize wsD ws = WW at *
        simp [c_is_worse_paper, startE, List.replicate, frzR, el, e, ea, g0, lw, dw, -ne_int]
      | true =>
        rw [c2] at ea
        have ca : areB (.tup ds) ws.length 0 = true := by show (decide (ds.length = ws.length) && ds.all (nnb 0)) = true; rw [c2, decide_eq_true c]; rfl
        obtain ⟨l, el2, hl, h0⟩ := areB_eq ca
        injection el2 with el2
        subst el2
        rw [wrs_eq hl h0]
        have hB := SB.intsB h
        have bs := Bt.sum hB
        have su := sum_intsT (l := l)
        have zl := zip_lw (ws := ws) (l := l)
        have zlen : (l.zip ws).length ≤ 10 := by rw [List.length_zip]; omega
        have zb : ∀ p ∈ l.zip ws, Bt b p.1 ∧ ∀ i, Bt 5 (vat p.2 i) := fun p hp => ⟨hB _ (List.of_mem_zip hp).1, B.b _ (List.of_mem_zip hp).2⟩
        have r3 := rng1_nat (W := 3) (by omega)
        have r3 : rng1? (.int 3) = some ((List.range 3).map fun (a : Nat) => D.int a) := r3
        have inner : ∀ (a : Nat) env, a < 3 → env = [some (SV.val (wsD ws)), some (.val (.int k)), some (.val (.tup (l.map D.int))), some (.val (.int l.sum)), none, none, some (.val (.int (a : Int))), none, none, none, none] → evF (callF fs gs m) gs (.cp1 (.bin .mul (.var 7) (.idx (.var 8) (.var 6))) (.tp (.c (.nm 7) (.c (.nm 8) .nil))) (.zip (.var 2) (.var 0)) .n [7, 8]) env s = .ok (((l.zip ws).map fun p => p.1 * vat p.2 a).map D.int) s := by
          rintro a env ha rfl
          rw [List.map_map]
          refine cp1_map (xs := l.zip ws) (mk := fun p => D.tup [.int p.1, v3D p.2]) (by simp [zl]) (fun p hp => ⟨_, rfl, ?_⟩) (by show _ ≤ 16777216; omega)
          have i3 := idx_vat (v := p.2) ha
          have dv : ∀ s : Sto, deref s (v3D p.2) = v3D p.2 := fun _ => rfl
          have mu := mul_bt (zb p hp).1 ((zb p hp).2 a) (by omega)
          simp [noOwn, wipeE, i3, dv, mu, -bin_mul]
        have o1 : ∀ env, env = [some (SV.val (wsD ws)), some (.val (.int k)), some (.val (.tup (l.map D.int))), some (.val (.int l.sum)), none, none, none, none, none, none, none] → evF (callF fs gs m) gs (.cp1 (.blt .sum (.c (.fz (.cp1 (.bin .mul (.var 7) (.idx (.var 8) (.var 6))) (.tp (.c (.nm 7) (.c (.nm 8) .nil))) (.zip (.var 2) (.var 0)) .n [7, 8])) .nil)) (.nm 6) (.rg1 (.gl 0)) .n [6]) env s = .ok ((List.range 3).map fun a => D.int (told l ws a)) s := by
          rintro env rfl
          refine cp1_map (xs := List.range 3) (mk := fun (a : Nat) => D.int a) (by simp only [evI_rg1, ev_gl, g0, ok_bind, r3, lift_some]) (fun a ha => ⟨_, rfl, ?_⟩) (by show 3 ≤ 16777216; omega)
          have ei := inner a _ (List.mem_range.mp ha) rfl
          have ss := sum_ints (l := (l.zip ws).map fun p => p.1 * vat p.2 a)
          rw [told_zip] at ss
          generalize ((l.zip ws).map fun p => p.1 * vat p.2 a).map D.int = M at *
          simp [noOwn, wipeE, ei, ss]
        have o2 : ∀ env, env = [some (SV.val (wsD ws)), some (.val (.int k)), some (.val (.tup (l.map D.int))), some (.val (.int l.sum)), some (.val (.lst ((tl3 l ws).map D.int))), none, none, none, none, none, none] → evF (callF fs gs m) gs (.cp1 (.bin .mul (.var 3) (.var 7)) (.nm 7) (.seq (.idx (.var 0) (.var 1))) .n [7]) env s = .ok ([(wk ws k).1, (wk ws k).2.1, (wk ws k).2.2].map fun x => D.int (l.sum * x)) s := by
          rintro env rfl
          have it : items? (v3D (wk ws k)) = some ([(wk ws k).1, (wk ws k).2.1, (wk ws k).2.2].map D.int) := rfl
          refine cp1_map (xs := [(wk ws k).1, (wk ws k).2.1, (wk ws k).2.2]) (mk := D.int) (by simp only [evI_seq, ev_idx, ev_var, List.getElem?_cons_zero, List.getElem?_cons_succ, rdV_val, ok_bind, dw, ix, lift_some, it]) (fun x hx => ⟨_, rfl, ?_⟩) (by show 3 ≤ 16777216; omega)
          have bx : Bt 5 x := by
            have := B.b _ (wk_mem hk)
            simp only [List.mem_cons, List.not_mem_nil, or_false] at hx
            rcases hx with rfl | rfl | rfl
            · exact this 0
            · exact this 1
            · exact this 2
          have mu := mul_bt bs bx (by omega)
          simp [noOwn, wipeE, mu, -bin_mul]
        have o1 := o1 _ rfl
        have o2 := o2 _ rfl
        have t1 : ((List.range 3).map fun a => D.int (told l ws a)) = (tl3 l ws).map D.int := rfl
        have t2 : ([(wk ws k).1, (wk ws k).2.1, (wk ws k).2.2].map fun x => D.int (l.sum * x)) = (dl3 l ws k).map D.int := rfl
        rw [t1] at o1
        rw [t2] at o2
        have zt : zip? (.lst ((tl3 l ws).map D.int)) (.lst ((dl3 l ws k).map D.int)) = some ((List.range 3).map fun a => D.tup [.int (told l ws a), .int (l.sum * vat (wk ws k) a)]) := rfl
        have o3 : ∀ env, env = [some (SV.val (wsD ws)), some (.val (.int k)), some (.val (.tup (l.map D.int))), some (.val (.int l.sum)), some (.val (.lst ((tl3 l ws).map D.int))), some (.val (.lst ((dl3 l ws k).map D.int))), none, none, none, none, none] → evF (callF fs gs m) gs (.cp1 (.cmp .le (.var 9) (.var 10)) (.tp (.c (.nm 9) (.c (.nm 10) .nil))) (.zip (.var 4) (.var 5)) .n [9, 10]) env s = .ok ((List.range 3).map fun a => .bl (decide (told l ws a ≤ l.sum * vat (wk ws k) a))) s := by
          rintro env rfl
          refine cp1_map (xs := List.range 3) (mk := fun a => D.tup [.int (told l ws a), .int (l.sum * vat (wk ws k) a)]) ?_ (fun a ha => ⟨_, rfl, ?_⟩) (by show 3 ≤ 16777216; omega)
          · simp only [evI_zip, ev_var, List.getElem?_cons_zero, List.getElem?_cons_succ, rdV_val, ok_bind, zt, lift_some]
          · simp [noOwn, wipeE]
        have o3 := o3 _ rfl
        have al := all_le (ws := ws) (k := k) (l := l)
        have t3 : ((List.range 3).map fun a => D.bl (decide (told l ws a ≤ l.sum * vat (wk ws k) a))) = [.bl (decide (told l ws 0 ≤ l.sum * vat (wk ws k) 0)), .bl (decide (told l ws 1 ≤ l.sum * vat (wk ws k) 1)), .bl (decide (told l ws 2 ≤ l.sum * vat (wk ws k) 2))] := rfl
        rw [t3] at o3
        have nq := ne_ints (a := tl3 l ws) (b := dl3 l ws k)
        clear zt
        unfold cmpB
        generalize (decide (told l ws 0 ≤ l.sum * vat (wk ws k) 0) && (decide (told l ws 1 ≤ l.sum * vat (wk ws k) 1) && decide (told l ws 2 ≤ l.sum * vat (wk ws k) 2))) = B1 at *
        generalize [D.bl (decide (told l ws 0 ≤ l.sum * vat (wk ws k) 0)), .bl (decide (told l ws 1 ≤ l.sum * vat (wk ws k) 1)), .bl (decide (told l ws 2 ≤ l.sum * vat (wk ws k) 2))] = M3 at *
        generalize decide (tl3 l ws = dl3 l ws k) = B2 at *
        generalize (tl3 l ws).map D.int = T1 at *
        generalize (dl3 l ws k).map D.int = T2 at *
        generalize (l.map D.int).map (fun d => D.bl (nnb 0 d)) = M at *
        generalize l.map D.int = L at *
        generalize wsD ws = WW at *
        cases B1 <;> simp [c_is_worse_paper, startE, List.replicate, frzR, el, e, ea, lw, dw, su, o1, o2, o3, al, nq, borrows, isOwn, -ne_int]
    · rw [decide_eq_false c] at el
      rw [wrs_no (by show (decide (ds.length = ws.length) && ds.all (nnb 0)) = false; rw [decide_eq_false c]; rfl)]
      generalize wsD ws = WW at *
      simp [c_is_worse_paper, startE, List.replicate, frzR, el, lw, dw, -ne_int]
  | rol _ => cases h
  | loc _ => cases h
  | _ =>
    rw [wrs_no rfl]
    generalize wsD ws = WW at *
    simp [c_is_worse_paper, startE, List.replicate, frzR]
end
end PV.K22
set_option maxRecDepth 100000
set_option maxHeartbeats 4000000
namespace PV.K22
open PySem PV
def N0 : Sm := (.ite (.bop true (.c (.isi (.var 1) .tup) (.c (.cmp .gt (.blt .len (.c (.var 1) .nil)) (.int 0)) (.c (.cmp .gt (.call 21 (.c (.var 0) (.c (.int 5) .nil))) (.int 0)) .nil)))) (.c (.asg (.nm 3) (.call 21 (.c (.var 0) (.c (.blt .len (.c (.var 1) .nil)) .nil)))) (.c (.ret (.bin .add (.bin .add (.slc (.var 1) .n (.s (.var 3))) (.tup (.c (.call 23 (.c (.var 0) (.c (.idx (.var 1) (.var 3)) .nil))) .nil))) (.slc (.var 1) (.s (.bin .add (.var 3) (.int 1))) .n))) .nil)) .nil)
def N1 : Sm := (.asg (.nm 2) (.call 21 (.c (.var 0) (.c (.int 8) .nil))))
def N2 : Sm := (.ite (.isi (.var 1) .tup) (.c (.ret (.idx (.fz (.dsp (.c (.bin .add (.var 1) (.slc (.var 1) .n (.s (.int 1)))) (.c (.slc (.var 1) (.s (.int 1)) .n) (.c (.rev (.var 1)) (.c (.bin .add (.var 1) (.tup (.c (.int 0) .nil))) (.c (.bin .add (.slc (.var 1) .n (.s (.int 1))) (.var 1)) (.c (.slc (.var 1) .n (.s (.neg (.int 1)))) (.c .non (.c (.slc (.var 1) .n (.s (.int 1))) .nil)))))))))) (.var 2))) .nil) .nil)
def N3 : Sm := (.ite (.bop true (.c (.isi (.var 1) .int) (.c (.not (.isi (.var 1) .bool)) .nil))) (.c (.ret (.idx (.fz (.dsp (.c (.bin .add (.var 1) (.int 1)) (.c (.bin .sub (.var 1) (.int 1)) (.c (.neg (.var 1)) (.c (.cmp .eq (.var 1) (.int 1)) (.c .non (.c (.blt .str (.c (.var 1) .nil)) (.c (.tup (.c (.var 1) .nil)) (.c (.bin .add (.var 1) (.int 1001)) .nil)))))))))) (.var 2))) .nil) .nil)
def N4 : Sm := (.ite (.isi (.var 1) .str) (.c (.ret (.idx (.fz (.dsp (.c (.bin .add (.var 1) (.str "a")) (.c (.slc (.var 1) (.s (.int 1)) .n) (.c (.str "any") (.c (.up (.var 1)) (.c (.int 0) (.c (.str "") (.c (.bin .add (.var 1) (.str "z0z0z0z0")) (.c (.tup (.c (.var 1) .nil)) .nil)))))))))) (.var 2))) .nil) .nil)
def N5 : Sm := (.ret (.idx (.fz (.dsp (.c (.int 0) (.c (.int 1) (.c .non (.c (.bl true) (.c (.bl false) (.c (.str "a") (.c (.tup .nil) (.c (.neg (.int 1)) .nil)))))))))) (.var 2)))
def NB : Sms := (.c N0 (.c N1 (.c N2 (.c N3 (.c N4 (.c N5 .nil))))))
theorem bent_body : c__law_bent.body = NB := rfl
section
variable {n : Nat} {s : Sto} {ws : List V3} {k b : Nat}
theorem pick8 {L : List D} {pick : Int} (hL : L.length = 8) (hp : 0 ≤ pick ∧ pick < 8) : ∃ d ∈ L, idxD (.lst L) (.int pick) = some d := by
  have h1 : pick.toNat < L.length := by omega
  exact ⟨L[pick.toNat], List.getElem_mem h1, idx_lstI hp.1 (List.getElem?_eq_getElem h1)⟩
theorem sb_one {d : D} {j : Nat} (h : SB b j d) : SB b (j + 1) (.tup [d]) := .tup (by simp) fun x hx => by rw [List.mem_singleton.mp hx]; exact h
theorem log_bt {i : Int} {c : Nat} (h : Bt c i) (hc : c < 1900) : i.natAbs.log2 < 1920 := by
  have := log2_lt (h.up (b := c + 1) (by omega)) (by omega)
  omega
theorem e_bent_int {i : Int} (hi : Bt 1745 i) (hb : Bx s) (hn : 3 ≤ n) : ∃ v s', callF fs gs n 23 [.loc 1, .int i] s = .ok v s' ∧ Bx s' ∧ SB 1760 1 v := by
  obtain ⟨m, rfl, hm⟩ := sc hn
  obtain ⟨pick, s1, g1, k1, b1⟩ := e_draw (n := m) (many := 8) hb (by omega) (by omega)
  have o1 : Bt 1745 1 := Bt.up (a := 1) (by show _ < _; decide) (by omega)
  have o2 : Bt 1745 1001 := Bt.up (a := 10) (by show _ < _; decide) (by omega)
  have st : bltD .str [.int i] = some (.str (Str.ofString (toString i))) := by
    show (if i.natAbs.log2 < 1920 then some (D.str (Str.ofString (toString i))) else none) = _
    rw [if_pos (log_bt hi (by omega))]
  have u1 : i - 1 = i + -1 := by omega
  obtain ⟨d, hd, id⟩ := pick8 (L := [.int (i + 1), .int (i - 1), .int (-i), .bl (decide (i = 1)), .non, .str (Str.ofString (toString i)), .tup [.int i], .int (i + 1001)]) rfl k1
  refine ⟨d, s1, ?_, b1, ?_⟩
  · have es : startE c__law_bent.N.length [.loc 1, .int i] = [some (SV.val (.loc 1)), some (.val (.int i)), none, none] := rfl
    rw [call_at (f := c__law_bent) rfl rfl, bent_body, es]
    generalize Str.ofString (toString i) = Z at *
    simp [NB, N0, N1, N2, N3, frzR, g1, st, id, borrows, isOwn]
  · simp only [List.mem_cons, List.not_mem_nil, or_false] at hd
    rcases hd with rfl | rfl | rfl | rfl | rfl | rfl | rfl | rfl
    · exact .int ((hi.add2 o1).up (by omega))
    · rw [u1]; exact .int ((hi.add2 o1.neg).up (by omega))
    · exact .int (hi.neg.up (by omega))
    · exact .bl
    · exact .non
    · exact .str (ok_ofString _)
    · exact sb_one (.int (hi.up (by omega)))
    · exact .int ((hi.add2 o2).up (by omega))
theorem e_bent {l : List Int} (hl : ∀ x ∈ l, Bt 1745 x) (hz : l.length ≤ 10) (hb : Bx s) (hn : 4 ≤ n) : ∃ v s', callF fs gs n 23 [.loc 1, .tup (l.map D.int)] s = .ok v s' ∧ Bx s' ∧ SB 1760 2 v := by
  obtain ⟨m, rfl, hm⟩ := sc hn
  have each : ∀ d ∈ l.map D.int, SB 1760 1 d := fun d hd => by
    obtain ⟨x, hx, rfl⟩ := List.mem_map.mp hd
    exact .int ((hl x hx).up (by omega))
  have lz : (l.map D.int).length ≤ 10 := by rw [List.length_map]; exact hz
  have T : ∀ {xs : List D}, xs.length ≤ 1000 → (∀ d ∈ xs, SB 1760 1 d) → SB 1760 2 (.tup xs) := fun h1 h => .tup h1 h
  have sl : ∀ {a b : Option Int}, slcD (.tup (l.map D.int)) a b = some (.tup (cut (l.map D.int) a b)) := rfl
  have rv : revD (.tup (l.map D.int)) = some (.tup (l.map D.int).reverse) := rfl
  have cs : ∀ {a b : Option Int}, (cut (l.map D.int) a b).length ≤ 10 := fun {a b} => by have := cut_sub (l := l.map D.int) (a := a) (b := b); omega
  have ce : ∀ {a b : Option Int}, ∀ d ∈ cut (l.map D.int) a b, SB 1760 1 d := fun d hd => each d (cut_mem hd)
  rw [call_at (f := c__law_bent) rfl rfl, bent_body]
  have es : startE c__law_bent.N.length [.loc 1, .tup (l.map D.int)] = [some (SV.val (.loc 1)), some (.val (.tup (l.map D.int))), none, none] := rfl
  rw [es]
  have rows : ∀ s, Bx s → ∃ v' s', execs (callF fs gs m) gs (.c N1 (.c N2 (.c N3 (.c N4 (.c N5 .nil))))) [some (SV.val (.loc 1)), some (.val (.tup (l.map D.int))), none, none] s = .ok (.ret v') s' ∧ Bx s' ∧ SB 1760 2 v' := by
    intro s hb
    obtain ⟨pick, s1, g1, k1, b1⟩ := e_draw (n := m) (many := 8) hb (by omega) (by omega)
    have a1 := add_tup (a := l.map D.int) (b := cut (l.map D.int) none (some 1)) (by have := cs (a := none) (b := some 1); omega)
    have a2 := add_tup (a := l.map D.int) (b := [.int 0]) (by simp; omega)
    have a3 := add_tup (a := cut (l.map D.int) none (some 1)) (b := l.map D.int) (by have := cs (a := none) (b := some 1); omega)
    obtain ⟨d, hd, id⟩ := pick8 (L := [.tup (l.map D.int ++ cut (l.map D.int) none (some 1)), .tup (cut (l.map D.int) (some 1) none), .tup (l.map D.int).reverse, .tup (l.map D.int ++ [.int 0]), .tup (cut (l.map D.int) none (some 1) ++ l.map D.int), .tup (cut (l.map D.int) none (some (-1))), .non, .tup (cut (l.map D.int) none (some 1))]) rfl k1
    refine ⟨d, s1, ?_, b1, ?_⟩
    · generalize l.map D.int = X at *
      simp [N1, N2, frzR, g1, sl, rv, a1, a2, a3, id, borrows, isOwn, -bin_addT]
    · simp only [List.mem_cons, List.not_mem_nil, or_false] at hd
      have c1 := cs (a := none) (b := some 1)
      have c2 := cs (a := some 1) (b := none)
      have c3 := cs (a := none) (b := some (-1))
      rcases hd with rfl | rfl | rfl | rfl | rfl | rfl | rfl | rfl
      · exact T (by rw [List.length_append]; omega) fun d hd => (List.mem_append.mp hd).elim (each d) (ce d)
      · exact T (by omega) ce
      · exact T (by rw [List.length_reverse]; omega) fun d hd => each d (List.mem_reverse.mp hd)
      · exact T (by rw [List.length_append]; simp; omega) fun d hd => (List.mem_append.mp hd).elim (each d) fun h => by rw [List.mem_singleton.mp h]; exact .int (Bt.up (a := 1) (by show _ < _; decide) (by omega))
      · exact T (by rw [List.length_append]; omega) fun d hd => (List.mem_append.mp hd).elim (ce d) (each d)
      · exact T (by omega) ce
      · exact .non
      · exact T (by omega) ce
  unfold NB
  by_cases c0 : l = []
  · subst c0
    obtain ⟨v', s', e, b', hv⟩ := rows s hb
    have x : exec (callF fs gs m) gs N0 [some (SV.val (.loc 1)), some (.val (.tup (([] : List Int).map D.int))), none, none] s = .ok (.nx [some (SV.val (.loc 1)), some (.val (.tup (([] : List Int).map D.int))), none, none]) s := by simp [N0]
    exact ⟨v', s', by rw [execs_c, x, nextF_nx, e]; rfl, b', hv⟩
  · have hp : 0 < (l.map D.int).length := by rw [List.length_map]; exact List.length_pos_iff.mpr c0
    obtain ⟨d5, s1, g1, k1, b1⟩ := e_draw (n := m) (many := 5) hb (by omega) (by omega)
    by_cases c1 : 0 < d5
    · obtain ⟨at', s2, g2, k2, b2⟩ := e_draw (n := m) (many := ((l.map D.int).length : Int)) b1 (by omega) (by omega)
      have h1 : at'.toNat < (l.map D.int).length := by omega
      have h2 : at'.toNat < l.length := by rw [List.length_map] at h1; exact h1
      have hi : idxD (.tup (l.map D.int)) (.int at') = some (.int l[at'.toNat]) := idx_tupI k2.1 (by rw [List.getElem?_map, List.getElem?_eq_getElem h2]; rfl)
      obtain ⟨w, s4, g4, b4, hw⟩ := e_bent_int (n := m) (hl _ (List.getElem_mem h2)) b2 (by omega)
      have q1 := cs (a := none) (b := some at')
      have q2 := cs (a := some (at' + 1)) (b := none)
      have a1 := add_tup (a := cut (l.map D.int) none (some at')) (b := [w]) (by simp; omega)
      have a2 := add_tup (a := cut (l.map D.int) none (some at') ++ [w]) (b := cut (l.map D.int) (some (at' + 1)) none) (by simp; omega)
      refine ⟨.tup ((cut (l.map D.int) none (some at') ++ [w]) ++ cut (l.map D.int) (some (at' + 1)) none), s4, ?_, b4, ?_⟩
      · generalize l[at'.toNat] = Y at *
        generalize cut (l.map D.int) none (some at') ++ [w] = C1 at *
        generalize l.map D.int = X at *
        simp [N0, frzR, g1, g2, g4, c1, sl, a1, a2, hp, hi, borrows, isOwn, -bin_addT]
      · exact T (by simp; omega) fun d hd => by
          rcases List.mem_append.mp hd with hd | hd
          · rcases List.mem_append.mp hd with hd | hd
            · exact ce d hd
            · rw [List.mem_singleton.mp hd]; exact hw
          · exact ce d hd
    · obtain ⟨v', s', e, b', hv⟩ := rows s1 b1
      have x : exec (callF fs gs m) gs N0 [some (SV.val (.loc 1)), some (.val (.tup (l.map D.int))), none, none] s = .ok (.nx [some (SV.val (.loc 1)), some (.val (.tup (l.map D.int))), none, none]) s1 := by
        generalize l.map D.int = X at *
        simp [N0, g1, c1, hp, borrows, isOwn]
      exact ⟨v', s', by rw [execs_c, x, nextF_nx, e]; rfl, b', hv⟩
end
end PV.K22
set_option maxRecDepth 100000
set_option maxHeartbeats 4000000
namespace PV.K22
open PySem PV
def J0 : Sm := (.asg (.nm 1) (.call 19 (.c (.var 0) .nil)))
def J1_0 : Sm := (.own 3 (.cp1 (.tup (.c (.call 21 (.c (.var 1) (.c (.int 9) .nil))) (.c (.call 21 (.c (.var 1) (.c (.int 9) .nil))) (.c (.call 21 (.c (.var 1) (.c (.int 5) .nil))) .nil)))) (.nm 4) (.rg1 (.bin .add (.int 1) (.call 21 (.c (.var 1) (.c (.int 5) .nil))))) .n [4]))
def J1_1 : Sm := (.ite (.bop true (.c (.cmp .gt (.blt .len (.c (.var 3) .nil)) (.int 2)) (.c (.cmp .eq (.call 21 (.c (.var 1) (.c (.int 2) .nil))) (.int 0)) .nil))) (.c (.par [5, 6] (.v (.idx (.var 3) (.int 0)) (.v (.idx (.var 3) (.int 1)) .nil))) (.c (.own 3 (.cp1 (.blt .tup (.c (.fz (.cp1 (.bin .mul (.int 2) (.var 14)) (.nm 14) (.seq (.var 12)) .n [14])) .nil)) (.nm 12) (.seq (.var 3)) .n [12])) (.c (.app 3 (.blt .tup (.c (.fz (.cp1 (.bin .add (.bin .add (.idx (.var 5) (.var 15)) (.idx (.var 6) (.var 15))) (.ite (.bop true (.c (.cmp .eq (.var 15) (.var 2)) (.c (.cmp .eq (.call 21 (.c (.var 1) (.c (.int 2) .nil))) (.int 0)) .nil))) (.int 1) (.int 0))) (.nm 15) (.rg1 (.int 3)) .n [15])) .nil))) .nil))) .nil)
def J1_2 : Sm := (.asg (.nm 3) (.blt .tup (.c (.var 3) .nil)))
def J1_3_0 : Sm := (.par [7, 8] (.v (.call 17 (.c (.var 3) (.c (.var 4) .nil))) (.v (.call 13 (.c (.var 3) (.c (.var 4) .nil))) .nil)))
def J1_3_1 : Sm := (.ite (.bop false (.c (.cmp .eq (.cmp .is (.var 7) .non) (.cmp .is (.var 8) .non)) (.c (.bop true (.c (.cmp .isn (.var 7) .non) (.c (.not (.call 26 (.c (.var 3) (.c (.var 4) (.c (.var 7) .nil))))) .nil))) (.c (.bop true (.c (.cmp .isn (.var 8) .non) (.c (.not (.call 27 (.c (.var 3) (.c (.var 4) (.c (.var 8) .nil))))) .nil))) .nil)))) (.c (.ret (.bl false)) .nil) .nil)
def J1_3_2 : Sm := (.asg (.nm 9) (.ite (.cmp .isn (.var 7) .non) (.var 7) (.tup (.c (.int 1) (.c (.int 1) (.c (.int 1) .nil))))))
def J1_3_3_0 : Sm := (.asg (.nm 11) (.call 26 (.c (.var 3) (.c (.var 4) (.c (.var 10) .nil)))))
def J1_3_3_1 : Sm := (.ite (.bop false (.c (.not (.call 22 (.c (.call 18 (.c (.var 3) (.c (.var 4) (.c (.var 10) .nil)))) (.c (.var 11) .nil)))) (.c (.bop true (.c (.var 11) (.c (.cmp .isn (.var 8) .non) .nil))) .nil))) (.c (.ret (.bl false)) .nil) .nil)
def J1_3_3_B : Sms := (.c J1_3_3_0 (.c J1_3_3_1 .nil))
def J1_3_3 : Sm := (.for (.nm 10) (.seq (.bin .add (.fz (.dsp (.c (.var 9) (.c (.tup (.c (.int 1) (.c (.int 1) (.c (.int 1) .nil)))) (.c (.tup (.c (.int 1) (.c (.int 9) (.c (.int 1) .nil)))) (.c (.tup (.c (.int 9) (.c (.int 1) (.c (.int 30) .nil)))) (.c (.tup (.c (.int 0) (.c (.int 1) (.c (.int 1) .nil)))) (.c (.tup (.c (.bl true) (.c (.int 1) (.c (.int 1) .nil)))) (.c (.tup (.c (.int 1) (.c (.int 1) .nil))) (.c .non (.c (.tup .nil) .nil))))))))))) (.fz (.cp1 (.call 23 (.c (.var 1) (.c (.var 9) .nil))) (.nm 13) (.rg1 (.int 3)) .n [13])))) J1_3_3_B)
def J1_3_4 : Sm := (.asg (.nm 9) (.ite (.cmp .isn (.var 8) .non) (.var 8) (.bin .mul (.tup (.c (.int 1) .nil)) (.blt .len (.c (.var 3) .nil)))))
def J1_3_5_0 : Sm := (.asg (.nm 11) (.call 27 (.c (.var 3) (.c (.var 4) (.c (.var 10) .nil)))))
def J1_3_5_1 : Sm := (.ite (.bop false (.c (.not (.call 22 (.c (.call 14 (.c (.var 3) (.c (.var 4) (.c (.var 10) .nil)))) (.c (.var 11) .nil)))) (.c (.bop true (.c (.var 11) (.c (.cmp .isn (.var 7) .non) .nil))) .nil))) (.c (.ret (.bl false)) .nil) .nil)
def J1_3_5_B : Sms := (.c J1_3_5_0 (.c J1_3_5_1 .nil))
def J1_3_5 : Sm := (.for (.nm 10) (.seq (.bin .add (.fz (.dsp (.c (.var 9) (.c (.bin .mul (.tup (.c (.int 0) .nil)) (.blt .len (.c (.var 3) .nil))) (.c (.bin .mul (.tup (.c (.int 1) .nil)) (.blt .len (.c (.var 3) .nil))) (.c (.bin .mul (.tup (.c (.bl true) .nil)) (.blt .len (.c (.var 3) .nil))) (.c (.slc (.var 9) .n (.s (.neg (.int 1)))) (.c (.bin .add (.var 9) (.tup (.c (.int 0) .nil))) (.c .non (.c (.tup .nil) .nil)))))))))) (.fz (.cp1 (.call 23 (.c (.var 1) (.c (.var 9) .nil))) (.nm 13) (.rg1 (.int 3)) .n [13])))) J1_3_5_B)
def J1_3_B : Sms := (.c J1_3_0 (.c J1_3_1 (.c J1_3_2 (.c J1_3_3 (.c J1_3_4 (.c J1_3_5 .nil))))))
def J1_3 : Sm := (.for (.nm 4) (.rg1 (.blt .len (.c (.var 3) .nil))) J1_3_B)
def J1_B : Sms := (.c J1_0 (.c J1_1 (.c J1_2 (.c J1_3 .nil))))
def J1 : Sm := (.for (.nm 2) (.rg1 (.int 3)) J1_B)
def J2 : Sm := (.asg (.nm 3) (.tup (.c (.tup (.c (.int 4) (.c (.int 0) (.c (.int 1) .nil)))) (.c (.tup (.c (.int 0) (.c (.int 4) (.c (.int 1) .nil)))) (.c (.tup (.c (.int 2) (.c (.int 2) (.c (.int 1) .nil)))) (.c (.tup (.c (.int 3) (.c (.int 3) (.c (.int 1) .nil)))) .nil))))))
def J3 : Sm := (.ret (.bop true (.c (.cmp .isn (.call 17 (.c (.var 3) (.c (.int 2) .nil))) .non) (.c (.cmp .is (.call 13 (.c (.var 3) (.c (.int 2) .nil))) .non) (.c (.cmp .is (.call 17 (.c (.var 3) (.c (.int 3) .nil))) .non) (.c (.cmp .is (.call 14 (.c (.var 3) (.c (.int 3) (.c (.tup (.c (.int 1) (.c (.int 1) (.c (.int 0) (.c (.int 0) .nil))))) .nil)))) (.bl true)) .nil))))))
def JB : Sms := (.c J0 (.c J1 (.c J2 (.c J3 .nil))))
theorem law_body : c_law.body = JB := rfl
section
variable {n : Nat} {s : Sto} {ws : List V3} {k b : Nat} {env : Env}
theorem sb_v3 {p : V3} {j : Nat} (h0 : Bt b p.1) (h1 : Bt b p.2.1) (h2 : Bt b p.2.2) : SB b (j + 1) (v3D p) := .tup (by simp) fun d hd => by
  simp only [List.mem_cons, List.not_mem_nil, or_false] at hd
  rcases hd with rfl | rfl | rfl
  · exact .int h0
  · exact .int h1
  · exact .int h2
theorem sm1760 {i : Int} (h : i.natAbs < 32) : Bt 1760 i := Bt.up (a := 5) (by show _ < _; exact h) (by omega)
/-- what a round of one work knows -/
structure Kr (ws : List V3) (k : Nat) (pa pe : D) (env : Env) : Prop where
  len : env.length = 16
  a1 : At env 1 (.loc 1)
  a3 : At env 3 (wsD ws)
  a4 : At env 4 (.int k)
  a7 : At env 7 pa
  a8 : At env 8 pe
theorem Kr.set {pa pe : D} {j : Nat} {x : Option SV} (K : Kr ws k pa pe env) (hj : 9 ≤ j) : Kr ws k pa pe (env.set j x) :=
  ⟨by rw [List.length_set]; exact K.len, K.a1.ne (by omega), K.a3.ne (by omega), K.a4.ne (by omega), K.a7.ne (by omega), K.a8.ne (by omega)⟩
/-- paces and a paper: one of them, told rightly -/
structure Tw (ws : List V3) (k : Nat) (pa pe : D) : Prop where
  one : isNonD pa = !isNonD pe
  l7 : isNonD pa = false → ∃ p, pa = v3D p ∧ Least ws k p ∧ Bt 1745 p.1 ∧ Bt 1745 p.2.1 ∧ Bt 1745 p.2.2
  l8 : isNonD pe = false → ∃ l : List Int, pe = .tup (l.map D.int) ∧ Worse ws k l ∧ ∀ x ∈ l, Bt 1745 x
theorem Tw.no8 {pa pe : D} (T : Tw ws k pa pe) {v : D} (h : lstB ws k v = true) : isNonD pe = true := by
  cases c : isNonD pe with
  | true => rfl
  | false =>
    obtain ⟨l, -, hw, -⟩ := T.l8 c
    obtain ⟨p, -, hl⟩ := lst_least h
    exact (never hl hw).elim
theorem Tw.no7 {pa pe : D} (T : Tw ws k pa pe) {v : D} (h : wrsB ws k v = true) : isNonD pa = true := by
  cases c : isNonD pa with
  | true => rfl
  | false =>
    obtain ⟨p, -, hl, -⟩ := T.l7 c
    obtain ⟨l, -, hw⟩ := wrs_worse h
    exact (never hl hw).elim
theorem non_of {d : D} (h : isNonD d = true) : d = .non := by cases d <;> first | rfl | cases h
theorem j0_ok (B : WB ws) (hk : k < ws.length) (hl : env.length = 16) (a1 : At env 1 (.loc 1)) (a3 : At env 3 (wsD ws)) (a4 : At env 4 (.int k)) (hb : Bx s) (hn : 6 ≤ n) :
    ∃ pa pe env', exec (callF fs gs n) gs J1_3_0 env s = .ok (.nx env') s ∧ Tw ws k pa pe ∧ Kr ws k pa pe env' := by
  have ep := e_paper (n := n) (s := s) B hk (by omega)
  obtain ⟨c1, c2⟩ := e_paces (n := n) (s := s) B hk hb.nolst hn
  obtain ⟨-, -, -, -, r3⟩ := lays B hk
  cases c : (lay3 ws k).any (·.st) with
  | true =>
    have ec := c1 c
    obtain ⟨r, hr, hst⟩ := List.any_eq_true.mp c
    obtain ⟨r0, e0⟩ : ∃ r0, (lay3 ws k).find? (·.st) = some r0 := by
      cases e : (lay3 ws k).find? (·.st) with
      | none => rw [List.find?_eq_none] at e; exact absurd hst (e r hr)
      | some r0 => exact ⟨r0, rfl⟩
    have m0 := List.mem_of_find?_eq_some e0
    have s0 : r0.st = true := List.find?_some e0
    have pe : papD ws k = .tup (r0.w.map D.int) := by unfold papD; rw [e0]
    rw [pe] at ep
    refine ⟨.non, .tup (r0.w.map D.int), (env.set 7 (some (.val .non))).set 8 (some (.val (.tup (r0.w.map D.int)))), ?_, ⟨rfl, (fun z => by cases z), fun _ => ⟨r0.w, rfl, worse_of m0 s0, fun x hx => ((r3 r0 m0).1.w x hx).up (by omega)⟩⟩, ⟨by simp [hl], (a1.ne (by omega)).ne (by omega), (a3.ne (by omega)).ne (by omega), (a4.ne (by omega)).ne (by omega), (atS (by omega)).ne (by omega), atS (by rw [List.length_set]; omega)⟩⟩
    generalize wsD ws = WW at *
    unfold J1_3_0
    simp [a3, a4, ec, ep, borrows, isOwn]
  | false =>
    obtain ⟨p, ec, hL, b0, b1, b2⟩ := c2 c
    have e0 : (lay3 ws k).find? (·.st) = none := List.find?_eq_none.mpr fun r hr => by
      have := List.any_eq_false.mp c r hr
      simpa using this
    have pe : papD ws k = .non := by unfold papD; rw [e0]
    rw [pe] at ep
    refine ⟨v3D p, .non, (env.set 7 (some (.val (v3D p)))).set 8 (some (.val .non)), ?_, ⟨rfl, fun _ => ⟨p, rfl, hL, b0, b1, b2⟩, fun z => by cases z⟩, ⟨by simp [hl], (a1.ne (by omega)).ne (by omega), (a3.ne (by omega)).ne (by omega), (a4.ne (by omega)).ne (by omega), (atS (by omega)).ne (by omega), atS (by rw [List.length_set]; omega)⟩⟩
    generalize wsD ws = WW at *
    generalize v3D p = PP at *
    unfold J1_3_0
    simp [a3, a4, ec, ep, borrows, isOwn]
theorem Tw.sb7 {pa pe : D} (T : Tw ws k pa pe) (h : isNonD pa = false) : SB 1760 2 pa := by
  obtain ⟨p, rfl, -, b0, b1, b2⟩ := T.l7 h
  exact sb_v3 (b0.up (by omega)) (b1.up (by omega)) (b2.up (by omega))
theorem Tw.sb8 {pa pe : D} (B : WB ws) (T : Tw ws k pa pe) (h : isNonD pe = false) : SB 1760 2 pe := by
  obtain ⟨l, rfl, hw, hb⟩ := T.l8 h
  have hl := hw.1
  have hz := B.len
  exact .tup (by rw [List.length_map]; omega) fun d hd => by
    obtain ⟨x, hx, rfl⟩ := List.mem_map.mp hd
    exact .int ((hb x hx).up (by omega))
theorem Tw.v7 {pa pe : D} (T : Tw ws k pa pe) (h : isNonD pa = false) : lstB ws k pa = true := by
  obtain ⟨p, rfl, hl, -⟩ := T.l7 h
  exact least_lst hl
theorem Tw.v8 {pa pe : D} (T : Tw ws k pa pe) (h : isNonD pe = false) : wrsB ws k pe = true := by
  obtain ⟨l, rfl, hw, -⟩ := T.l8 h
  rw [wrs_eq hw.1 hw.2.1]
  exact (cmp_worse hw.1 hw.2.1).mpr hw
theorem Tw.dr {pa pe : D} (B : WB ws) (T : Tw ws k pa pe) : (∀ s : Sto, deref s pa = pa) ∧ ∀ s : Sto, deref s pe = pe := by
  refine ⟨fun s => ?_, fun s => ?_⟩
  · cases c : isNonD pa with
    | true => rw [non_of c]; rfl
    | false => exact (T.sb7 c).sim.deref
  · cases c : isNonD pe with
    | true => rw [non_of c]; rfl
    | false => exact (T.sb8 B c).sim.deref
theorem j1_ok {pa pe : D} (B : WB ws) (hk : k < ws.length) (T : Tw ws k pa pe) (K : Kr ws k pa pe env) (hn : 3 ≤ n) : exec (callF fs gs n) gs J1_3_1 env s = .ok (.nx env) s := by
  obtain ⟨d7, d8⟩ := T.dr B
  have one := T.one
  have dw : ∀ s : Sto, deref s (wsD ws) = wsD ws := fun _ => rfl
  cases c : isNonD pe with
  | true =>
    rw [c] at one
    have e7 := e_lleast (n := n) (s := s) B hk (T.sb7 one) (by omega) (by omega)
    rw [T.v7 one] at e7
    have a3 := K.a3
    generalize wsD ws = WW at *
    unfold J1_3_1
    simp [K.a4, K.a7, K.a8, a3, one, c, d7, d8, e7, borrows, isOwn]
  | false =>
    rw [c] at one
    have e8 := e_lworse (n := n) (s := s) B hk (T.sb8 B c) (by omega) (by omega)
    rw [T.v8 c] at e8
    have a3 := K.a3
    generalize wsD ws = WW at *
    unfold J1_3_1
    simp [K.a4, K.a7, K.a8, a3, one, c, d7, d8, e8, borrows, isOwn]
/-! ### values one by one -/
theorem bents {l : List Int} (hl : ∀ x ∈ l, Bt 1745 x) (hz : l.length ≤ 10) (hle : env.length = 16) (h1 : At env 1 (.loc 1)) (h9 : At env 9 (.tup (l.map D.int))) (hb : Bx s) (hn : 4 ≤ n) :
    ∃ V s', evF (callF fs gs n) gs (.cp1 (.call 23 (.c (.var 1) (.c (.var 9) .nil))) (.nm 13) (.rg1 (.int 3)) .n [13]) env s = .ok V s' ∧ Bx s' ∧ V.length = 3 ∧ ∀ v ∈ V, SB 1760 2 v := by
  obtain ⟨l, s', e2, b', hl, hp⟩ := cp1_gen (cf := callF fs gs n) (gs := gs) (elt := .call 23 (.c (.var 1) (.c (.var 9) .nil))) (tg := .nm 13) (it := .rg1 (.int 3)) (vs := [13]) (env := env) (s := s) (s1 := s) (mk := D.int) (dec := fun (d : D) => d) (I := Bx) (P := fun v => SB 1760 2 v) (xs := [0, 1, 2])
    (by
      have r : rng1? (.int 3) = some [.int 0, .int 1, .int 2] := by rfl
      simp [r]) hb (fun a ha s3 hb3 => by
      obtain ⟨v, s4, g1, g2, g3⟩ := e_bent hl hz (n := n) hb3 (by omega)
      refine ⟨_, v, s4, bindT_nm, ?_, g2, g3⟩
      have q : At ((wipeE (noOwn env) [13]).set 13 (some (.val (.int a)))) 1 (.loc 1) := h1.inn (by omega)
      have q3 : At ((wipeE (noOwn env) [13]).set 13 (some (.val (.int a)))) 9 (.tup (l.map D.int)) := h9.inn (by omega)
      generalize (wipeE (noOwn env) [13]).set 13 (some (SV.val (.int a))) = env2 at *
      generalize l.map D.int = PP at *
      simp [q, q3, g1, borrows, isOwn]) (by show 3 ≤ 16777216; omega)
  rw [List.map_id'] at e2
  exact ⟨l, s', e2, b', hl, hp⟩
theorem lp1_step {pa pe v : D} (B : WB ws) (hk : k < ws.length) (T : Tw ws k pa pe) (K : Kr ws k pa pe env) (hv : SB 1760 2 v) (hn : 3 ≤ n) :
    ∃ env', stepF (callF fs gs n) gs (.nm 10) J1_3_3_B v env s = .ok (.nx env') s ∧ Kr ws k pa pe env' := by
  have eb : stepF (callF fs gs n) gs (.nm 10) J1_3_3_B v env s = execs (callF fs gs n) gs J1_3_3_B (env.set 10 (some (.val v))) s := by
    unfold stepF; rw [bindT_nm]
  rw [eb]
  have h10 : At (env.set 10 (some (.val v))) 10 v := atS (by rw [K.len]; omega)
  have K := K.set (j := 10) (x := some (.val v)) (by omega)
  generalize env.set 10 (some (SV.val v)) = env at *
  have e1 := e_lleast (n := n) (s := s) B hk hv (by omega) (by omega)
  have e2 := e_least_by (n := n) (s := s) B hk hv (by omega) (by omega)
  have em := e_same (k := 0) (d := .bl (lstB ws k v)) .bl (n := n) (s := s) (by omega)
  have d8 := (T.dr B).2
  have a3 := K.a3
  have K2 := K.set (j := 11) (x := some (.val (.bl (lstB ws k v)))) (by omega)
  have x0 : exec (callF fs gs n) gs J1_3_3_0 env s = .ok (.nx (env.set 11 (some (.val (.bl (lstB ws k v)))))) s := by
    generalize wsD ws = WW at *
    unfold J1_3_3_0
    simp [a3, K.a4, h10, e1, borrows, isOwn]
  have h11 : At (env.set 11 (some (.val (.bl (lstB ws k v))))) 11 (.bl (lstB ws k v)) := atS (by rw [K.len]; omega)
  have h10 : At (env.set 11 (some (.val (.bl (lstB ws k v))))) 10 v := h10.ne (by omega)
  generalize env.set 11 (some (SV.val (.bl (lstB ws k v)))) = env2 at *
  refine ⟨env2, ?_, K2⟩
  have no := T.no8 (v := v)
  have a3 := K2.a3
  have x1 : exec (callF fs gs n) gs J1_3_3_1 env2 s = .ok (.nx env2) s := by
    generalize wsD ws = WW at *
    generalize lstB ws k v = q at *
    unfold J1_3_3_1
    cases q with
    | true => simp [a3, K2.a4, K2.a8, h10, h11, e2, em, d8, no, borrows, isOwn]
    | false => simp [a3, K2.a4, K2.a8, h10, h11, e2, em, borrows, isOwn]
  unfold J1_3_3_B
  rw [execs_c, x0, nextF_nx, execs_c, x1, nextF_nx, execs_nil]
theorem lp2_step {pa pe v : D} (B : WB ws) (hk : k < ws.length) (T : Tw ws k pa pe) (K : Kr ws k pa pe env) (hv : SB 1760 2 v) (hn : 3 ≤ n) :
    ∃ env', stepF (callF fs gs n) gs (.nm 10) J1_3_5_B v env s = .ok (.nx env') s ∧ Kr ws k pa pe env' := by
  have eb : stepF (callF fs gs n) gs (.nm 10) J1_3_5_B v env s = execs (callF fs gs n) gs J1_3_5_B (env.set 10 (some (.val v))) s := by
    unfold stepF; rw [bindT_nm]
  rw [eb]
  have h10 : At (env.set 10 (some (.val v))) 10 v := atS (by rw [K.len]; omega)
  have K := K.set (j := 10) (x := some (.val v)) (by omega)
  generalize env.set 10 (some (SV.val v)) = env at *
  have e1 := e_lworse (n := n) (s := s) B hk hv (by omega) (by omega)
  have e2 := e_worse (n := n) (s := s) B hk hv (by omega) (by omega)
  have em := e_same (k := 0) (d := .bl (wrsB ws k v)) .bl (n := n) (s := s) (by omega)
  have d7 := (T.dr B).1
  have a3 := K.a3
  have K2 := K.set (j := 11) (x := some (.val (.bl (wrsB ws k v)))) (by omega)
  have x0 : exec (callF fs gs n) gs J1_3_5_0 env s = .ok (.nx (env.set 11 (some (.val (.bl (wrsB ws k v)))))) s := by
    generalize wsD ws = WW at *
    unfold J1_3_5_0
    simp [a3, K.a4, h10, e1, borrows, isOwn]
  have h11 : At (env.set 11 (some (.val (.bl (wrsB ws k v))))) 11 (.bl (wrsB ws k v)) := atS (by rw [K.len]; omega)
  have h10 : At (env.set 11 (some (.val (.bl (wrsB ws k v))))) 10 v := h10.ne (by omega)
  generalize env.set 11 (some (SV.val (.bl (wrsB ws k v)))) = env2 at *
  refine ⟨env2, ?_, K2⟩
  have no := T.no7 (v := v)
  have a3 := K2.a3
  have x1 : exec (callF fs gs n) gs J1_3_5_1 env2 s = .ok (.nx env2) s := by
    generalize wsD ws = WW at *
    generalize wrsB ws k v = q at *
    unfold J1_3_5_1
    cases q with
    | true => simp [a3, K2.a4, K2.a7, h10, h11, e2, em, d7, no, borrows, isOwn]
    | false => simp [a3, K2.a4, K2.a7, h10, h11, e2, em, borrows, isOwn]
  unfold J1_3_5_B
  rw [execs_c, x0, nextF_nx, execs_c, x1, nextF_nx, execs_nil]
theorem ones {n : Nat} : ∀ x ∈ List.replicate n (1 : Int), Bt 1745 x := fun x hx => by
  rw [List.eq_of_mem_replicate hx]; exact Bt.up (a := 1) (by show _ < _; decide) (by omega)
theorem j3_ok {pa pe : D} (B : WB ws) (hk : k < ws.length) (T : Tw ws k pa pe) (K : Kr ws k pa pe env) (hb : Bx s) (hn : 4 ≤ n) :
    ∃ env' s', (∀ rest, execs (callF fs gs n) gs (.c J1_3_2 (.c J1_3_3 rest)) env s = execs (callF fs gs n) gs rest env' s') ∧ Kr ws k pa pe env' ∧ Bx s' := by
  have d7 := (T.dr B).1
  obtain ⟨p, x2, b0, b1, b2⟩ : ∃ p : V3, exec (callF fs gs n) gs J1_3_2 env s = .ok (.nx (env.set 9 (some (.val (v3D p))))) s ∧ Bt 1745 p.1 ∧ Bt 1745 p.2.1 ∧ Bt 1745 p.2.2 := by
    cases c : isNonD pa with
    | true =>
      have o : Bt 1745 1 := Bt.up (a := 1) (by show _ < _; decide) (by omega)
      refine ⟨(1, 1, 1), ?_, o, o, o⟩
      unfold J1_3_2
      simp [K.a7, c, d7, v3D]
    | false =>
      obtain ⟨p, ep, -, b0, b1, b2⟩ := T.l7 c
      refine ⟨p, ?_, b0, b1, b2⟩
      rw [← ep]
      unfold J1_3_2
      simp [K.a7, c, d7]
  have K1 := K.set (j := 9) (x := some (.val (v3D p))) (by omega)
  have h9 : At (env.set 9 (some (.val (v3D p)))) 9 (v3D p) := atS (by rw [K.len]; omega)
  generalize env.set 9 (some (SV.val (v3D p))) = env1 at *
  have hp : ∀ x ∈ [p.1, p.2.1, p.2.2], Bt 1745 x := fun x hx => by
    simp only [List.mem_cons, List.not_mem_nil, or_false] at hx
    rcases hx with rfl | rfl | rfl
    · exact b0
    · exact b1
    · exact b2
  obtain ⟨V, s1, eV, bV, lV, hV⟩ := bents (n := n) (s := s) (env := env1) hp (by simp) K1.len K1.a1 h9 hb hn
  have ad := add_lst (a := [v3D p, .tup [.int 1, .int 1, .int 1], .tup [.int 1, .int 9, .int 1], .tup [.int 9, .int 1, .int 30], .tup [.int 0, .int 1, .int 1], .tup [.bl true, .int 1, .int 1], .tup [.int 1, .int 1], .non, .tup []]) (b := V) (by simp; omega)
  have ei : evI (callF fs gs n) gs false (.seq (.bin .add (.fz (.dsp (.c (.var 9) (.c (.tup (.c (.int 1) (.c (.int 1) (.c (.int 1) .nil)))) (.c (.tup (.c (.int 1) (.c (.int 9) (.c (.int 1) .nil)))) (.c (.tup (.c (.int 9) (.c (.int 1) (.c (.int 30) .nil)))) (.c (.tup (.c (.int 0) (.c (.int 1) (.c (.int 1) .nil)))) (.c (.tup (.c (.bl true) (.c (.int 1) (.c (.int 1) .nil)))) (.c (.tup (.c (.int 1) (.c (.int 1) .nil))) (.c .non (.c (.tup .nil) .nil))))))))))) (.fz (.cp1 (.call 23 (.c (.var 1) (.c (.var 9) .nil))) (.nm 13) (.rg1 (.int 3)) .n [13])))) env1 s = .ok (([v3D p, .tup [.int 1, .int 1, .int 1], .tup [.int 1, .int 9, .int 1], .tup [.int 9, .int 1, .int 30], .tup [.int 0, .int 1, .int 1], .tup [.bl true, .int 1, .int 1], .tup [.int 1, .int 1], .non, .tup []] ++ V).map id) s1 := by
    rw [List.map_id]
    generalize v3D p = PP at *
    simp [h9, eV, ad, items?, -bin_addL]
  have hall : ∀ v ∈ [v3D p, .tup [.int 1, .int 1, .int 1], .tup [.int 1, .int 9, .int 1], .tup [.int 9, .int 1, .int 30], .tup [.int 0, .int 1, .int 1], .tup [.bl true, .int 1, .int 1], .tup [.int 1, .int 1], .non, .tup []] ++ V, SB 1760 2 v := fun v hv => by
    rcases List.mem_append.mp hv with hv | hv
    · have three : ∀ a b c : Int, a.natAbs < 32 → b.natAbs < 32 → c.natAbs < 32 → SB 1760 2 (.tup [.int a, .int b, .int c]) := fun a b c ha hb hc => sb_v3 (p := (a, b, c)) (sm1760 ha) (sm1760 hb) (sm1760 hc)
      simp only [List.mem_cons, List.not_mem_nil, or_false] at hv
      rcases hv with rfl | rfl | rfl | rfl | rfl | rfl | rfl | rfl | rfl
      · exact sb_v3 (b0.up (by omega)) (b1.up (by omega)) (b2.up (by omega))
      · exact three 1 1 1 (by decide) (by decide) (by decide)
      · exact three 1 9 1 (by decide) (by decide) (by decide)
      · exact three 9 1 30 (by decide) (by decide) (by decide)
      · exact three 0 1 1 (by decide) (by decide) (by decide)
      · exact .tup (by simp) fun d hd => by
          simp only [List.mem_cons, List.not_mem_nil, or_false] at hd
          rcases hd with rfl | rfl | rfl
          · exact .bl
          · exact .int (sm1760 (by decide))
          · exact .int (sm1760 (by decide))
      · exact .tup (by simp) fun d hd => by
          simp only [List.mem_cons, List.not_mem_nil, or_false] at hd
          rcases hd with rfl | rfl <;> exact .int (sm1760 (by decide))
      · exact .non
      · exact .tup (by simp) fun d hd => by cases hd
    · exact hV v hv
  obtain ⟨env2, s2, e2, K2, b2'⟩ := loop_mem (f := stepF (callF fs gs n) gs (.nm 10) J1_3_3_B) (mk := id) (I := fun env s => Kr ws k pa pe env ∧ Bx s) (env := env1) (s := s1) ⟨K1, bV⟩ (fun v hv env s hI => by
    obtain ⟨env', e, k'⟩ := lp1_step (n := n) (s := s) B hk T hI.1 (hall v hv) (by omega)
    exact ⟨env', s, e, k', hI.2⟩)
  refine ⟨env2, s2, fun rest => ?_, K2, b2'⟩
  rw [execs_c, x2, nextF_nx]
  unfold J1_3_3
  have ef : ∀ X Y, frzI env1 (.seq (.bin .add X Y)) = env1 := fun _ _ => rfl
  rw [execs_c, exec_for, ef, ei, ok_bind, e2, nextF_nx]
theorem j5_ok {pa pe : D} (B : WB ws) (hk : k < ws.length) (T : Tw ws k pa pe) (K : Kr ws k pa pe env) (hb : Bx s) (hn : 4 ≤ n) :
    ∃ env' s', (∀ rest, execs (callF fs gs n) gs (.c J1_3_4 (.c J1_3_5 rest)) env s = execs (callF fs gs n) gs rest env' s') ∧ Kr ws k pa pe env' ∧ Bx s' := by
  have d8 := (T.dr B).2
  have hz := B.len
  have lw := len_ws (ws := ws)
  have dw : ∀ s : Sto, deref s (wsD ws) = wsD ws := fun _ => rfl
  have mo := mul_tup0 (x := .int 1) (k := ws.length) (by omega)
  have mz := mul_tup0 (x := .int 0) (k := ws.length) (by omega)
  have mb := mul_tup0 (x := .bl true) (k := ws.length) (by omega)
  obtain ⟨l, x2, hl, hlb⟩ : ∃ l : List Int, exec (callF fs gs n) gs J1_3_4 env s = .ok (.nx (env.set 9 (some (.val (.tup (l.map D.int)))))) s ∧ l.length = ws.length ∧ ∀ x ∈ l, Bt 1745 x := by
    cases c : isNonD pe with
    | true =>
      refine ⟨List.replicate ws.length 1, ?_, by simp, ones⟩
      rw [List.map_replicate]
      have a3 := K.a3
      generalize wsD ws = WW at *
      unfold J1_3_4
      simp [K.a8, a3, c, d8, lw, dw, mo]
    | false =>
      obtain ⟨l, ep, hw, hb⟩ := T.l8 c
      refine ⟨l, ?_, hw.1, hb⟩
      rw [← ep]
      unfold J1_3_4
      simp [K.a8, c, d8]
  have K1 := K.set (j := 9) (x := some (.val (.tup (l.map D.int)))) (by omega)
  have h9 : At (env.set 9 (some (.val (.tup (l.map D.int))))) 9 (.tup (l.map D.int)) := atS (by rw [K.len]; omega)
  generalize env.set 9 (some (SV.val (.tup (l.map D.int)))) = env1 at *
  obtain ⟨V, s1, eV, bV, lV, hV⟩ := bents (n := n) (s := s) (env := env1) hlb (by omega) K1.len K1.a1 h9 hb hn
  have az := add_tup (a := l.map D.int) (b := [.int 0]) (by simp; omega)
  have sl : slcD (.tup (l.map D.int)) none (some (-1)) = some (.tup (cut (l.map D.int) none (some (-1)))) := rfl
  have dl : ∀ s : Sto, deref s (.tup (l.map D.int)) = .tup (l.map D.int) := fun _ => rfl
  have ad := add_lst (a := [D.tup (l.map D.int), .tup (List.replicate ws.length (.int 0)), .tup (List.replicate ws.length (.int 1)), .tup (List.replicate ws.length (.bl true)), .tup (cut (l.map D.int) none (some (-1))), .tup (l.map D.int ++ [.int 0]), .non, .tup []]) (b := V) (by simp; omega)
  have ei : evI (callF fs gs n) gs false (.seq (.bin .add (.fz (.dsp (.c (.var 9) (.c (.bin .mul (.tup (.c (.int 0) .nil)) (.blt .len (.c (.var 3) .nil))) (.c (.bin .mul (.tup (.c (.int 1) .nil)) (.blt .len (.c (.var 3) .nil))) (.c (.bin .mul (.tup (.c (.bl true) .nil)) (.blt .len (.c (.var 3) .nil))) (.c (.slc (.var 9) .n (.s (.neg (.int 1)))) (.c (.bin .add (.var 9) (.tup (.c (.int 0) .nil))) (.c .non (.c (.tup .nil) .nil)))))))))) (.fz (.cp1 (.call 23 (.c (.var 1) (.c (.var 9) .nil))) (.nm 13) (.rg1 (.int 3)) .n [13])))) env1 s = .ok (([D.tup (l.map D.int), .tup (List.replicate ws.length (.int 0)), .tup (List.replicate ws.length (.int 1)), .tup (List.replicate ws.length (.bl true)), .tup (cut (l.map D.int) none (some (-1))), .tup (l.map D.int ++ [.int 0]), .non, .tup []] ++ V).map id) s1 := by
    rw [List.map_id]
    have a3 := K1.a3
    generalize wsD ws = WW at *
    generalize l.map D.int = LL at *
    generalize List.replicate ws.length (D.int 0) = Z0 at *
    generalize List.replicate ws.length (D.int 1) = Z1 at *
    generalize List.replicate ws.length (D.bl true) = Z2 at *
    simp [h9, a3, eV, ad, az, sl, dl, lw, dw, mo, mz, mb, items?, -bin_addL, -bin_addT]
  have one : ∀ d ∈ l.map D.int, SB 1760 1 d := fun d hd => by
    obtain ⟨x, hx, rfl⟩ := List.mem_map.mp hd
    exact .int ((hlb x hx).up (by omega))
  have llen : (l.map D.int).length ≤ 6 := by rw [List.length_map]; omega
  have hall : ∀ v ∈ [D.tup (l.map D.int), .tup (List.replicate ws.length (.int 0)), .tup (List.replicate ws.length (.int 1)), .tup (List.replicate ws.length (.bl true)), .tup (cut (l.map D.int) none (some (-1))), .tup (l.map D.int ++ [.int 0]), .non, .tup []] ++ V, SB 1760 2 v := fun v hv => by
    rcases List.mem_append.mp hv with hv | hv
    · have rep : ∀ {d : D}, SB 1760 1 d → SB 1760 2 (.tup (List.replicate ws.length d)) := fun {d} hd => .tup (by rw [List.length_replicate]; omega) fun e he => by rw [List.eq_of_mem_replicate he]; exact hd
      have cs := cut_sub (l := l.map D.int) (a := none) (b := some (-1))
      simp only [List.mem_cons, List.not_mem_nil, or_false] at hv
      rcases hv with rfl | rfl | rfl | rfl | rfl | rfl | rfl | rfl
      · exact .tup (by omega) one
      · exact rep (.int (sm1760 (by decide)))
      · exact rep (.int (sm1760 (by decide)))
      · exact rep .bl
      · exact .tup (by omega) fun d hd => one d (cut_mem hd)
      · exact .tup (by rw [List.length_append]; simp; omega) fun d hd => (List.mem_append.mp hd).elim (one d) fun h => by rw [List.mem_singleton.mp h]; exact .int (sm1760 (by decide))
      · exact .non
      · exact .tup (by simp) fun d hd => by cases hd
    · exact hV v hv
  obtain ⟨env2, s2, e2, K2, b2'⟩ := loop_mem (f := stepF (callF fs gs n) gs (.nm 10) J1_3_5_B) (mk := id) (I := fun env s => Kr ws k pa pe env ∧ Bx s) (env := env1) (s := s1) ⟨K1, bV⟩ (fun v hv env s hI => by
    obtain ⟨env', e, k'⟩ := lp2_step (n := n) (s := s) B hk T hI.1 (hall v hv) (by omega)
    exact ⟨env', s, e, k', hI.2⟩)
  refine ⟨env2, s2, fun rest => ?_, K2, b2'⟩
  rw [execs_c, x2, nextF_nx]
  unfold J1_3_5
  have ef : ∀ X Y, frzI env1 (.seq (.bin .add X Y)) = env1 := fun _ _ => rfl
  rw [execs_c, exec_for, ef, ei, ok_bind, e2, nextF_nx]
/-- one work of a turn -/
theorem work_ok (B : WB ws) (hk : k < ws.length) (hl : env.length = 16) (a1 : At env 1 (.loc 1)) (a3 : At env 3 (wsD ws)) (hb : Bx s) (hn : 6 ≤ n) :
    ∃ env' s', stepF (callF fs gs n) gs (.nm 4) J1_3_B (.int k) env s = .ok (.nx env') s' ∧ env'.length = 16 ∧ At env' 1 (.loc 1) ∧ At env' 3 (wsD ws) ∧ Bx s' := by
  have eb : stepF (callF fs gs n) gs (.nm 4) J1_3_B (.int k) env s = execs (callF fs gs n) gs J1_3_B (env.set 4 (some (.val (.int k)))) s := by
    unfold stepF; rw [bindT_nm]
  rw [eb]
  have h4 : At (env.set 4 (some (.val (.int (k : Int))))) 4 (.int k) := atS (by omega)
  have h1 : At (env.set 4 (some (.val (.int (k : Int))))) 1 (.loc 1) := a1.ne (by omega)
  have h3 : At (env.set 4 (some (.val (.int (k : Int))))) 3 (wsD ws) := a3.ne (by omega)
  have hl : (env.set 4 (some (.val (.int (k : Int))))).length = 16 := by rw [List.length_set]; exact hl
  generalize env.set 4 (some (SV.val (.int (k : Int)))) = env at *
  obtain ⟨pa, pe, env1, e1, T, K1⟩ := j0_ok (n := n) (s := s) B hk hl h1 h3 h4 hb hn
  obtain ⟨env2, s2, e2, K2, b2⟩ := j3_ok (n := n) (s := s) B hk T K1 hb (by omega)
  obtain ⟨env3, s3, e3, K3, b3⟩ := j5_ok (n := n) (s := s2) B hk T K2 b2 (by omega)
  unfold J1_3_B
  rw [execs_c, e1, nextF_nx, execs_c, j1_ok B hk T K1 (by omega), nextF_nx, e2, e3, execs_nil]
  exact ⟨env3, s3, rfl, K3.len, K3.a1, K3.a3, b3⟩
end
end PV.K22
set_option maxRecDepth 100000
set_option maxHeartbeats 4000000
namespace PV.K22
open PySem PV
section
variable {n : Nat} {s : Sto} {ws us : List V3} {k b : Nat} {env : Env}
def In8 (u : V3) : Prop := (0 ≤ u.1 ∧ u.1 ≤ 8) ∧ (0 ≤ u.2.1 ∧ u.2.1 ≤ 8) ∧ 0 ≤ u.2.2 ∧ u.2.2 ≤ 8
def In17 (u : V3) : Prop := (0 ≤ u.1 ∧ u.1 ≤ 17) ∧ (0 ≤ u.2.1 ∧ u.2.1 ≤ 17) ∧ 0 ≤ u.2.2 ∧ u.2.2 ≤ 17
theorem in17_bt {u : V3} (h : In17 u) : ∀ i, Bt 5 (vat u i) := bt_v (by have := h.1; show _ < _; omega) (by have := h.2.1; show _ < _; omega) (by have := h.2.2; show _ < _; omega)
def dblV (u : V3) : V3 := (2 * u.1, 2 * u.2.1, 2 * u.2.2)
theorem d_works (hl : env.length = 16) (a1 : At env 1 (.loc 1)) (hb : Bx s) (hn : 2 ≤ n) :
    ∃ (us : List V3) (s' : Sto), exec (callF fs gs n) gs J1_0 env s = .ok (.nx (env.set 3 (some (.own (us.map v3D))))) s' ∧ Bx s' ∧ (1 ≤ us.length ∧ us.length ≤ 5) ∧ ∀ u ∈ us, In8 u := by
  obtain ⟨d, s1, g1, k1, b1⟩ := e_draw (n := n) (many := 5) hb (by omega) hn
  obtain ⟨W, hW, W1⟩ : ∃ W : Nat, 1 + d = W ∧ 1 ≤ W ∧ W ≤ 5 := ⟨(1 + d).toNat, by omega, by omega, by omega⟩
  have r := rng1_nat (W := W) (by omega)
  obtain ⟨l, s', e2, b', hl', hp⟩ := cp1_gen (cf := callF fs gs n) (gs := gs) (elt := .tup (.c (.call 21 (.c (.var 1) (.c (.int 9) .nil))) (.c (.call 21 (.c (.var 1) (.c (.int 9) .nil))) (.c (.call 21 (.c (.var 1) (.c (.int 5) .nil))) .nil)))) (tg := .nm 4) (it := .rg1 (.bin .add (.int 1) (.call 21 (.c (.var 1) (.c (.int 5) .nil))))) (vs := [4]) (env := env) (s := s) (s1 := s1) (mk := fun (i : Nat) => D.int i) (dec := v3D) (I := Bx) (P := In8) (xs := List.range W)
    (by simp [a1, g1, hW, r, borrows, isOwn]) b1 (fun a ha s3 hb3 => by
      obtain ⟨x, s4, g4, k4, b4⟩ := e_draw (n := n) (many := 9) hb3 (by omega) hn
      obtain ⟨y, s5, g5, k5, b5⟩ := e_draw (n := n) (many := 9) b4 (by omega) hn
      obtain ⟨z, s6, g6, k6, b6⟩ := e_draw (n := n) (many := 5) b5 (by omega) hn
      refine ⟨_, (x, y, z), s6, bindT_nm, ?_, b6, ⟨by simp only; omega, by simp only; omega, by simp only; omega⟩⟩
      have q : At ((wipeE (noOwn env) [4]).set 4 (some (.val (.int (a : Int))))) 1 (.loc 1) := a1.inn (by omega)
      generalize (wipeE (noOwn env) [4]).set 4 (some (SV.val (.int (a : Int)))) = env2 at *
      unfold v3D
      simp [q, g4, g5, g6, borrows, isOwn]) (by rw [List.length_range]; show _ ≤ 16777216; omega)
  refine ⟨l, s', ?_, b', by rw [hl', List.length_range]; omega, hp⟩
  unfold J1_0
  rw [exec_own, e2, ok_bind]
theorem d_bent {turn : Int} (hl : env.length = 16) (a1 : At env 1 (.loc 1)) (a2 : At env 2 (.int turn)) (a3 : env[3]? = some (some (.own (us.map v3D)))) (hu : 1 ≤ us.length ∧ us.length ≤ 5) (h8 : ∀ u ∈ us, In8 u) (hb : Bx s) (hn : 2 ≤ n) :
    ∃ ws env' s', exec (callF fs gs n) gs J1_1 env s = .ok (.nx env') s' ∧ env'.length = 16 ∧ At env' 1 (.loc 1) ∧ env'[3]? = some (some (.own (ws.map v3D))) ∧ Bx s' ∧ WB ws := by
  have up : ∀ u : V3, In8 u → In17 u := fun u h => ⟨by have := h.1; omega, by have := h.2.1; omega, by have := h.2.2; omega⟩
  have lus : bltD .len [.lst (us.map v3D)] = some (.int us.length) := by rw [blt_len_lst, List.length_map]
  have dlus : ∀ s : Sto, deref s (.lst (us.map v3D)) = .lst (us.map v3D) := fun _ => rfl
  by_cases c : (2 : Int) < us.length
  · obtain ⟨d, s1, g1, k1, b1⟩ := e_draw (n := n) (many := 2) hb (by omega) hn
    by_cases c2 : d = 0
    · subst c2
      obtain ⟨u0, u1, rest, rfl⟩ : ∃ u0 u1 rest, us = u0 :: u1 :: rest := by
        match us, c with
        | u0 :: u1 :: rest, _ => exact ⟨u0, u1, rest, rfl⟩
      have h0 := h8 u0 (by simp)
      have h1 := h8 u1 (by simp)
      have x1 : exec (callF fs gs n) gs (.par [5, 6] (.v (.idx (.var 3) (.int 0)) (.v (.idx (.var 3) (.int 1)) .nil))) env s1 = .ok (.nx ((env.set 5 (some (.val (v3D u0)))).set 6 (some (.val (v3D u1))))) s1 := by
        have i0 : idxD (.lst ((u0 :: u1 :: rest).map v3D)) (.int 0) = some (v3D u0) := idxL_0
        have i1 : idxD (.lst ((u0 :: u1 :: rest).map v3D)) (.int 1) = some (v3D u1) := idxL_1
        generalize (u0 :: u1 :: rest).map v3D = UU at *
        simp [a3, i0, i1]
      have a3' : ((env.set 5 (some (.val (v3D u0)))).set 6 (some (.val (v3D u1))))[3]? = some (some (.own ((u0 :: u1 :: rest).map v3D))) := by
        rw [List.getElem?_set_ne (by decide), List.getElem?_set_ne (by decide)]; exact a3
      have b1' : At ((env.set 5 (some (.val (v3D u0)))).set 6 (some (.val (v3D u1)))) 1 (.loc 1) := (a1.ne (by omega)).ne (by omega)
      have b2 : At ((env.set 5 (some (.val (v3D u0)))).set 6 (some (.val (v3D u1)))) 2 (.int turn) := (a2.ne (by omega)).ne (by omega)
      have b5 : At ((env.set 5 (some (.val (v3D u0)))).set 6 (some (.val (v3D u1)))) 5 (v3D u0) := (atS (by omega)).ne (by omega)
      have b6 : At ((env.set 5 (some (.val (v3D u0)))).set 6 (some (.val (v3D u1)))) 6 (v3D u1) := atS (by rw [List.length_set]; omega)
      have hl1 : ((env.set 5 (some (.val (v3D u0)))).set 6 (some (.val (v3D u1)))).length = 16 := by rw [List.length_set, List.length_set]; exact hl
      generalize (env.set 5 (some (SV.val (v3D u0)))).set 6 (some (.val (v3D u1))) = env1 at *
      -- doubled
      have e2 : evF (callF fs gs n) gs (.cp1 (.blt .tup (.c (.fz (.cp1 (.bin .mul (.int 2) (.var 14)) (.nm 14) (.seq (.var 12)) .n [14])) .nil)) (.nm 12) (.seq (.var 3)) .n [12]) env1 s1 = .ok ((u0 :: u1 :: rest).map fun u => v3D (dblV u)) s1 := by
        refine cp1_map (xs := u0 :: u1 :: rest) (mk := v3D) (by
          generalize (u0 :: u1 :: rest).map v3D = UU at *
          simp [a3', items?]) (fun u hu => ⟨_, bindT_nm, ?_⟩) (by show _ ≤ 16777216; omega)
        have q12 : At ((wipeE (noOwn env1) [12]).set 12 (some (.val (v3D u)))) 12 (v3D u) := At.new (by omega)
        have ql : ((wipeE (noOwn env1) [12]).set 12 (some (.val (v3D u)))).length = 16 := by rw [len_in]; exact hl1
        generalize (wipeE (noOwn env1) [12]).set 12 (some (SV.val (v3D u))) = env2 at *
        have bu := in17_bt (up u (h8 u hu))
        have inner : evF (callF fs gs n) gs (.cp1 (.bin .mul (.int 2) (.var 14)) (.nm 14) (.seq (.var 12)) .n [14]) env2 s1 = .ok ([u.1, u.2.1, u.2.2].map fun x => D.int (2 * x)) s1 := by
          have it : items? (v3D u) = some ([u.1, u.2.1, u.2.2].map D.int) := rfl
          refine cp1_map (xs := [u.1, u.2.1, u.2.2]) (mk := D.int) (by simp only [evI_seq, ev_var, q12, rdV_val, ok_bind, it, lift_some]) (fun x hx => ⟨_, bindT_nm, ?_⟩) (by show 3 ≤ 16777216; omega)
          have q14 : At ((wipeE (noOwn env2) [14]).set 14 (some (.val (.int x)))) 14 (.int x) := At.new (by omega)
          generalize (wipeE (noOwn env2) [14]).set 14 (some (SV.val (.int x))) = env3 at *
          have bx : Bt 5 x := by
            simp only [List.mem_cons, List.not_mem_nil, or_false] at hx
            rcases hx with rfl | rfl | rfl
            · exact bu 0
            · exact bu 1
            · exact bu 2
          have mu := mul_bt (i := 2) (a := 2) (by show _ < _; decide) bx (by omega)
          simp [q14, mu, -bin_mul]
        have ev : D.tup ([u.1, u.2.1, u.2.2].map fun x => D.int (2 * x)) = v3D (dblV u) := rfl
        rw [← ev]
        generalize ([u.1, u.2.1, u.2.2].map fun x => D.int (2 * x)) = M at *
        simp [inner]
      have x2 : exec (callF fs gs n) gs (.own 3 (.cp1 (.blt .tup (.c (.fz (.cp1 (.bin .mul (.int 2) (.var 14)) (.nm 14) (.seq (.var 12)) .n [14])) .nil)) (.nm 12) (.seq (.var 3)) .n [12])) env1 s1 = .ok (.nx (env1.set 3 (some (.own (((u0 :: u1 :: rest).map dblV).map v3D))))) s1 := by
        rw [exec_own, e2, ok_bind, List.map_map]; rfl
      have c3 : (env1.set 3 (some (.own (((u0 :: u1 :: rest).map dblV).map v3D))))[3]? = some (some (.own (((u0 :: u1 :: rest).map dblV).map v3D))) := List.getElem?_set_self (by omega)
      have c1 : At (env1.set 3 (some (.own (((u0 :: u1 :: rest).map dblV).map v3D)))) 1 (.loc 1) := b1'.ne (by omega)
      have c2 : At (env1.set 3 (some (.own (((u0 :: u1 :: rest).map dblV).map v3D)))) 2 (.int turn) := b2.ne (by omega)
      have c5 : At (env1.set 3 (some (.own (((u0 :: u1 :: rest).map dblV).map v3D)))) 5 (v3D u0) := b5.ne (by omega)
      have c6 : At (env1.set 3 (some (.own (((u0 :: u1 :: rest).map dblV).map v3D)))) 6 (v3D u1) := b6.ne (by omega)
      have hl2 : (env1.set 3 (some (.own (((u0 :: u1 :: rest).map dblV).map v3D)))).length = 16 := by rw [List.length_set]; exact hl1
      generalize env1.set 3 (some (SV.own (((u0 :: u1 :: rest).map dblV).map v3D))) = env2 at *
      obtain ⟨l, s2, e3, b2', l3, hp⟩ := cp1_gen (cf := callF fs gs n) (gs := gs) (elt := .bin .add (.bin .add (.idx (.var 5) (.var 15)) (.idx (.var 6) (.var 15))) (.ite (.bop true (.c (.cmp .eq (.var 15) (.var 2)) (.c (.cmp .eq (.call 21 (.c (.var 1) (.c (.int 2) .nil))) (.int 0)) .nil))) (.int 1) (.int 0))) (tg := .nm 15) (it := .rg1 (.int 3)) (vs := [15]) (env := env2) (s := s1) (s1 := s1) (mk := fun (i : Nat) => D.int i) (dec := D.int) (I := Bx) (P := fun v => 0 ≤ v ∧ v ≤ 17) (xs := List.range 3)
        (by
          have r3 := rng1_nat (W := 3) (by omega)
          have r3 : rng1? (.int 3) = some ((List.range 3).map fun (a : Nat) => D.int a) := r3
          simp only [evI_rg1, ev_int, ok_bind, r3, lift_some]) b1 (fun a ha s3 hb3 => by
          have ha := List.mem_range.mp ha
          have i0 := idx_vat (v := u0) ha
          have i1 := idx_vat (v := u1) ha
          have d0 : ∀ s : Sto, deref s (v3D u0) = v3D u0 := fun _ => rfl
          have d1 : ∀ s : Sto, deref s (v3D u1) = v3D u1 := fun _ => rfl
          have v8 : ∀ u : V3, In8 u → 0 ≤ vat u a ∧ vat u a ≤ 8 := fun u hu => by
            rcases (by omega : a = 0 ∨ a = 1 ∨ a = 2) with rfl | rfl | rfl
            · exact hu.1
            · exact hu.2.1
            · exact hu.2.2
          have w0 := v8 u0 h0
          have w1 := v8 u1 h1
          have q15 : At ((wipeE (noOwn env2) [15]).set 15 (some (.val (.int (a : Int))))) 15 (.int (a : Int)) := At.new (by omega)
          have q1 : At ((wipeE (noOwn env2) [15]).set 15 (some (.val (.int (a : Int))))) 1 (.loc 1) := c1.inn (by omega)
          have q2 : At ((wipeE (noOwn env2) [15]).set 15 (some (.val (.int (a : Int))))) 2 (.int turn) := c2.inn (by omega)
          have q5 : At ((wipeE (noOwn env2) [15]).set 15 (some (.val (.int (a : Int))))) 5 (v3D u0) := c5.inn (by omega)
          have q6 : At ((wipeE (noOwn env2) [15]).set 15 (some (.val (.int (a : Int))))) 6 (v3D u1) := c6.inn (by omega)
          by_cases ct : (a : Int) = turn
          · obtain ⟨d, s4, g4, k4, b4⟩ := e_draw (n := n) (many := 2) hb3 (by omega) hn
            by_cases cd : d = 0
            · refine ⟨_, vat u0 a + vat u1 a + 1, s4, bindT_nm, ?_, b4, by omega⟩
              generalize (wipeE (noOwn env2) [15]).set 15 (some (SV.val (.int (a : Int)))) = env3 at *
              subst ct
              simp [q1, q2, q5, q6, q15, i0, i1, d0, d1, cd, g4, borrows, isOwn]
            · refine ⟨_, vat u0 a + vat u1 a + 0, s4, bindT_nm, ?_, b4, by omega⟩
              generalize (wipeE (noOwn env2) [15]).set 15 (some (SV.val (.int (a : Int)))) = env3 at *
              subst ct
              simp [q1, q2, q5, q6, q15, i0, i1, d0, d1, cd, g4, borrows, isOwn]
          · refine ⟨_, vat u0 a + vat u1 a + 0, s3, bindT_nm, ?_, hb3, by omega⟩
            generalize (wipeE (noOwn env2) [15]).set 15 (some (SV.val (.int (a : Int)))) = env3 at *
            simp [q1, q2, q5, q6, q15, i0, i1, d0, d1, ct]) (by show 3 ≤ 16777216; omega)
      match l, l3 with
      | [x, y, z], _ =>
        have px := hp x (by simp)
        have py := hp y (by simp)
        have pz := hp z (by simp)
        have hlt : (((u0 :: u1 :: rest).map dblV).map v3D).length < LINE := by rw [List.length_map, List.length_map]; show _ < 16777216; omega
        have x3 : exec (callF fs gs n) gs (.app 3 (.blt .tup (.c (.fz (.cp1 (.bin .add (.bin .add (.idx (.var 5) (.var 15)) (.idx (.var 6) (.var 15))) (.ite (.bop true (.c (.cmp .eq (.var 15) (.var 2)) (.c (.cmp .eq (.call 21 (.c (.var 1) (.c (.int 2) .nil))) (.int 0)) .nil))) (.int 1) (.int 0))) (.nm 15) (.rg1 (.int 3)) .n [15])) .nil))) env2 s1 = .ok (.nx (env2.set 3 (some (.own (((u0 :: u1 :: rest).map dblV).map v3D ++ [v3D (x, y, z)]))))) s2 := by
          generalize ((u0 :: u1 :: rest).map dblV).map v3D = UU at *
          have ev : D.tup ([x, y, z].map D.int) = v3D (x, y, z) := rfl
          rw [← ev]
          generalize [x, y, z].map D.int = XX at *
          simp [c3, e3, chg, hlt]
        refine ⟨(u0 :: u1 :: rest).map dblV ++ [(x, y, z)], env2.set 3 (some (.own (((u0 :: u1 :: rest).map dblV).map v3D ++ [v3D (x, y, z)]))), s2, ?_, by rw [List.length_set]; exact hl2, c1.ne (by omega), ?_, b2', ⟨fun u hu => in17_bt ?_, ?_⟩⟩
        · have ec : ev (callF fs gs n) gs true (.bop true (.c (.cmp .gt (.blt .len (.c (.var 3) .nil)) (.int 2)) (.c (.cmp .eq (.call 21 (.c (.var 1) (.c (.int 2) .nil))) (.int 0)) .nil))) env s = .ok (.bl true) s1 := by
            generalize (u0 :: u1 :: rest).map v3D = UU at *
            generalize ((u0 :: u1 :: rest).length : Int) = NL at *
            simp [a3, lus, dlus, c, a1, g1, borrows, isOwn, -blt_len_lst]
          unfold J1_1
          rw [exec_ite, ec, ok_bind, truthS_bl, ok_bind, if_pos rfl, execs_c, x1, nextF_nx, execs_c, x2, nextF_nx, execs_c, x3, nextF_nx, execs_nil]
        · rw [List.getElem?_set_self (by omega), List.map_append]; rfl
        · rcases List.mem_append.mp hu with hu | hu
          · obtain ⟨v, hv, rfl⟩ := List.mem_map.mp hu
            have := h8 v hv
            exact ⟨by show 0 ≤ 2 * v.1 ∧ 2 * v.1 ≤ 17; have := this.1; omega, by show 0 ≤ 2 * v.2.1 ∧ 2 * v.2.1 ≤ 17; have := this.2.1; omega, by show 0 ≤ 2 * v.2.2 ∧ 2 * v.2.2 ≤ 17; have := this.2.2; omega⟩
          · rw [List.mem_singleton.mp hu]
            exact ⟨px, py, pz⟩
        · rw [List.length_append, List.length_map]; have := hu.2; simp only [List.length_singleton]; omega
    · refine ⟨us, env, s1, ?_, hl, a1, a3, b1, ⟨fun u hu => in17_bt (up u (h8 u hu)), by omega⟩⟩
      generalize us.map v3D = UU at *
      generalize (us.length : Int) = NL at *
      unfold J1_1
      simp [a3, lus, dlus, c, a1, g1, c2, borrows, isOwn, -blt_len_lst]
  · refine ⟨us, env, s, ?_, hl, a1, a3, hb, ⟨fun u hu => in17_bt (up u (h8 u hu)), by omega⟩⟩
    generalize us.map v3D = UU at *
    generalize (us.length : Int) = NL at *
    unfold J1_1
    simp [a3, lus, dlus, c, a1, borrows, isOwn, -blt_len_lst]
def Inv (env : Env) (s : Sto) : Prop := env.length = 16 ∧ At env 1 (.loc 1) ∧ Bx s
theorem turn_ok {j : Int} (hI : Inv env s) (hn : 6 ≤ n) : ∃ env' s', stepF (callF fs gs n) gs (.nm 2) J1_B (.int j) env s = .ok (.nx env') s' ∧ Inv env' s' := by
  obtain ⟨hl, h1, hb⟩ := hI
  have eb : stepF (callF fs gs n) gs (.nm 2) J1_B (.int j) env s = execs (callF fs gs n) gs J1_B (env.set 2 (some (.val (.int j)))) s := by
    unfold stepF; rw [bindT_nm]
  rw [eb]
  have h2 : At (env.set 2 (some (.val (.int j)))) 2 (.int j) := atS (by omega)
  have h1 : At (env.set 2 (some (.val (.int j)))) 1 (.loc 1) := h1.ne (by omega)
  have hl : (env.set 2 (some (.val (.int j)))).length = 16 := by rw [List.length_set]; exact hl
  generalize env.set 2 (some (SV.val (.int j))) = env at *
  obtain ⟨us, s1, x0, b1, lu, h8⟩ := d_works (n := n) hl h1 hb (by omega)
  have h3 : (env.set 3 (some (.own (us.map v3D))))[3]? = some (some (.own (us.map v3D))) := List.getElem?_set_self (by omega)
  have h2 : At (env.set 3 (some (.own (us.map v3D)))) 2 (.int j) := h2.ne (by omega)
  have h1 : At (env.set 3 (some (.own (us.map v3D)))) 1 (.loc 1) := h1.ne (by omega)
  have hl : (env.set 3 (some (.own (us.map v3D)))).length = 16 := by rw [List.length_set]; exact hl
  generalize env.set 3 (some (SV.own (us.map v3D))) = env1 at *
  obtain ⟨ws, env2, s2, x1, hl2, a1, a3, b2, B⟩ := d_bent (n := n) hl h1 h2 h3 lu h8 b1 (by omega)
  have x2 : exec (callF fs gs n) gs J1_2 env2 s2 = .ok (.nx (env2.set 3 (some (.val (wsD ws))))) s2 := by
    unfold J1_2 wsD
    generalize ws.map v3D = WW at *
    simp [a3]
  have c3 : At (env2.set 3 (some (.val (wsD ws)))) 3 (wsD ws) := atS (by omega)
  have c1 : At (env2.set 3 (some (.val (wsD ws)))) 1 (.loc 1) := a1.ne (by omega)
  have cl : (env2.set 3 (some (.val (wsD ws)))).length = 16 := by rw [List.length_set]; exact hl2
  unfold J1_B
  rw [execs_c, x0, nextF_nx, execs_c, x1, nextF_nx, execs_c, x2, nextF_nx]
  generalize env2.set 3 (some (SV.val (wsD ws))) = env3 at *
  have rn := rng1_nat (W := ws.length) (by have := B.len; omega)
  have lw := len_ws (ws := ws)
  have dw : ∀ s : Sto, deref s (wsD ws) = wsD ws := fun _ => rfl
  have ei : evI (callF fs gs n) gs false (.rg1 (.blt .len (.c (.var 3) .nil))) env3 s2 = .ok ((List.range ws.length).map fun (k : Nat) => D.int k) s2 := by
    generalize wsD ws = WW at *
    simp [c3, lw, dw, rn]
  have ef : frzI env3 (.rg1 (.blt .len (.c (.var 3) .nil))) = env3 := rfl
  obtain ⟨env4, s4, e4, I4⟩ := loop_mem (f := stepF (callF fs gs n) gs (.nm 4) J1_3_B) (mk := fun (k : Nat) => D.int k) (I := fun env s => env.length = 16 ∧ At env 1 (.loc 1) ∧ At env 3 (wsD ws) ∧ Bx s) (xs := List.range ws.length) (env := env3) (s := s2) ⟨cl, c1, c3, b2⟩ (fun k hk env s hI => by
    obtain ⟨env', s', e, r1, r2, r3, r4⟩ := work_ok (n := n) (s := s) B (List.mem_range.mp hk) hI.1 hI.2.1 hI.2.2.1 hI.2.2.2 hn
    exact ⟨env', s', e, r1, r2, r3, r4⟩)
  unfold J1_3
  rw [execs_c, exec_for, ef, ei, ok_bind, e4, nextF_nx, execs_nil]
  exact ⟨env4, s4, rfl, I4.1, I4.2.1, I4.2.2.2⟩
/-! ### the known works -/
def kW : List V3 := [(4, 0, 1), (0, 4, 1), (2, 2, 1), (3, 3, 1)]
theorem kWB : WB kW := ⟨fun u hu => in17_bt (by
  simp only [kW, List.mem_cons, List.not_mem_nil, or_false] at hu
  rcases hu with rfl | rfl | rfl | rfl <;> exact ⟨by decide, by decide, by decide⟩), by decide⟩
theorem k2 : (lay3 kW 2).any (·.st) = false := by decide +kernel
theorem k3 : (lay3 kW 3).any (·.st) = true := by decide +kernel
theorem k3w : wrsB kW 3 (.tup [.int 1, .int 1, .int 0, .int 0]) = true := by
  rw [show D.tup [.int 1, .int 1, .int 0, .int 0] = .tup (([1, 1, 0, 0] : List Int).map D.int) from rfl, wrs_eq rfl (by decide)]
  decide +kernel
theorem core (ns : List Int) (hl : ns.length ≤ 63) : ∃ st, callF fs gs 16 28 [.rol (ns.map D.int)] [] = .ok (.bl true) st := by
  obtain ⟨s0, e0, b0⟩ := e_box (n := 15) (ns := ns) (by omega)
  rw [call_at (f := c_law) rfl rfl, law_body]
  have es : startE c_law.N.length [.rol (ns.map D.int)] = some (SV.val (.rol (ns.map D.int))) :: List.replicate 15 none := rfl
  rw [es]
  have a0 : exec (callF fs gs 15) gs J0 (some (SV.val (.rol (ns.map D.int))) :: List.replicate 15 none) [] = .ok (.nx ((some (SV.val (.rol (ns.map D.int))) :: List.replicate 15 none).set 1 (some (.val (.loc 1))))) s0 := by
    simp [J0, e0, borrows, isOwn]
  unfold JB
  rw [execs_c, a0, nextF_nx]
  have hle : ((some (SV.val (.rol (ns.map D.int))) :: List.replicate 15 none).set 1 (some (.val (.loc 1)))).length = 16 := by simp
  have h1 : At ((some (SV.val (.rol (ns.map D.int))) :: List.replicate 15 none).set 1 (some (.val (.loc 1)))) 1 (.loc 1) := atS (by simp)
  generalize (some (SV.val (.rol (ns.map D.int))) :: List.replicate 15 none).set 1 (some (.val (.loc 1))) = env at *
  obtain ⟨env', s9, e9, I9⟩ := loop_mem (f := stepF (callF fs gs 15) gs (.nm 2) J1_B) (mk := D.int) (I := Inv) (xs := ir 0 3) (env := env) (s := s0) ⟨hle, h1, b0⟩ (fun j _ env s hI => turn_ok (n := 15) hI (by omega))
  have e10 : evI (callF fs gs 15) gs false (.rg1 (.int 3)) env s0 = .ok ((ir 0 3).map D.int) s0 := by simp [rng1_ir (j := 3) (by omega)]
  have e11 : frzI env (.rg1 (.int 3)) = env := rfl
  unfold J1
  rw [execs_c, exec_for, e11, e10, ok_bind, e9, nextF_nx]
  obtain ⟨hl9, h19, b9⟩ := I9
  have x2 : exec (callF fs gs 15) gs J2 env' s9 = .ok (.nx (env'.set 3 (some (.val (wsD kW))))) s9 := by
    unfold J2 wsD kW v3D
    simp
  have h3 : At (env'.set 3 (some (.val (wsD kW)))) 3 (wsD kW) := atS (by omega)
  rw [execs_c, x2, nextF_nx]
  generalize env'.set 3 (some (SV.val (wsD kW))) = env2 at *
  obtain ⟨p2, q2, -⟩ := (e_paces (n := 15) (s := s9) (k := 2) kWB (by decide) b9.nolst (by omega)).2 k2
  have q3 := (e_paces (n := 15) (s := s9) (k := 3) kWB (by decide) b9.nolst (by omega)).1 k3
  have w2 := e_paper (n := 15) (s := s9) (k := 2) kWB (by decide) (by omega)
  have pn : papD kW 2 = .non := by
    unfold papD
    have : (lay3 kW 2).find? (·.st) = none := List.find?_eq_none.mpr fun r hr => by
      have := List.any_eq_false.mp k2 r hr
      simpa using this
    rw [this]
  rw [pn] at w2
  have w3 := e_worse (n := 15) (s := s9) (k := 3) (b := 5) (j := 1) (v := .tup [.int 1, .int 1, .int 0, .int 0]) kWB (by decide) (.tup (by simp) fun d hd => by
    simp only [List.mem_cons, List.not_mem_nil, or_false] at hd
    rcases hd with rfl | rfl | rfl | rfl <;> exact .int (by show _ < _; decide)) (by omega) (by omega)
  rw [k3w] at w3
  have q2 : callF fs gs 15 17 [wsD kW, .int 2] s9 = .ok (v3D p2) s9 := q2
  have q3 : callF fs gs 15 17 [wsD kW, .int 3] s9 = .ok .non s9 := q3
  have w2 : callF fs gs 15 13 [wsD kW, .int 2] s9 = .ok .non s9 := w2
  have w3 : callF fs gs 15 14 [wsD kW, .int 3, .tup [.int 1, .int 1, .int 0, .int 0]] s9 = .ok (.bl true) s9 := w3
  have dp : ∀ s : Sto, deref s (v3D p2) = v3D p2 := fun _ => rfl
  have np : isNonD (v3D p2) = false := rfl
  refine ⟨s9, ?_⟩
  generalize v3D p2 = PP at *
  generalize wsD kW = WW at *
  unfold J3
  simp [frzR, h3, q2, q3, w2, w3, dp, np, borrows, isOwn]
end
end PV.K22
set_option maxRecDepth 100000
set_option maxHeartbeats 0
namespace PV.K22
open PySem PySem.Spec PyProof.Rows L2 PV
/-! ### the text, the head -/
def top (i : Nat) : Stmt := PySem.Challenge.pw_pathsmilled_k22_whole_least_by_some_pace.main.body.getD i (.Pass ⟨0, 0, 0, 0⟩)
def clsB : Stmt → List Stmt
  | .ClassDef _ _ _ b _ _ _ _ _ _ _ => b
  | _ => []
def topM (i j : Nat) : Stmt := (clsB (top i)).getD j (.Pass ⟨0, 0, 0, 0⟩)
def pd (x : Str) (i : Nat) (f : Fn) : PD := ⟨(x, none), x, x, defArgs (top i), defBody (top i), defScope (top i), f⟩
def pm (c x q : Str) (i j : Nat) (f : Fn) : PD := ⟨(c, some x), x, q, defArgs (topM i j), defBody (topM i j), defScope (topM i j), f⟩
def dd (x : Str) (i : Nat) : He.DefD := ⟨(x, none), x, x, defArgs (top i), defBody (top i), defScope (top i), [], []⟩
def dm (c x q : Str) (i j : Nat) : He.DefD := ⟨(c, some x), x, q, defArgs (topM i j), defBody (topM i j), defScope (topM i j), [], []⟩
def ds : List PD := [pd "is_whole" 1 c_is_whole, pd "divisor_of" 3 c_divisor_of, pd "ratio_of" 4 c_ratio_of, pd "sum_of" 5 c_sum_of, pd "times_of" 6 c_times_of, pd "is_less_ratio" 7 c_is_less_ratio, pd "floor_of" 8 c_floor_of, pd "work_time" 10 c_work_time, pd "less_work" 13 c_less_work, pd "first_rows" 14 c_first_rows] ++ [pd "joined_row" 15 c_joined_row, pd "rows_without" 16 c_rows_without, pd "layers_of" 17 c_layers_of, pd "worse_paper" 18 c_worse_paper, pd "is_worse_paper" 19 c_is_worse_paper, pd "bound_at" 20 c_bound_at, pd "chosen" 21 c_chosen, pd "paces_for" 22 c_paces_for, pd "is_least_by" 23 c_is_least_by, pd "_law_box" 25 c__law_box] ++ [pd "_law_load" 26 c__law_load, pd "_law_draw" 27 c__law_draw, pd "_law_same" 28 c__law_same, pd "_law_bent" 29 c__law_bent, pd "_law_are" 30 c__law_are, pd "_law_time" 31 c__law_time, pd "_law_least" 32 c__law_least, pd "_law_worse" 33 c__law_worse, pd "law" 34 c_law]
def nf : Nat := 29
def gn : List Str := ["AXES_OF_WORK"]
def fr : List Str := (["abs", "all", "any", "bool", "enumerate", "int", "isinstance", "len", "list", "range", "str", "sum", "tuple", "zip"] : List Str)
def mx : MX := ⟨[], [], [], []⟩
def fn : List He.DefD := [dd "is_whole" 1, dd "divisor_of" 3, dd "ratio_of" 4, dd "sum_of" 5, dd "times_of" 6, dd "is_less_ratio" 7, dd "floor_of" 8, dd "work_time" 10, dd "less_work" 13, dd "first_rows" 14] ++ [dd "joined_row" 15, dd "rows_without" 16, dd "layers_of" 17, dd "worse_paper" 18, dd "is_worse_paper" 19, dd "bound_at" 20, dd "chosen" 21, dd "paces_for" 22, dd "is_least_by" 23, dd "_law_box" 25] ++ [dd "_law_load" 26, dd "_law_draw" 27, dd "_law_same" 28, dd "_law_bent" 29, dd "_law_are" 30, dd "_law_time" 31, dd "_law_least" 32, dd "_law_worse" 33, dd "law" 34]
def fa : List He.Fa := [.glo "is_whole", .glo "divisor_of", .glo "ratio_of", .glo "sum_of", .glo "times_of", .glo "is_less_ratio", .glo "floor_of", .glo "work_time", .glo "less_work", .glo "first_rows", .glo "joined_row", .glo "rows_without", .glo "layers_of", .glo "worse_paper", .glo "is_worse_paper", .glo "bound_at", .glo "chosen", .glo "paces_for", .glo "is_least_by", .glo "_law_box", .glo "_law_load", .glo "_law_draw", .glo "_law_same", .glo "_law_bent", .glo "_law_are", .glo "_law_time", .glo "_law_least", .glo "_law_worse", .glo "law", .free "abs"] ++ [.free "all", .free "any", .free "bool", .free "enumerate", .free "int", .free "isinstance", .free "len", .free "list", .free "range", .free "str", .free "sum", .free "tuple", .free "zip"]
def loose : List Str := (["is_whole", "divisor_of", "ratio_of", "sum_of", "times_of", "is_less_ratio", "floor_of", "work_time", "less_work", "first_rows", "joined_row", "rows_without", "layers_of", "worse_paper", "is_worse_paper", "bound_at", "chosen", "paces_for", "is_least_by", "_law_box", "_law_load", "_law_draw", "_law_same", "_law_bent", "_law_are", "_law_time", "_law_least", "_law_worse", "AXES_OF_WORK"] : List Str)
def okE (d : PD) : Bool := okD (sigs (ds.take nf)) gn fr mx d
theorem okAll : (ds.all okE) = true := by kernel_rfl
theorem fnsE : fns ds = fs := rfl
theorem b_is_whole : BindOk (pd "is_whole" 1 c_is_whole) := fun _ _ _ _ _ _ us hl => match us, hl with | [_], _ => rfl
theorem b_divisor_of : BindOk (pd "divisor_of" 3 c_divisor_of) := fun _ _ _ _ _ _ us hl => match us, hl with | [_, _], _ => rfl
theorem b_ratio_of : BindOk (pd "ratio_of" 4 c_ratio_of) := fun _ _ _ _ _ _ us hl => match us, hl with | [_, _], _ => rfl
theorem b_sum_of : BindOk (pd "sum_of" 5 c_sum_of) := fun _ _ _ _ _ _ us hl => match us, hl with | [_, _], _ => rfl
theorem b_times_of : BindOk (pd "times_of" 6 c_times_of) := fun _ _ _ _ _ _ us hl => match us, hl with | [_, _], _ => rfl
theorem b_is_less_ratio : BindOk (pd "is_less_ratio" 7 c_is_less_ratio) := fun _ _ _ _ _ _ us hl => match us, hl with | [_, _], _ => rfl
theorem b_floor_of : BindOk (pd "floor_of" 8 c_floor_of) := fun _ _ _ _ _ _ us hl => match us, hl with | [_], _ => rfl
theorem b_work_time : BindOk (pd "work_time" 10 c_work_time) := fun _ _ _ _ _ _ us hl => match us, hl with | [_, _], _ => rfl
theorem b_less_work : BindOk (pd "less_work" 13 c_less_work) := fun _ _ _ _ _ _ us hl => match us, hl with | [_, _], _ => rfl
theorem b_first_rows : BindOk (pd "first_rows" 14 c_first_rows) := fun _ _ _ _ _ _ us hl => match us, hl with | [_, _], _ => rfl
theorem b_joined_row : BindOk (pd "joined_row" 15 c_joined_row) := fun _ _ _ _ _ _ us hl => match us, hl with | [_, _, _], _ => rfl
theorem b_rows_without : BindOk (pd "rows_without" 16 c_rows_without) := fun _ _ _ _ _ _ us hl => match us, hl with | [_, _], _ => rfl
theorem b_layers_of : BindOk (pd "layers_of" 17 c_layers_of) := fun _ _ _ _ _ _ us hl => match us, hl with | [_, _], _ => rfl
theorem b_worse_paper : BindOk (pd "worse_paper" 18 c_worse_paper) := fun _ _ _ _ _ _ us hl => match us, hl with | [_, _], _ => rfl
theorem b_is_worse_paper : BindOk (pd "is_worse_paper" 19 c_is_worse_paper) := fun _ _ _ _ _ _ us hl => match us, hl with | [_, _, _], _ => rfl
theorem b_bound_at : BindOk (pd "bound_at" 20 c_bound_at) := fun _ _ _ _ _ _ us hl => match us, hl with | [_, _, _], _ => rfl
theorem b_chosen : BindOk (pd "chosen" 21 c_chosen) := fun _ _ _ _ _ _ us hl => match us, hl with | [_, _, _], _ => rfl
theorem b_paces_for : BindOk (pd "paces_for" 22 c_paces_for) := fun _ _ _ _ _ _ us hl => match us, hl with | [_, _], _ => rfl
theorem b_is_least_by : BindOk (pd "is_least_by" 23 c_is_least_by) := fun _ _ _ _ _ _ us hl => match us, hl with | [_, _, _], _ => rfl
theorem b__law_box : BindOk (pd "_law_box" 25 c__law_box) := fun _ _ _ _ _ _ us hl => match us, hl with | [_], _ => rfl
theorem b__law_load : BindOk (pd "_law_load" 26 c__law_load) := fun _ _ _ _ _ _ us hl => match us, hl with | [_], _ => rfl
theorem b__law_draw : BindOk (pd "_law_draw" 27 c__law_draw) := fun _ _ _ _ _ _ us hl => match us, hl with | [_, _], _ => rfl
theorem b__law_same : BindOk (pd "_law_same" 28 c__law_same) := fun _ _ _ _ _ _ us hl => match us, hl with | [_, _], _ => rfl
theorem b__law_bent : BindOk (pd "_law_bent" 29 c__law_bent) := fun _ _ _ _ _ _ us hl => match us, hl with | [_, _], _ => rfl
theorem b__law_are : BindOk (pd "_law_are" 30 c__law_are) := fun _ _ _ _ _ _ us hl => match us, hl with | [_, _, _], _ => rfl
theorem b__law_time : BindOk (pd "_law_time" 31 c__law_time) := fun _ _ _ _ _ _ us hl => match us, hl with | [_, _], _ => rfl
theorem b__law_least : BindOk (pd "_law_least" 32 c__law_least) := fun _ _ _ _ _ _ us hl => match us, hl with | [_, _, _], _ => rfl
theorem b__law_worse : BindOk (pd "_law_worse" 33 c__law_worse) := fun _ _ _ _ _ _ us hl => match us, hl with | [_, _, _], _ => rfl
theorem b_law : BindOk (pd "law" 34 c_law) := fun _ _ _ _ _ _ us hl => match us, hl with | [_], _ => rfl
theorem bindAll : ∀ d ∈ ds, BindOk d := by
  intro d hd
  have e : ∃ i, ds[i]? = some d := List.getElem?_of_mem hd
  obtain ⟨i, e⟩ := e
  match i, e with
  | 0, e => cases e; exact b_is_whole
  | 1, e => cases e; exact b_divisor_of
  | 2, e => cases e; exact b_ratio_of
  | 3, e => cases e; exact b_sum_of
  | 4, e => cases e; exact b_times_of
  | 5, e => cases e; exact b_is_less_ratio
  | 6, e => cases e; exact b_floor_of
  | 7, e => cases e; exact b_work_time
  | 8, e => cases e; exact b_less_work
  | 9, e => cases e; exact b_first_rows
  | 10, e => cases e; exact b_joined_row
  | 11, e => cases e; exact b_rows_without
  | 12, e => cases e; exact b_layers_of
  | 13, e => cases e; exact b_worse_paper
  | 14, e => cases e; exact b_is_worse_paper
  | 15, e => cases e; exact b_bound_at
  | 16, e => cases e; exact b_chosen
  | 17, e => cases e; exact b_paces_for
  | 18, e => cases e; exact b_is_least_by
  | 19, e => cases e; exact b__law_box
  | 20, e => cases e; exact b__law_load
  | 21, e => cases e; exact b__law_draw
  | 22, e => cases e; exact b__law_same
  | 23, e => cases e; exact b__law_bent
  | 24, e => cases e; exact b__law_are
  | 25, e => cases e; exact b__law_time
  | 26, e => cases e; exact b__law_least
  | 27, e => cases e; exact b__law_worse
  | 28, e => cases e; exact b_law
  | i + 29, e => cases e
abbrev R : PySem.W.OpenRow := PySem.W.OpenLaw.row PySem.Challenge.rw_pathsmilled_k22_whole_least_by_some_pace
abbrev PP : Program := (PySem.Challenge.rw_pathsmilled_k22_whole_least_by_some_pace).prog
def xds : List XD := []
def exK (K : PySem.W.Frag) : Bool := glsB K gn gs && xds.all (excB PP.main.file K)
abbrev hk : PySem.W.Hook := hookX 4 fa fn xds exK
def ob (s : PySem.W.SharedT) : AlX := obsX 4 fa fn xds exK (HandSHeadRun.getT s)
theorem ob_eq (s : PySem.W.SharedT) : ob s = hk.obs s.abs := obsX_eq (HandSHeadRun.getT_eq s)

theorem hrun (w : World) : HandSHeadRun.RunEq R (PySem.W.view R.prog [34]) hk ob 20000 loose w := by
  intro os
  kernel_rfl
def LV : Nat := 16
def LI : Nat := 28
theorem prog {w : World} {K : PySem.W.Frag} {h : Heap} {mg : Str → Option Value} {base : Heap} (X : K.In h) (G : h.Ns mainGlobals mg) (c : He.SaysD fa fn K) (ce : exK K = true) (cx : xds.map (xObs K) = xds.map XD.val) : ProgOk PP w K mg base ds nf gs gn fr mx := by
  refine ⟨fun i d hi => ?_, fun i d hl hi => ?_, bindAll, fun d hd => List.all_eq_true.mp okAll d hd, glsB_ok X G (He.ba ce).1, fun x hx => ?_, fun x f k n hm => ?_, fun x k n hm => ?_, fun x f hm => ?_, fun x hm => ?_, by decide⟩
  · match i, hi with
    | 0, hi => cases hi; exact c.def_ 0 (d := dd "is_whole" 1) rfl
    | 1, hi => cases hi; exact c.def_ 1 (d := dd "divisor_of" 3) rfl
    | 2, hi => cases hi; exact c.def_ 2 (d := dd "ratio_of" 4) rfl
    | 3, hi => cases hi; exact c.def_ 3 (d := dd "sum_of" 5) rfl
    | 4, hi => cases hi; exact c.def_ 4 (d := dd "times_of" 6) rfl
    | 5, hi => cases hi; exact c.def_ 5 (d := dd "is_less_ratio" 7) rfl
    | 6, hi => cases hi; exact c.def_ 6 (d := dd "floor_of" 8) rfl
    | 7, hi => cases hi; exact c.def_ 7 (d := dd "work_time" 10) rfl
    | 8, hi => cases hi; exact c.def_ 8 (d := dd "less_work" 13) rfl
    | 9, hi => cases hi; exact c.def_ 9 (d := dd "first_rows" 14) rfl
    | 10, hi => cases hi; exact c.def_ 10 (d := dd "joined_row" 15) rfl
    | 11, hi => cases hi; exact c.def_ 11 (d := dd "rows_without" 16) rfl
    | 12, hi => cases hi; exact c.def_ 12 (d := dd "layers_of" 17) rfl
    | 13, hi => cases hi; exact c.def_ 13 (d := dd "worse_paper" 18) rfl
    | 14, hi => cases hi; exact c.def_ 14 (d := dd "is_worse_paper" 19) rfl
    | 15, hi => cases hi; exact c.def_ 15 (d := dd "bound_at" 20) rfl
    | 16, hi => cases hi; exact c.def_ 16 (d := dd "chosen" 21) rfl
    | 17, hi => cases hi; exact c.def_ 17 (d := dd "paces_for" 22) rfl
    | 18, hi => cases hi; exact c.def_ 18 (d := dd "is_least_by" 23) rfl
    | 19, hi => cases hi; exact c.def_ 19 (d := dd "_law_box" 25) rfl
    | 20, hi => cases hi; exact c.def_ 20 (d := dd "_law_load" 26) rfl
    | 21, hi => cases hi; exact c.def_ 21 (d := dd "_law_draw" 27) rfl
    | 22, hi => cases hi; exact c.def_ 22 (d := dd "_law_same" 28) rfl
    | 23, hi => cases hi; exact c.def_ 23 (d := dd "_law_bent" 29) rfl
    | 24, hi => cases hi; exact c.def_ 24 (d := dd "_law_are" 30) rfl
    | 25, hi => cases hi; exact c.def_ 25 (d := dd "_law_time" 31) rfl
    | 26, hi => cases hi; exact c.def_ 26 (d := dd "_law_least" 32) rfl
    | 27, hi => cases hi; exact c.def_ 27 (d := dd "_law_worse" 33) rfl
    | 28, hi => cases hi; exact c.def_ 28 (d := dd "law" 34) rfl
    | i + 29, hi => cases hi
  · match i, hi with
    | 0, hi => cases hi; exact He.glo_ok X G (c.fact 0 (f := .glo "is_whole") rfl)
    | 1, hi => cases hi; exact He.glo_ok X G (c.fact 1 (f := .glo "divisor_of") rfl)
    | 2, hi => cases hi; exact He.glo_ok X G (c.fact 2 (f := .glo "ratio_of") rfl)
    | 3, hi => cases hi; exact He.glo_ok X G (c.fact 3 (f := .glo "sum_of") rfl)
    | 4, hi => cases hi; exact He.glo_ok X G (c.fact 4 (f := .glo "times_of") rfl)
    | 5, hi => cases hi; exact He.glo_ok X G (c.fact 5 (f := .glo "is_less_ratio") rfl)
    | 6, hi => cases hi; exact He.glo_ok X G (c.fact 6 (f := .glo "floor_of") rfl)
    | 7, hi => cases hi; exact He.glo_ok X G (c.fact 7 (f := .glo "work_time") rfl)
    | 8, hi => cases hi; exact He.glo_ok X G (c.fact 8 (f := .glo "less_work") rfl)
    | 9, hi => cases hi; exact He.glo_ok X G (c.fact 9 (f := .glo "first_rows") rfl)
    | 10, hi => cases hi; exact He.glo_ok X G (c.fact 10 (f := .glo "joined_row") rfl)
    | 11, hi => cases hi; exact He.glo_ok X G (c.fact 11 (f := .glo "rows_without") rfl)
    | 12, hi => cases hi; exact He.glo_ok X G (c.fact 12 (f := .glo "layers_of") rfl)
    | 13, hi => cases hi; exact He.glo_ok X G (c.fact 13 (f := .glo "worse_paper") rfl)
    | 14, hi => cases hi; exact He.glo_ok X G (c.fact 14 (f := .glo "is_worse_paper") rfl)
    | 15, hi => cases hi; exact He.glo_ok X G (c.fact 15 (f := .glo "bound_at") rfl)
    | 16, hi => cases hi; exact He.glo_ok X G (c.fact 16 (f := .glo "chosen") rfl)
    | 17, hi => cases hi; exact He.glo_ok X G (c.fact 17 (f := .glo "paces_for") rfl)
    | 18, hi => cases hi; exact He.glo_ok X G (c.fact 18 (f := .glo "is_least_by") rfl)
    | 19, hi => cases hi; exact He.glo_ok X G (c.fact 19 (f := .glo "_law_box") rfl)
    | 20, hi => cases hi; exact He.glo_ok X G (c.fact 20 (f := .glo "_law_load") rfl)
    | 21, hi => cases hi; exact He.glo_ok X G (c.fact 21 (f := .glo "_law_draw") rfl)
    | 22, hi => cases hi; exact He.glo_ok X G (c.fact 22 (f := .glo "_law_same") rfl)
    | 23, hi => cases hi; exact He.glo_ok X G (c.fact 23 (f := .glo "_law_bent") rfl)
    | 24, hi => cases hi; exact He.glo_ok X G (c.fact 24 (f := .glo "_law_are") rfl)
    | 25, hi => cases hi; exact He.glo_ok X G (c.fact 25 (f := .glo "_law_time") rfl)
    | 26, hi => cases hi; exact He.glo_ok X G (c.fact 26 (f := .glo "_law_least") rfl)
    | 27, hi => cases hi; exact He.glo_ok X G (c.fact 27 (f := .glo "_law_worse") rfl)
    | 28, hi => cases hi; exact He.glo_ok X G (c.fact 28 (f := .glo "law") rfl)
    | i + 29, hi => exact absurd hl (by unfold nf; omega)
  · have e : ∃ i, fr[i]? = some x := List.getElem?_of_mem hx
    obtain ⟨i, e⟩ := e
    match i, e with
    | 0, e => cases e; exact He.free_ok X G (c.fact 29 (f := .free "abs") rfl)
    | 1, e => cases e; exact He.free_ok X G (c.fact 30 (f := .free "all") rfl)
    | 2, e => cases e; exact He.free_ok X G (c.fact 31 (f := .free "any") rfl)
    | 3, e => cases e; exact He.free_ok X G (c.fact 32 (f := .free "bool") rfl)
    | 4, e => cases e; exact He.free_ok X G (c.fact 33 (f := .free "enumerate") rfl)
    | 5, e => cases e; exact He.free_ok X G (c.fact 34 (f := .free "int") rfl)
    | 6, e => cases e; exact He.free_ok X G (c.fact 35 (f := .free "isinstance") rfl)
    | 7, e => cases e; exact He.free_ok X G (c.fact 36 (f := .free "len") rfl)
    | 8, e => cases e; exact He.free_ok X G (c.fact 37 (f := .free "list") rfl)
    | 9, e => cases e; exact He.free_ok X G (c.fact 38 (f := .free "range") rfl)
    | 10, e => cases e; exact He.free_ok X G (c.fact 39 (f := .free "str") rfl)
    | 11, e => cases e; exact He.free_ok X G (c.fact 40 (f := .free "sum") rfl)
    | 12, e => cases e; exact He.free_ok X G (c.fact 41 (f := .free "tuple") rfl)
    | 13, e => cases e; exact He.free_ok X G (c.fact 42 (f := .free "zip") rfl)
    | i + 14, e => cases e
  · have e : ∃ i, mx.ms[i]? = some (x, f, k, n) := List.getElem?_of_mem hm
    obtain ⟨i, e⟩ := e
    match i, e with
    | i + 0, e => cases e
  · have e : ∃ i, mx.cl[i]? = some (x, k, n) := List.getElem?_of_mem hm
    obtain ⟨i, e⟩ := e
    match i, e with
    | i + 0, e => cases e
  · have e : ∃ i, mx.na[i]? = some (x, f) := List.getElem?_of_mem hm
    obtain ⟨i, e⟩ := e
    match i, e with
    | i + 0, e => cases e
  · have e : ∃ i, mx.xs[i]? = some x := List.getElem?_of_mem hm
    obtain ⟨i, e⟩ := e
    match i, e with
    | i + 0, e => cases e
theorem facts {w : World} {K : PySem.W.Frag} {h : Heap} {mg : Str → Option Value} {f : Addr} (X : K.In h) (G : h.Ns mainGlobals mg) (hfa : mg ("law" : Str) = some (.ref f)) (c : He.SaysD fa fn K) (ce : exK K = true) (cx : xds.map (xObs K) = xds.map XD.val) :
    ∃ fd : FuncData, (∀ (s : Shared) (v : Value), BindsTo s fd ⟨[v], []⟩ [("script", v)]) ∧ ∀ base : Heap, K.In base → base.Ns mainGlobals mg → FnOk PP w K mg base CX0 (2 * LV + 1) f fd ["script"] (fun vs H Q _ => spF K (callF fs gs LV) LI vs H Q fun _ _ _ => False) := by
  obtain ⟨fd, F⟩ := c.def_ 28 (d := dd "law" 34) rfl
  have e := hfa.symm.trans (He.glo_ok X G (c.fact 28 (f := .glo "law") rfl))
  cases e
  have b := FunD.bindsA (ps := ["script"]) F fun _ _ _ _ _ _ us hl => match us, hl with | [_], _ => rfl
  exact ⟨fd, fun s v => b s [v] rfl, fun base _ _ => FnOk.to0 (prog_ok (prog X G c ce cx) LV LI (pd "law" 34 c_law) rfl _ fd F)⟩
end PV.K22
open PySem PySem.W PySem.Calls PyProof.Rows
theorem PySem.Challenge.cw_pathsmilled_k22_whole_least_by_some_pace_holds : PySem.Challenge.rw_pathsmilled_k22_whole_least_by_some_pace.Holds := by
  w_on; o_law
  refine HandSHeadRun.head_any (r := OpenLaw.row PySem.Challenge.rw_pathsmilled_k22_whole_least_by_some_pace) (q := view (OpenLaw.row PySem.Challenge.rw_pathsmilled_k22_whole_least_by_some_pace).prog [34]) (H := PV.K22.hk) (ob := PV.K22.ob) (M := 20000) (loose := PV.K22.loose) (d := HandSHeadRun.topDef (OpenLaw.row PySem.Challenge.rw_pathsmilled_k22_whole_least_by_some_pace).prog 34) (kwd := []) PV.K22.ob_eq
    (by kernel_rfl) (fun s => by kernel_rfl) PV.K22.hrun (by kernel_rfl) (by kernel_rfl) (by kernel_rfl) (by rfl) (by first | assumption | decide +kernel) (by decide +kernel) ⟨rfl, rfl, rfl, rfl, rfl, by decide +kernel⟩ ?hw ?hc
  case hw => w_witness2
  case hc =>
    refine L2.walk_ofE (l := PySem.Challenge.rw_pathsmilled_k22_whole_least_by_some_pace) (n := 63) (k := 2 * PV.K22.LV + 1) (x := "script") (CX := L2.CX0) rfl (by decide) (by kernel_rfl) ⟨rfl, by decide, by decide⟩ ?F (fun _ _ _ _ z => z)
    intro w mg fa h Y G hmg0
    obtain ⟨K, KX, c, ce, cx⟩ := Y
    have hmg : mg ("law" : PySem.Str) = some (.ref fa) := by
      have e : (HandSHeadRun.topDef (OpenLaw.row PySem.Challenge.rw_pathsmilled_k22_whole_least_by_some_pace).prog 34).name = ("law" : PySem.Str) := by kernel_rfl
      rw [← e]
      exact hmg0
    obtain ⟨fd, hb, hF⟩ := PV.K22.facts (w := w) KX G hmg c ce cx
    refine ⟨K, fd, _, KX, hb, fun H a ns hl _ hS => ?_, hF⟩
    obtain ⟨st', e⟩ := PV.K22.core ns hl
    exact PV.law_sp (ds := PV.K22.ds) e hS
