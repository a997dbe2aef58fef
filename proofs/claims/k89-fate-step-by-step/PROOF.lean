import PyProof.Rows.All
import Wide.All
import OpenK.AllK
import Wide.FinOn
import HandS.ForMost
import HandS.ForExc
import HandS.ExcInit
import HandS.Nested
import HandS.TryMany
import KE.KExcSuper
import HandS.IsInst
import HandS.Wide
import HandS.Flow
import HandS.Conv
import HandS.Dict
import PyProof.P3In
import HandS.TupAny
import HandS.Small
import HandS.ExcIs
import HandS.Comp
import HandS.Style
import HandS.Iter
import HandS.TupSets
import HandS.More
import HandS.RaiseMore
import HandS.Text
import HandS.StrMore
import HandS.SortRule
import PyProof.Rows.SortKeyStr
import HandS.DictTup
import KE.KDictList
import PyProof.StrWalks
import HandS.TupLen
import HandS.WordsDict
import PyProof.Rows.RegReprOcc
import PySem.Challenge.RW_wishreels_k89_fate_step_by_step
set_option Elab.async false
set_option linter.all false
set_option maxRecDepth 100000
set_option maxHeartbeats 4000000
/-! super().__init__("..") in an own error class over ValueError: the def is run at its own activation. -/
namespace L2
open PySem PySem.Spec PyProof.Rows PySem.W NdefX PySem.Calls
/-- what the written part says of an own __init__ that begins with super().__init__("..") -/
structure SupI (P : Program) (K : PySem.W.Frag) (mg : Str → Option Value) (C fI cda cc : Addr) (fd : FuncData) (qual : Str) (params : Arguments) (body : List Stmt) (scope : Scope) : Prop where
  ex : ∃ (name : Str) (kV doc pm ct oc : Value) (an od : Option Addr) (osl : Array (Option Value)), fd = ksFn name qual params body scope .none kV doc pm an (.ref cda) ct cc ∧ K.lookup fI = some ⟨oc, od, .func fd, osl⟩
  code : PySem.W.codeIn K (.ref cda) qual = true
  file : ∃ (ccl : Value) (cdd : Option Addr) (vs : Array Value) (ccs : Array (Option Value)) (fl : Str) (tf : Tok), K.lookup cda = some ⟨ccl, cdd, .fields vs, ccs⟩ ∧ vs[2]? = some (.str fl tf) ∧ ((P.main.file : Str) == fl) = true
  cell : ∃ (cl : Value) (cld : Option Addr) (csl : Array (Option Value)), K.lookup cc = some ⟨cl, cld, .cell (some (.ref C)), csl⟩
  clsD : ∃ cdD, PySem.W.clsIn K C = some cdD
  sub : PySem.W.mroIn K C (.ref C) = some true
  sup : mg "super" = none
  htop : (P.main.scope.names.lookup ("super" : Str)).isSome = false
  opq : PySem.W.nsIn K PySem.cStatics "thirdparty.any" = some none
  along : PySem.W.ks_superIn K C C "__init__" = some (some (.builtin "ValueError.__init__"))
  subVE : PySem.W.subIn K (.ref C) (.type "ValueError") = some true
section
variable {P : Program} {w : World} {K : PySem.W.Frag} {mg : Str → Option Value} {base : Heap}
theorem sup_ok {CX : CXT} {C fI cda cc : Addr} {fd : FuncData} {qual : Str} {params : Arguments} {rest : List Stmt} {scope : Scope} {N ps : List Str} {k : Nat} {sp : Sp} {p0 p1 ap cp cpos ep : Pos} {msg : Str} {jm : Nat} {ar : Arg}
    (Z : SupI P K mg C fI cda cc fd qual params (.Expr (.Call (.Attribute (.Call (.Name "super" p0) [] [] p1) "__init__" ap) [.Constant (.str msg) jm cp] [] cpos) ep :: rest) scope)
    (T : OexC K C)
    (S : NScope N ps ["__class__"] scope) (hline : (ap.endLine == cpos.line) = true) (hks : scope.names.lookup ("super" : Str) = some .globalImplicit)
    (hp : (params.posonlyargs ++ params.args).head? = some ar) (hps : ps.head? = some ar.arg)
    (len : ∀ vs H Q E, sp vs H Q E → vs.length = ps.length)
    (hbody : ∀ (A : Around) (outer : List Env) (s : Shared) (H : Hp) (vs : List V) (Q : VK) (E : XK), sp vs H Q E →
      ∃ (a : Addr) (ws : List V), vs = .ref a :: ws ∧ H a = some (exo a C none) ∧
      ∃ t, PSs (ncx CX P w K mg base N ⟨"__init__", qual, params, rest, scope, [("__class__", cc)], cda⟩ fI A outer s H E) rest t ∧ t { nx := fun _ H' => Q .non H', rt := Q } (startF N vs [none]) H) :
    FnOk P w K mg base CX (k + 1) fI fd ps sp := by
  refine ⟨len, fun A outer s H args us vs Q E hr e0 hb r hsp => ?_⟩
  obtain ⟨a, ws, rfl, ha, t, ht, hq⟩ := hbody A outer s H vs Q E hsp
  have hl := len _ _ _ _ hsp
  obtain ⟨name, kV, doc, pm, ct, oc, an, od, osl, rfl, lk⟩ := Z.ex
  obtain ⟨ccl, cdd, cvs, ccs, fl, tf, hcode, hvs, hfile⟩ := Z.file
  obtain ⟨cl, cld, csl, hcell⟩ := Z.cell
  have KX : K.In s.heap := e0.mod.kin.keeps fun b o e => (e0.bs b o e).1
  have lim : s.heap.NoLimit := e0.mod.nolimit.keeps fun b o e => (e0.bs b o e).1
  have C0 : CellsAt [("__class__", cc)] ["__class__"] [none] s.heap H := by
    refine ⟨rfl, fun y c e => ?_, fun x y c e1 e2 => ?_, fun i y e => ?_⟩
    · have e' : c = cc := by
        simp only [List.lookup] at e
        split at e
        · exact (Option.some.inj e).symm
        · cases e
      subst e'
      exact ⟨(e0.bs _ _ (e0.mod.kin _ _ hcell)).2, _, _, KX _ _ hcell, rfl⟩
    · have q : ∀ {y : Str} {d : Addr}, List.lookup y [(("__class__" : Str), cc)] = some d → y = ("__class__" : Str) := fun {y d} e => by
        simp only [List.lookup] at e
        split at e
        · rename_i h1
          exact beq_iff_eq.mp h1
        · cases e
      rw [q e1, q e2]
    · cases i with
      | zero =>
        simp only [List.getElem?_cons_zero, Option.some.injEq] at e
        subst e
        refine ⟨cc, by simp [List.lookup], fun v z => ?_⟩
        simp at z
      | succ i => simp at e
  have hloc : ∀ x ∈ ps.zip us, scope.names.lookup x.1 = some .local := fun ⟨n, _⟩ hy => S.par n (List.of_mem_zip hy).1
  refine ks_codeAny_call_defAt (fd := ksFn name qual params _ scope .none kV doc pm an (.ref cda) ct cc) (binds := ps.zip us) hr.depth (KX _ _ lk) rfl lim (codeRec_of KX Z.code) rfl hb S.nocell hloc (fun h₁ hns kp => ?_) S.co S.gen S.kind
  generalize hF : (⟨"__init__", qual, params, rest, scope, [("__class__", cc)], cda⟩ : NF) = F at ht
  have hFs : F.scope = scope := by rw [← hF]
  have I0 : Inv (ncx CX P w K mg base N F fI A outer s H E) [] (startF N (.ref a :: ws) [none]) H { s with heap := h₁, toks := s.toks + (ps.zip us).length } := by
    subst hF
    exact inv_startN S hr.hd e0 hl r C0 hns kp
  subst hF
  have hself : ∃ ps', ps = ar.arg :: ps' := by
    cases ps with
    | nil => simp at hps
    | cons p q => exact ⟨q, by simp at hps; rw [hps]⟩
  obtain ⟨ps', rfl⟩ := hself
  obtain ⟨u0, us', rfl⟩ : ∃ u0 us', us = u0 :: us' := by
    cases r with
    | cons r1 r2 => exact ⟨_, _, rfl⟩
  have hu0 : u0 = Value.ref a := by cases r with | cons r1 r2 => exact r1
  subst hu0
  have ndP : (ar.arg :: ps').Nodup := by
    have q := S.nd.sublist (List.take_sublist ((ar.arg :: ps').length + 1) N)
    have z := S.pre
    simp only [List.length_singleton] at z
    rw [z] at q
    exact (List.nodup_append.mp q).1
  have hv : ((ar.arg :: ps').zip (Value.ref a :: us')).reverse.lookup ar.arg = some (.ref a) := zip_look (i := 0) ndP rfl rfl
  have hka : scope.names.lookup ar.arg = some .local := S.par _ (List.mem_cons_self ..)
  -- super()
  refine ks_wpAt_execs_cons (ks_wpAt_Expr_any (ks_wpAt_MethodCall (pl := ?pl) ?main ?he) ?hi (by rfl))
  case he =>
    rw [arm_eval_Call]
    unfold methodCall methodCallPos
    simp only [hline, Bool.or_true, if_true]
    rfl
  case hi => 
    have hk := S.kind
    unfold interactive
    show (scope.kind == _ && _) = false
    rw [hk]
    rfl
  have KX1 : K.In h₁ := KX.keeps kp
  obtain ⟨t1, hat⟩ := exo_at I0.hok ha
  obtain ⟨mb, hb1, hb2⟩ := e0.mod.blt
  have bk : ∀ b o, base.get? b = some o → h₁.get? b = some o := fun b o e => kp _ _ (e0.bs b o e).1
  obtain ⟨cdD, hcdD⟩ := Z.clsD
  obtain ⟨oD, hD1, hD2⟩ : ∃ oD, h₁.get? C = some oD ∧ oD.data = .cls cdD := by
    have hD := hcdD
    unfold PySem.W.clsIn at hD
    split at hD
    · rename_i c d cd' sl ho
      cases hD
      exact ⟨_, KX1 _ _ ho, rfl⟩
    · cases hD
  have haC : a ≠ C := by
    rintro rfl
    rw [hat] at hD1
    cases hD1
    cases hD2
  refine ks_wpAt_super_base (env := callEnv (ksFn name qual params _ scope .none kV doc pm an (.ref cda) ct cc) s.heap.objs.size fI) hks (S.frk _ (List.mem_singleton.mpr rfl)) (by decide) rfl (KX1 _ _ lk) rfl hp rfl (KX1 _ _ hcode) rfl hvs hfile Z.htop ?_
  refine ks_loadName_global S.kind hks (PySem.Calls.loadGlobal_builtin (env := callEnv (ksFn name qual params _ scope .none kV doc pm an (.ref cda) ct cc) s.heap.objs.size fI) (e0.mod.glob.keeps bk) Z.sup (hb1.keeps bk) ((hb2 _ (by decide +kernel)).trans (by first | boot_by_name | rfl | kernel_rfl)) ⟨rfl, ?_⟩)
  refine wpAny_loadName_free S.kind (S.frk _ (List.mem_singleton.mpr rfl)) rfl ⟨_, KX1 _ _ hcell, rfl⟩ ?_
  refine wpAny_loadName_local S.kind hka hns hv ?_
  refine ks_wpAny_isType_cls hD1 hD2 ⟨rfl, ?_⟩
  refine ks_wpAny_call_super hD1 hD2 hat rfl (fun c e => by cases e) (looks_mroIn KX1 Z.sub) (fun h2 e2 k2 => ?_)
  have KX2 : K.In h2 := KX1.keeps k2
  have hsub2 := Z.along
  unfold ks_superIn at hsub2
  rw [hcdD] at hsub2
  have I2 : W.InstAt h2 a { cls := .ref C, dict := none, data := .fields #[.ref t1, .none, .none, .none, .bool false, .none] } C none := ⟨k2 _ _ hat, rfl, rfl, trivial⟩
  refine kxs_getMethod kxs_ValueError e2 (looks_opaque KX2 Z.opq) (l₀ := cdD.mro) (fun A Q E s k q => wpAny_bind ((looks_clsIn KX2 hcdD) A _ E s k (wpAny_pure q))) rfl KX2 hsub2 (I2.type.andThen (looks_subIn KX2 Z.subVE)) haC (by decide) ?_
  -- the wrapper's call
  have kmw : ∀ b o, h2.get? b = some o → (h2.push (kxs_mw "ValueError.__init__" a)).get? b = some o := fun b o e => Heap.get?_push_of_some _ e
  have I2' : Inv (ncx CX P w K mg base N ⟨"__init__", qual, params, rest, scope, [("__class__", cc)], cda⟩ fI A outer s H E) [] (startF N (.ref a :: ws) [none]) H { s with heap := h2, toks := s.toks + ((ar.arg :: ps').zip (Value.ref a :: us')).length + 1 } :=
    I0.kept (t' := s.toks + ((ar.arg :: ps').zip (Value.ref a :: us')).length + 1) k2
  have I3' : Inv (ncx CX P w K mg base N ⟨"__init__", qual, params, rest, scope, [("__class__", cc)], cda⟩ fI A outer s H E) [] (startF N (.ref a :: ws) [none]) H { s with heap := h2.push (kxs_mw "ValueError.__init__" a), toks := s.toks + ((ar.arg :: ps').zip (Value.ref a :: us')).length + 1 } :=
    I2'.kept (t' := s.toks + ((ar.arg :: ps').zip (Value.ref a :: us')).length + 1) kmw
  have I3 : Inv (ncx CX P w K mg base N ⟨"__init__", qual, params, rest, scope, [("__class__", cc)], cda⟩ fI A outer s H E) [(h2.objs.size, kxs_mw "ValueError.__init__" a)] (startF N (.ref a :: ws) [none]) H { s with heap := h2.push (kxs_mw "ValueError.__init__" a), toks := s.toks + ((ar.arg :: ps').zip (Value.ref a :: us')).length + 1 } := by
    refine I3'.pins_of fun p hp => ?_
    rw [List.mem_singleton] at hp
    subst hp
    refine ⟨Heap.get?_push_size _ rfl, I2'.hok.fresh (Nat.le_refl _), Nat.ne_of_gt I2'.lt, I2'.nofs (Nat.le_refl _), fun v e => by cases e⟩
  refine kxs_callWith (i := "ValueError.__init__") (x := a) (by rfl) (evalArgs_plain ?_)
  refine thn ((pa_cons (pe_str (x := msg) (j := jm) (pos := cp)) pa_nil).run cpos _ _ _ _ (fun vs H' => vs = [.str msg] ∧ H' = H) I3 ⟨rfl, rfl⟩) fun us1 s4 ⟨vs1, H4, I4, r4, e4, e4'⟩ => ?_
  subst e4 e4'
  have hmw4 : s4.heap.get? h2.objs.size = some (kxs_mw "ValueError.__init__" a) := (I4.pin _ (List.mem_append_right _ (List.mem_singleton.mpr rfl))).1
  refine ⟨hmw4, ?_⟩
  have I4' := I4.pins_of (pins' := []) (fun p hp => by cases hp)
  obtain ⟨t4, hat4⟩ := exo_at I4.hok ha
  obtain ⟨nm, q, Nn, bs, bm, sn, sub, ab, col, dd, k0, k1, k2', k3, k5, hC, hbm⟩ := T.cls
  have hC4 := I4.kIn _ _ hC
  have hz4 : us1.length ≤ sizeLine := by
    have e := Paired.length r4
    simp only [List.length_singleton] at e
    rw [← e]; decide
  obtain ⟨hh, g, d, tk, os⟩ := s4
  show wpAny _ _ (call (.ref h2.objs.size) us1) _ _ _
  refine wpAny_call (codeAny_of_tree ?_)
  show wpAny _ _ (callAny (.ref h2.objs.size) ⟨us1, []⟩) _ _ _
  simp only [callAny]
  refine wpAny_bind (wpAny_load hmw4 ?_)
  simp only [kxs_mw, show (Value.type "method-wrapper" == Value.type "method" || Value.type "method-wrapper" == Value.type "builtin_function_or_method" || Value.type "method-wrapper" == Value.type "method-wrapper") = true by decide, if_true]
  refine KFB.if_so (by decide) ?_
  refine wpAny_bind (check_bound_init F.excBase_ValueError.toExcCallFacts hC4 hat4 rfl ?_)
  refine wpAny_bind (wpAny_pure (wpAny_pure ?_))
  refine ⟨plainId_quiet F.excBase_ValueError.init.plain _, codeAny_builtin F.excBase_ValueError.initEntry ?_⟩
  refine exc_init_tree (cls := .ref C) (t0 := t4) (dv := none) (c2 := .none) (c3 := .none) (b4 := .bool false) hat4 hz4 (fun h' k' e' _ => ?_)
  have J0 := I4'.write (t' := tk) (x := a) (e := a) (o := exo a C none) (by rw [ha]; exact True.intro) (.inl rfl) k' ⟨_, e'⟩ (exo_ok e')
  have eu : upd H4 a (exo a C none) = H4 := by
    funext b
    by_cases hb : b = a
    · rw [hb, upd_same, ha]
    · rw [upd_ne hb]
  rw [eu] at J0
  show _root_.PySem.wpAt _ _ _ _ _ _ _
  refine wpAt_of_wpAny ?_
  refine wpAny_mono (ht.run [] _ (startF N (.ref a :: ws) [none]) H4 _ J0 hq) (fun fl s' hs => ?_) fun e s' hs => hs
  have fin : ∀ {σ' : St} {H' : Hp} {v : V} {u : Value}, Inv (ncx CX P w K mg base N ⟨"__init__", qual, params, rest, scope, [("__class__", cc)], cda⟩ fI A outer s H4 E) [] σ' H' s' → RelV v u → Q v H' → CE outer P w H4 s Q u s' :=
    fun {σ' H' v u} J rv q => ⟨v, H', J.os, J.bare, J.base, J.hok, rv, q⟩
  cases fl with
  | ret u =>
    obtain ⟨v, σ', H', J, rv, q⟩ := hs
    exact fin J rv q
  | next =>
    obtain ⟨σ', H', J, q⟩ := hs
    exact fin (v := V.non) (u := Value.none) J rfl q
  | brk =>
    obtain ⟨_, _, _, q⟩ := hs
    exact False.elim q
  | cont =>
    obtain ⟨_, _, _, q⟩ := hs
    exact False.elim q
end
end L2
namespace L2
open PySem PySem.Spec PyProof.Rows PySem.W NdefX PySem.Calls
/-- the promise of an __init__ that says super().__init__("..") and no more -/
def spSup0 (C : Addr) : Sp := fun vs H Q _ => ∃ a, vs = [.ref a] ∧ H a = some (exo a C none) ∧ Q .non H
section
variable {X : Cx}
theorem mk_none {pins : List (Addr × Obj)} {σ : St} {H1 H2 : Hp} {Q : XK} {hp hp2 h2 : Heap} {g1 g2 : Array GenState} {d1 d2 : Drawn} {t1 t2 : Nat} {os1 os2 : OsState} {a C : Addr} (T : Raises X (.ref C)) (I1 : Inv X pins σ H1 ⟨hp, g1, d1, t1, os1⟩)
    (ha : hp.objs.size ≤ a) (k : ∀ b o, hp.get? b = some o → hp2.get? b = some o) (un : Un (frs X.stack) [] (upd H1 a (exo a C none)) H2 hp2 h2) (hok : HOk X.prog X.w H2 h2) (ho : os2 = os1) (hb : AllBare g2)
    (e2 : H2 = upd H1 a (exo a C none)) (q : Q (.ref C) none H1) : MkP X pins σ Q (.ref a) ⟨h2, g2, d2, t2, os2⟩ := by
  have ea : H2 a = some (exo a C none) := by rw [e2, upd_same]
  obtain ⟨t0, hoe⟩ := exo_at hok ea
  have hn : H1 a = none := I1.hok.fresh ha
  obtain ⟨G, g1', g2'⟩ := restrict h2 fun b => decide (b ≠ a)
  have gk : ∀ b, b ≠ a → G.get? b = h2.get? b := fun b hb => g1' b (decide_eq_true hb)
  have ge : G.get? a = none := g2' a (by simp)
  have nha : ∀ {b : Addr} {o : Obj}, hp.get? b = some o → b ≠ a := fun {b o} z => Nat.ne_of_lt (Nat.lt_of_lt_of_le (Heap.lt_size z) ha)
  have up : ∀ {b : Addr}, b ≠ a → H1 b = none → upd H1 a (exo a C none) b = none := fun {b} hb n => by rw [upd_ne hb]; exact n
  have dn : ∀ {b : Addr}, b ≠ a → H2 b = H1 b := fun {b} hb => by rw [e2, upd_ne hb]
  have U : Un (frs X.stack) [] H1 H1 hp G := {
    keep := fun b o z n hf hx => by
      rw [gk b (nha z)]
      exact un.keep b o (k b o z) (up (nha z) n) hf hx
    slot := fun b o z n hf hx => by
      rw [gk b (nha z)]
      exact un.slot b o (k b o z) (up (nha z) n) hf hx
    free := fun b o z n hx => n
    there := fun b o z hx => by
      rw [gk b (nha z)]
      exact un.there b o (k b o z) hx
    tups := fun b xs z => z
    frzs := fun b o v z => z
    tbls := fun b ps z => ⟨#[], by rw [z]; simp⟩ }
  have hok3 : HOk X.prog X.w H1 G := fun b o z => by
    have hba : b ≠ a := ne_of_none z hn
    have z2 : H2 b = some o := (dn hba).trans z
    refine (hok b o z2).stay (fun c v hc y => ?_) (fun c hc => ?_) (fun c xs hc => ?_)
    · have hca : c ≠ a := by
        rcases hc with hc | hc
        · rw [hc]; exact hba
        · exact at_ne ea hc exo_own
      rw [gk c hca]
      exact y
    · rw [← dn (at_ne ea hc exo_own)]; exact hc
    · rw [← dn (at_ne ea hc exo_tup)]; exact hc
  have J : Inv X pins σ H1 ⟨G, g2, d2, t2, os2⟩ := I1.call' (ch := []) ho U hok3 hb (fun b z => absurd z (by simp))
  refine ⟨a, _, _, ⟨G, g2, d2, t2, os2⟩, _, .ref C, none, rfl, J, fun b o z => ?_, ge, hoe, ⟨rfl, rfl⟩, rfl, rfl, hn, rfl, hb, T, q⟩
  by_cases hba : b = a
  · rw [hba, ge] at z
    cases z
  · exact (gk b hba).symm.trans z
/-- C(), C's own __init__ without arguments -/
theorem pmk_sup0 {CX : CXT} {x : Str} {C fI : Addr} {k : Nat} {fd : FuncData} {ps : List Str} {p pos : Pos} (T : OexC X.K C) (iC : PySem.W.findIn X.K (.ref C) "__init__" = some (some (.ref fI))) (tI : PySem.W.typeIn X.K (.ref fI) = some (.type "function"))
    (F1 : FnOk X.prog X.w X.K X.mg X.base CX k fI fd ps (spSup0 C)) (hr : Room (k + 1) X.A) (hb : Binds X.K fd ps []) (hx : Passes CX X (fun _ _ _ => False)) (hg : Gl X x) (hm : X.mg x = some (.ref C))
    (hdb : (x == ("__debug__" : Str)) = false := by decide) :
    PMk X (.Call (.Name x p) [] [] pos) (fun σ H Q => Q (.ref C) none H) := by
  intro pins s σ H Q I h
  obtain ⟨nm, q, N, bs, bm, sn, sub, ab, col, dd, k0, k1, k2, k3, k5, hC, hbm⟩ := T.cls
  refine wpAny_Call_Name_kw (ld_glob I hg hm ?_ hdb)
  refine PySem.W.callWith_K0 I.kIn T.kC ?_
  show wpAny _ _ (call (.ref C) []) _ _ _
  obtain ⟨hp, g, dr, tk, os⟩ := s
  have hsz : hp.objs.size ≤ hp.objs.size + 1 := Nat.le_succ _
  have hn : H (hp.objs.size + 1) = none := I.hok.fresh hsz
  have kk : ∀ b o, hp.get? b = some o → ((hp.push (PySem.W.kdv_tup [])).push (PySem.HandSPX.excO C hp.objs.size)).get? b = some o := fun b o e => Heap.get?_push_of_some _ (Heap.get?_push_of_some _ e)
  have hget : ((hp.push (PySem.W.kdv_tup [])).push (PySem.HandSPX.excO C hp.objs.size)).get? (hp.objs.size + 1) = some (PySem.HandSPX.excO C hp.objs.size) := by heap_get
  have I2 : Inv X pins σ (upd H (hp.objs.size + 1) (exo (hp.objs.size + 1) C none)) ⟨(hp.push (PySem.W.kdv_tup [])).push (PySem.HandSPX.excO C hp.objs.size), g, dr, tk, os⟩ :=
    I.laid (t' := tk) (a := hp.objs.size + 1) (o := exo (hp.objs.size + 1) C none) (h' := (hp.push (PySem.W.kdv_tup [])).push (PySem.HandSPX.excO C hp.objs.size)) kk hsz (exo_ok hget)
  have r2 : Vals [V.ref (hp.objs.size + 1)] [Value.ref (hp.objs.size + 1)] := .cons rfl .nil
  have hq : spSup0 C [V.ref (hp.objs.size + 1)] (upd H (hp.objs.size + 1) (exo (hp.objs.size + 1) C none)) (fun v H2 => v = .non ∧ H2 = upd H (hp.objs.size + 1) (exo (hp.objs.size + 1) C none)) (fun _ _ _ => False) := ⟨_, rfl, upd_same, rfl, rfl⟩
  have hl : [Value.ref (hp.objs.size + 1)].length = ps.length := F1.len _ _ _ _ hq
  refine wpAny_call (PySem.HandSPX.call_own F.excBase_ValueError (fun Y => PySem.HandSPX.refsVE_contains Y bm hbm) (I.kIn _ _ hC) (PySem.W.looks_findIn I.kIn iC) (fun self => PySem.W.bind_fn I.kIn self tI) (by decide)
    (codeAny_mono (F1.run _ X.stack _ _ ⟨[Value.ref (hp.objs.size + 1)], []⟩ [Value.ref (hp.objs.size + 1)] _ _ (fun _ _ _ => False) (hr.make C [] []) (I2.env0.make C [] []) (hb _ [Value.ref (hp.objs.size + 1)] I2.kIn (by simpa using hl)) r2 hq) fun r s' hq' => ?_))
  cases r with
  | error er => exact hx pins σ _ _ er s' I2 hq'
  | ok fl =>
    cases fl with
    | ret u =>
      obtain ⟨v, H2, os2, bare2, un2, hok2, rv, ev, e2⟩ := hq'
      subst ev
      obtain ⟨h2, g2, d2, t2, os'⟩ := s'
      exact ⟨rv, mk_none (raises_own T.exC T.tyC) I hsz kk un2 hok2 os2 bare2 e2 h⟩
    | next => exact False.elim hq'
    | brk => exact False.elim hq'
    | cont => exact False.elim hq'
end
section
variable {P : Program} {w : World} {K : PySem.W.Frag} {mg : Str → Option Value} {base : Heap}
/-- def __init__(self): super().__init__("..") -/
theorem sup0_ok {CX : CXT} {C fI cda cc : Addr} {fd : FuncData} {qual : Str} {params : Arguments} {scope : Scope} {N : List Str} {p0 p1 ap cp cpos ep : Pos} {msg : Str} {jm : Nat} {ar : Arg}
    (Z : SupI P K mg C fI cda cc fd qual params [.Expr (.Call (.Attribute (.Call (.Name "super" p0) [] [] p1) "__init__" ap) [.Constant (.str msg) jm cp] [] cpos) ep] scope)
    (T : OexC K C) (S : NScope N ["self"] ["__class__"] scope) (hline : (ap.endLine == cpos.line) = true) (hks : scope.names.lookup ("super" : Str) = some .globalImplicit)
    (hp : (params.posonlyargs ++ params.args).head? = some ar) (hps : ("self" : Str) = ar.arg) : FnOk P w K mg base CX 1 fI fd ["self"] (spSup0 C) := by
  refine sup_ok (k := 0) Z T S hline hks hp (by rw [hps]; rfl) (fun vs H Q E h => ?_) (fun A outer s H vs Q E h => ?_)
  · obtain ⟨a, rfl, _⟩ := h
    rfl
  · obtain ⟨a, rfl, ha, hq⟩ := h
    exact ⟨a, [], rfl, ha, _, pss_nil, hq⟩
/-- the promise of an __init__ that says super().__init__("..") and then stores its arguments, each under a name -/
def spSup (C : Addr) (fs : List Str) : Sp := fun vs H Q _ => ∃ a ws, vs = .ref a :: ws ∧ ws.length = fs.length ∧ H a = some (exo a C none) ∧ ∀ dx, H dx = none → dx ≠ a → Q .non (upd (upd H dx (exd dx (fs.zip ws).reverse)) a (exo a C (some dx)))
/-- def __init__(self, f): super().__init__(".."); self.f = f -/
theorem sup1_ok {CX : CXT} {C fI cda cc : Addr} {fd : FuncData} {qual f : Str} {params : Arguments} {scope : Scope} {N : List Str} {p0 p1 ap cp cpos ep q0 q1 q2 q3 : Pos} {msg : Str} {jm : Nat} {ar : Arg}
    (Z : SupI P K mg C fI cda cc fd qual params [.Expr (.Call (.Attribute (.Call (.Name "super" p0) [] [] p1) "__init__" ap) [.Constant (.str msg) jm cp] [] cpos) ep, .Assign [.Attribute (.Name "self" q0) f q1] (.Name f q2) q3] scope)
    (T : OexC K C) (hN : N = ([("self" : Str), f, ("__class__" : Str)] : List Str)) (S : NScope N ["self", f] ["__class__"] scope) (hline : (ap.endLine == cpos.line) = true) (hks : scope.names.lookup ("super" : Str) = some .globalImplicit)
    (hp : (params.posonlyargs ++ params.args).head? = some ar) (hps : ("self" : Str) = ar.arg) (hno : PySem.W.findIn K (.ref C) f = some none)
    (hd1 : (f == ("__debug__" : Str)) = false) (hd2 : (f == ("__classdict__" : Str)) = false) : FnOk P w K mg base CX 1 fI fd ["self", f] (spSup C [f]) := by
  subst hN
  refine sup_ok (k := 0) Z T S hline hks hp (by rw [hps]; rfl) (fun vs H Q E h => ?_) (fun A outer s H vs Q E h => ?_)
  · obtain ⟨a, ws, rfl, hl, _⟩ := h
    simp [hl]
  · obtain ⟨a, ws, rfl, hl, ha, hq⟩ := h
    obtain ⟨w1, rfl⟩ : ∃ w1, ws = [w1] := by
      match ws, hl with
      | [w1], _ => exact ⟨w1, rfl⟩
    refine ⟨a, [w1], rfl, ha, _, pss_one (ps_ost (pv 0 (by rfl) (Or.inl (S.par _ (by simp)))) (pv 1 (by rfl) (Or.inl (S.par _ (by simp))) hd1 hd2)), ?_⟩
    refine ⟨w1, rfl, .ref a, rfl, a, C, rfl, T, hno, ?_⟩
    exact .inl ⟨ha, fun dx n1 n2 => hq dx n1 n2⟩
/-- def __init__(self, f, g): super().__init__(".."); self.f = f; self.g = g -/
theorem sup2_ok {CX : CXT} {C fI cda cc : Addr} {fd : FuncData} {qual f g : Str} {params : Arguments} {scope : Scope} {N : List Str} {p0 p1 ap cp cpos ep q0 q1 q2 q3 q4 q5 q6 q7 : Pos} {msg : Str} {jm : Nat} {ar : Arg}
    (Z : SupI P K mg C fI cda cc fd qual params [.Expr (.Call (.Attribute (.Call (.Name "super" p0) [] [] p1) "__init__" ap) [.Constant (.str msg) jm cp] [] cpos) ep, .Assign [.Attribute (.Name "self" q0) f q1] (.Name f q2) q3, .Assign [.Attribute (.Name "self" q4) g q5] (.Name g q6) q7] scope)
    (T : OexC K C) (hN : N = ([("self" : Str), f, g, ("__class__" : Str)] : List Str)) (S : NScope N ["self", f, g] ["__class__"] scope) (hline : (ap.endLine == cpos.line) = true) (hks : scope.names.lookup ("super" : Str) = some .globalImplicit)
    (hp : (params.posonlyargs ++ params.args).head? = some ar) (hps : ("self" : Str) = ar.arg) (hno : PySem.W.findIn K (.ref C) f = some none) (hno2 : PySem.W.findIn K (.ref C) g = some none)
    (hd1 : (f == ("__debug__" : Str)) = false) (hd2 : (f == ("__classdict__" : Str)) = false) (hd3 : (g == ("__debug__" : Str)) = false) (hd4 : (g == ("__classdict__" : Str)) = false) : FnOk P w K mg base CX 1 fI fd ["self", f, g] (spSup C [f, g]) := by
  subst hN
  refine sup_ok (k := 0) Z T S hline hks hp (by rw [hps]; rfl) (fun vs H Q E h => ?_) (fun A outer s H vs Q E h => ?_)
  · obtain ⟨a, ws, rfl, hl, _⟩ := h
    simp [hl]
  · obtain ⟨a, ws, rfl, hl, ha, hq⟩ := h
    obtain ⟨w1, w2, rfl⟩ : ∃ w1 w2, ws = [w1, w2] := by
      match ws, hl with
      | [w1, w2], _ => exact ⟨w1, w2, rfl⟩
    refine ⟨a, [w1, w2], rfl, ha, _, pss_cons (ps_ost (pv 0 (by rfl) (Or.inl (S.par _ (by simp)))) (pv 1 (by rfl) (Or.inl (S.par _ (by simp))) hd1 hd2)) (pss_one (ps_ost (pv 0 (by rfl) (Or.inl (S.par _ (by simp)))) (pv 2 (by rfl) (Or.inl (S.par _ (by simp))) hd3 hd4))), ?_⟩
    refine ⟨w1, rfl, .ref a, rfl, a, C, rfl, T, hno, ?_⟩
    refine .inl ⟨ha, fun dx n1 n2 => ?_⟩
    refine ⟨w2, rfl, .ref a, rfl, a, C, rfl, T, hno2, ?_⟩
    refine .inr ⟨dx, [(f, w1)], upd_same, by rw [upd_ne n2, upd_same], by show 1 ≤ 900; decide, ?_⟩
    have e : upd (upd (upd H dx (exd dx [(f, w1)])) a (exo a C (some dx))) dx (exd dx [(g, w2), (f, w1)]) = upd (upd H dx (exd dx [(g, w2), (f, w1)])) a (exo a C (some dx)) := by
      funext b
      by_cases hb : b = dx
      · subst hb
        rw [upd_same, upd_ne n2, upd_same]
      · rw [upd_ne hb]
        by_cases hb2 : b = a
        · subst hb2
          rw [upd_same, upd_same]
        · rw [upd_ne hb2, upd_ne hb2, upd_ne hb, upd_ne hb]
    rw [e]
    exact hq dx n1 n2
end
section
variable {X : Cx}
theorem del_upd {H : Hp} {a : Addr} {o : HO} (h : H a = none) : del (upd H a o) a = H := by
  funext b
  by_cases hb : b = a
  · subst hb; rw [del_same, h]
  · rw [del_ne hb, upd_ne hb]
/-- C(e, ..), an error class with fields -/
theorem pmk_sup {CX : CXT} {x : Str} {C fI : Addr} {k : Nat} {fd : FuncData} {ps fs : List Str} {p pos : Pos} {e : Expr} {es : List Expr} {ta : TA} (T : OexC X.K C) (iC : PySem.W.findIn X.K (.ref C) "__init__" = some (some (.ref fI))) (tI : PySem.W.typeIn X.K (.ref fI) = some (.type "function"))
    (F1 : FnOk X.prog X.w X.K X.mg X.base CX k fI fd ps (spSup C fs)) (hr : Room (k + 1) X.A) (hb : Binds X.K fd ps []) (hx : Passes CX X (fun _ _ _ => False)) (hg : Gl X x) (hm : X.mg x = some (.ref C)) (ha : PA X (e :: es) ta)
    (hdb : (x == ("__debug__" : Str)) = false := by decide) (he : starEach (e :: es) X.env = (false, eval e X.env) :: starEach es X.env := by rfl) (hpl : (backTo pos (starEach es X.env)).any (·.1) = false := by rfl) :
    PMk X (.Call (.Name x p) (e :: es) [] pos) (fun σ H Q => ta σ H fun vs H1 => vs.length = fs.length ∧ vs.length ≤ 1000 ∧ ∀ d, H1 d = none → Q (.ref C) (some d) (upd H1 d (.xd (fs.zip vs).reverse))) := by
  intro pins s σ H Q I h
  refine pmk_oex T iC tI F1 hr hb .nil hx hg hm (ta := fun σ H R => ∃ P, ta σ H P ∧ ∀ vs H1, P vs H1 → R vs H1) ?_ hdb he hpl pins s σ H Q I ⟨_, h, fun vs H1 ⟨hl, hz, q⟩ => ⟨hz, fun a ha1 => ?_⟩⟩
  · exact ⟨fun pos pins s σ H Q I ⟨P, h, hP⟩ => thn (ha.run pos pins s σ H _ I h) fun us s1 ⟨vs, H1, I1, r, q⟩ => ⟨vs, H1, I1, r, hP _ _ q⟩⟩
  · rw [List.append_nil]
    refine ⟨a, vs, rfl, hl, upd_same, fun dx n1 n2 => ?_⟩
    have nd : H1 dx = none := by rw [upd_ne n2] at n1; exact n1
    refine ⟨rfl, dx, _, upd_same, by rw [upd_ne n2, upd_same], nd, ?_⟩
    have e1 : upd (del (upd (upd (upd H1 a (exo a C none)) dx (exd dx (fs.zip vs).reverse)) a (exo a C (some dx))) a) dx (.xd (fs.zip vs).reverse) = upd H1 dx (.xd (fs.zip vs).reverse) := by
      funext b
      by_cases hb : b = dx
      · subst hb; rw [upd_same, upd_same]
      · rw [upd_ne hb, upd_ne hb]
        by_cases hb2 : b = a
        · subst hb2; rw [del_same, ha1]
        · rw [del_ne hb2, upd_ne hb2, upd_ne hb, upd_ne hb2]
    rw [e1]
    exact q dx nd
end
end L2
/-! VS: values as trees. D the trees, Rp what a tree is in the abstract heap, Rep a frame's slots, Stp a step. -/
namespace VS
open PySem PySem.Spec PyProof.Rows L2
/-- how a dict stands: t its keys are tuples, f it is locked -/
structure DK where
  t : Bool
  f : Bool
  deriving DecidableEq
inductive D where
  | non | bl (b : Bool) | int (i : Int) | str (s : Str) | ty (n : String) | cls (c : Str)
  | tup (xs : List D) | lst (xs : List D) | dct (t : DK) (kvs : List (D × D)) | obj (c : Str) (fs : List (Str × D))
  | scr (ns : List Int)
/-- an exception that a clause has caught: its slot, itself, its dict, its attributes -/
structure XI where
  i : Nat
  a : Addr
  dd : Option Addr
  fs : List (Str × D)
/-- what stands fast: the written part, the module's names, the caught exception -/
structure Gt where
  K : PySem.W.Frag
  mg : Str → Option Value
  xv : Option XI
def kD : Key → D
  | .inl i => .int i
  | .inr s => .str s
def kT (ks : List Key) : D := .tup (ks.map kD)
/-- a thing at a, locked or not -/
def DAt (f : Bool) (H : Hp) (a : Addr) (u : HO) : Prop := (f = false ∧ H a = some u) ∨ (f = true ∧ ∃ o, H a = some (.frz o u))
theorem DAt.rd {f : Bool} {H : Hp} {a : Addr} {u : HO} (h : DAt f H a u) : Rd H a u := h.elim (fun h => .inl h.2) fun h => .inr h.2
theorem DAt.un {f : Bool} {H : Hp} {a : Addr} {u : HO} (h : DAt f H a u) (hf : f = false) : H a = some u := h.elim (fun h => h.2) fun h => by rw [hf] at h; cases h.1
/-- a dict's object: its keys by the two kinds -/
def DctAt (t : DK) (H : Hp) (a : Addr) (ks : List D) (ws : List V) : Prop :=
  (t.t = false ∧ ∃ kk : List Key, kk.map kD = ks ∧ kk.length = ws.length ∧ kk.Nodup ∧ DAt t.f H a (.dK (kk.zip ws))) ∨ (t.t = true ∧ ∃ kk : List (List Key), kk.map kT = ks ∧ kk.length = ws.length ∧ kk.Nodup ∧ DAt t.f H a (.dT (kk.zip ws)))
mutual
def Rp (G : Gt) (H : Hp) : D → V → List Addr → Prop
  | .non, v, n => v = .non ∧ n = []
  | .bl b, v, n => v = .bl b ∧ n = []
  | .int i, v, n => v = .int i ∧ n = []
  | .str s, v, n => v = .str s ∧ n = []
  | .ty t, v, n => v = .ty t ∧ n = []
  | .cls c, v, n => ∃ a, v = .ref a ∧ G.mg c = some (.ref a) ∧ n = []
  | .tup ds, v, n => ∃ a vs, v = .ref a ∧ H a = some (.tup vs) ∧ RpL G H ds vs n
  | .lst ds, v, n => ∃ a vs m, v = .ref a ∧ H a = some (.lst vs) ∧ RpL G H ds vs m ∧ n = a :: m
  | .dct t kvs, v, n => ∃ a ws m, v = .ref a ∧ DctAt t H a (kvs.map (·.1)) ws ∧ RpP G H kvs ws m ∧ n = a :: m
  | .obj c fs, v, n => ∃ C a dx ws m, v = .ref a ∧ G.mg c = some (.ref C) ∧ H a = some (.ins C dx ws) ∧ RpF G H fs ws m ∧ n = a :: m
  | .scr ns, v, n => ∃ a, v = .ref a ∧ ((∃ o, H a = some (.frz o (.lst (ns.map V.int)))) ∨ ∀ H' : Hp, SqL G.K H' a (ns.map V.int)) ∧ n = []
def RpL (G : Gt) (H : Hp) : List D → List V → List Addr → Prop
  | [], vs, n => vs = [] ∧ n = []
  | d :: r, vs, n => ∃ v vs' n1 n2, vs = v :: vs' ∧ Rp G H d v n1 ∧ RpL G H r vs' n2 ∧ n = n1 ++ n2
def RpP (G : Gt) (H : Hp) : List (D × D) → List V → List Addr → Prop
  | [], vs, n => vs = [] ∧ n = []
  | (_, d) :: r, vs, n => ∃ v vs' n1 n2, vs = v :: vs' ∧ Rp G H d v n1 ∧ RpP G H r vs' n2 ∧ n = n1 ++ n2
def RpF (G : Gt) (H : Hp) : List (Str × D) → List (Str × V) → List Addr → Prop
  | [], vs, n => vs = [] ∧ n = []
  | (f, d) :: r, vs, n => ∃ v vs' n1 n2, vs = (f, v) :: vs' ∧ Rp G H d v n1 ∧ RpF G H r vs' n2 ∧ n = n1 ++ n2
end
mutual
/-- no mutable part -/
def D.pure : D → Bool
  | .tup xs => pureL xs
  | .lst _ | .dct _ _ | .obj _ _ => false
  | _ => true
def pureL : List D → Bool
  | [] => true
  | d :: r => d.pure && pureL r
end
def D.isMut : D → Bool
  | .lst _ | .dct _ _ | .obj _ _ => true
  | _ => false
theorem pureL_iff : ∀ {xs : List D}, pureL xs = true ↔ ∀ d ∈ xs, d.pure = true
  | [] => by simp [pureL]
  | d :: r => by simp [pureL, pureL_iff (xs := r)]
section
variable {G : Gt} {H H' : Hp}
mutual
theorem Rp.pure : ∀ {d : D} {v : V} {n : List Addr}, d.pure = true → Rp G H d v n → n = []
  | .non, _, _, _, h | .bl _, _, _, _, h | .int _, _, _, _, h | .str _, _, _, _, h | .ty _, _, _, _, h => by simp only [Rp] at h; exact h.2
  | .cls _, _, _, _, h => by simp only [Rp] at h; obtain ⟨_, _, _, h⟩ := h; exact h
  | .scr _, _, _, _, h => by simp only [Rp] at h; obtain ⟨_, _, _, h⟩ := h; exact h
  | .tup ds, _, _, p, h => by
    simp only [Rp] at h
    obtain ⟨_, _, _, _, h⟩ := h
    exact RpL.pure (by simpa only [D.pure] using p) h
  | .lst _, _, _, p, _ | .dct _ _, _, _, p, _ | .obj _ _, _, _, p, _ => by simp [D.pure] at p
theorem RpL.pure : ∀ {ds : List D} {vs : List V} {n : List Addr}, pureL ds = true → RpL G H ds vs n → n = []
  | [], _, _, _, h => by simp only [RpL] at h; exact h.2
  | d :: r, _, _, p, h => by
    simp only [pureL, Bool.and_eq_true] at p
    simp only [RpL] at h
    obtain ⟨v, vs', n1, n2, _, h1, h2, rfl⟩ := h
    rw [Rp.pure p.1 h1, RpL.pure p.2 h2]
    rfl
end
/-- what a step keeps: all but W -/
def Keeps (H H' : Hp) (W : Addr → Prop) : Prop := ∀ a o, H a = some o → ¬ W a → H' a = some o
/-- a mutable node's object -/
def MutO : Option HO → Prop
  | some (.lst _) | some (.dK _) | some (.dT _) | some (.ins _ _ _) | some (.frz _ (.dK _)) | some (.frz _ (.dT _)) => True
  | _ => False
theorem Keeps.sqT {W : Addr → Prop} {a : Addr} {xs : List V} (k : Keeps H H' W) (m : ∀ a, W a → MutO (H a)) (h : SqT G.K H a xs) : SqT G.K H' a xs := by
  rcases h with (h | ⟨o, h⟩) | h
  · exact .inl (.inl (k _ _ h fun w => by have := m a w; rw [h] at this; exact this))
  · exact .inl (.inr ⟨o, k _ _ h fun w => by have := m a w; rw [h] at this; exact this⟩)
  · exact .inr h
theorem Keeps.sqL {W : Addr → Prop} {a : Addr} {xs : List V} (k : Keeps H H' W) (nw : ¬ W a) (h : SqL G.K H a xs) : SqL G.K H' a xs := by
  rcases h with (h | ⟨o, h⟩) | h
  · exact .inl (.inl (k _ _ h nw))
  · exact .inl (.inr ⟨o, k _ _ h nw⟩)
  · exact .inr h
theorem RpP.len : ∀ {kvs : List (D × D)} {ws : List V} {n : List Addr}, RpP G H kvs ws n → kvs.length = ws.length
  | [], _, _, h => by simp only [RpP] at h; rw [h.1]; rfl
  | (_, d) :: r, _, _, h => by
    simp only [RpP] at h
    obtain ⟨v, vs', n1, n2, rfl, _, h2, _⟩ := h
    simp [RpP.len h2]
theorem RpL.len : ∀ {ds : List D} {vs : List V} {n : List Addr}, RpL G H ds vs n → ds.length = vs.length
  | [], _, _, h => by simp only [RpL] at h; rw [h.1]; rfl
  | d :: r, _, _, h => by
    simp only [RpL] at h
    obtain ⟨v, vs', n1, n2, rfl, _, h2, _⟩ := h
    simp [RpL.len h2]
theorem DAt.keep {f : Bool} {W : Addr → Prop} {a : Addr} {u : HO} (k : Keeps H H' W) (nw : ¬ W a) (h : DAt f H a u) : DAt f H' a u := h.elim (fun h => .inl ⟨h.1, k _ _ h.2 nw⟩) fun ⟨h, o, e⟩ => .inr ⟨h, o, k _ _ e nw⟩
theorem DctAt.keep {t : DK} {W : Addr → Prop} {a : Addr} {ks : List D} {ws : List V} (k : Keeps H H' W) (nw : ¬ W a) (h : DctAt t H a ks ws) : DctAt t H' a ks ws := by
  rcases h with ⟨e0, kk, e, l, nd, h⟩ | ⟨e0, kk, e, l, nd, h⟩
  · exact .inl ⟨e0, kk, e, l, nd, h.keep k nw⟩
  · exact .inr ⟨e0, kk, e, l, nd, h.keep k nw⟩
theorem DctAt.mut {t : DK} {a : Addr} {ks : List D} {ws : List V} (h : DctAt t H a ks ws) : MutO (H a) := by
  rcases h with ⟨e0, kk, e, l, nd, h | ⟨_, o, h⟩⟩ | ⟨e0, kk, e, l, nd, h | ⟨_, o, h⟩⟩
  · rw [h.2]; trivial
  · rw [h]; trivial
  · rw [h.2]; trivial
  · rw [h]; trivial
mutual
theorem Rp.keep {W : Addr → Prop} (k : Keeps H H' W) (m : ∀ a, W a → MutO (H a)) : ∀ {d : D} {v : V} {n : List Addr}, (∀ a ∈ n, ¬ W a) → Rp G H d v n → Rp G H' d v n
  | .non, _, _, _, h | .bl _, _, _, _, h | .int _, _, _, _, h | .str _, _, _, _, h | .ty _, _, _, _, h => by simp only [Rp] at h ⊢; exact h
  | .cls _, _, _, _, h => by simp only [Rp] at h ⊢; exact h
  | .scr _, _, _, _, h => by
    simp only [Rp] at h ⊢
    obtain ⟨a, e, h1, h2⟩ := h
    refine ⟨a, e, ?_, h2⟩
    rcases h1 with ⟨o, h1⟩ | h1
    · exact .inl ⟨o, k _ _ h1 fun w => by have := m a w; rw [h1] at this; exact this⟩
    · exact .inr h1
  | .tup ds, _, _, nw, h => by
    simp only [Rp] at h ⊢
    obtain ⟨a, vs, e, h1, h2⟩ := h
    exact ⟨a, vs, e, k _ _ h1 (fun w => by have := m a w; rw [h1] at this; exact this), RpL.keep k m nw h2⟩
  | .lst ds, _, _, nw, h => by
    simp only [Rp] at h ⊢
    obtain ⟨a, vs, n', e, h1, h2, rfl⟩ := h
    exact ⟨a, vs, n', e, k _ _ h1 (nw a (by simp)), RpL.keep k m (fun b hb => nw b (by simp [hb])) h2, rfl⟩
  | .dct t kvs, _, _, nw, h => by
    simp only [Rp] at h ⊢
    obtain ⟨a, ws, n', e, h1, h2, rfl⟩ := h
    exact ⟨a, ws, n', e, h1.keep k (nw a (by simp)), RpP.keep k m (fun b hb => nw b (by simp [hb])) h2, rfl⟩
  | .obj c fs, _, _, nw, h => by
    simp only [Rp] at h ⊢
    obtain ⟨C, a, dx, ws, n', e, hc, h1, h2, rfl⟩ := h
    exact ⟨C, a, dx, ws, n', e, hc, k _ _ h1 (nw a (by simp)), RpF.keep k m (fun b hb => nw b (by simp [hb])) h2, rfl⟩
theorem RpL.keep {W : Addr → Prop} (k : Keeps H H' W) (m : ∀ a, W a → MutO (H a)) : ∀ {ds : List D} {vs : List V} {n : List Addr}, (∀ a ∈ n, ¬ W a) → RpL G H ds vs n → RpL G H' ds vs n
  | [], _, _, _, h => by simp only [RpL] at h ⊢; exact h
  | d :: r, _, _, nw, h => by
    simp only [RpL] at h ⊢
    obtain ⟨v, vs', n1, n2, e, h1, h2, rfl⟩ := h
    exact ⟨v, vs', n1, n2, e, Rp.keep k m (fun b hb => nw b (by simp [hb])) h1, RpL.keep k m (fun b hb => nw b (by simp [hb])) h2, rfl⟩
theorem RpP.keep {W : Addr → Prop} (k : Keeps H H' W) (m : ∀ a, W a → MutO (H a)) : ∀ {ds : List (D × D)} {vs : List V} {n : List Addr}, (∀ a ∈ n, ¬ W a) → RpP G H ds vs n → RpP G H' ds vs n
  | [], _, _, _, h => by simp only [RpP] at h ⊢; exact h
  | (_, d) :: r, _, _, nw, h => by
    simp only [RpP] at h ⊢
    obtain ⟨v, vs', n1, n2, e, h1, h2, rfl⟩ := h
    exact ⟨v, vs', n1, n2, e, Rp.keep k m (fun b hb => nw b (by simp [hb])) h1, RpP.keep k m (fun b hb => nw b (by simp [hb])) h2, rfl⟩
theorem RpF.keep {W : Addr → Prop} (k : Keeps H H' W) (m : ∀ a, W a → MutO (H a)) : ∀ {ds : List (Str × D)} {vs : List (Str × V)} {n : List Addr}, (∀ a ∈ n, ¬ W a) → RpF G H ds vs n → RpF G H' ds vs n
  | [], _, _, _, h => by simp only [RpF] at h ⊢; exact h
  | (_, d) :: r, _, _, nw, h => by
    simp only [RpF] at h ⊢
    obtain ⟨v, vs', n1, n2, e, h1, h2, rfl⟩ := h
    exact ⟨v, vs', n1, n2, e, Rp.keep k m (fun b hb => nw b (by simp [hb])) h1, RpF.keep k m (fun b hb => nw b (by simp [hb])) h2, rfl⟩
end
/- the nodes are mutable objects that stand -/
mutual
theorem Rp.mut : ∀ {d : D} {v : V} {n : List Addr}, Rp G H d v n → ∀ a ∈ n, MutO (H a)
  | .non, _, _, h | .bl _, _, _, h | .int _, _, _, h | .str _, _, _, h | .ty _, _, _, h => by simp only [Rp] at h; rw [h.2]; simp
  | .cls _, _, _, h => by simp only [Rp] at h; obtain ⟨_, _, _, rfl⟩ := h; simp
  | .scr _, _, _, h => by simp only [Rp] at h; obtain ⟨_, _, _, rfl⟩ := h; simp
  | .tup ds, _, _, h => by
    simp only [Rp] at h
    obtain ⟨a, vs, e, h1, h2⟩ := h
    exact RpL.mut h2
  | .lst ds, _, _, h => by
    simp only [Rp] at h
    obtain ⟨a, vs, n', e, h1, h2, rfl⟩ := h
    intro b hb
    rcases List.mem_cons.mp hb with rfl | hb
    · rw [h1]; trivial
    · exact RpL.mut h2 b hb
  | .dct t kvs, _, _, h => by
    simp only [Rp] at h
    obtain ⟨a, ws, n', e, h1, h2, rfl⟩ := h
    intro b hb
    rcases List.mem_cons.mp hb with rfl | hb
    · exact h1.mut
    · exact RpP.mut h2 b hb
  | .obj c fs, _, _, h => by
    simp only [Rp] at h
    obtain ⟨C, a, dx, ws, n', e, hc, h1, h2, rfl⟩ := h
    intro b hb
    rcases List.mem_cons.mp hb with rfl | hb
    · rw [h1]; trivial
    · exact RpF.mut h2 b hb
theorem RpL.mut : ∀ {ds : List D} {vs : List V} {n : List Addr}, RpL G H ds vs n → ∀ a ∈ n, MutO (H a)
  | [], _, _, h => by simp only [RpL] at h; rw [h.2]; simp
  | d :: r, _, _, h => by
    simp only [RpL] at h
    obtain ⟨v, vs', n1, n2, e, h1, h2, rfl⟩ := h
    intro b hb
    rcases List.mem_append.mp hb with hb | hb
    · exact Rp.mut h1 b hb
    · exact RpL.mut h2 b hb
theorem RpP.mut : ∀ {ds : List (D × D)} {vs : List V} {n : List Addr}, RpP G H ds vs n → ∀ a ∈ n, MutO (H a)
  | [], _, _, h => by simp only [RpP] at h; rw [h.2]; simp
  | (_, d) :: r, _, _, h => by
    simp only [RpP] at h
    obtain ⟨v, vs', n1, n2, e, h1, h2, rfl⟩ := h
    intro b hb
    rcases List.mem_append.mp hb with hb | hb
    · exact Rp.mut h1 b hb
    · exact RpP.mut h2 b hb
theorem RpF.mut : ∀ {ds : List (Str × D)} {vs : List (Str × V)} {n : List Addr}, RpF G H ds vs n → ∀ a ∈ n, MutO (H a)
  | [], _, _, h => by simp only [RpF] at h; rw [h.2]; simp
  | (_, d) :: r, _, _, h => by
    simp only [RpF] at h
    obtain ⟨v, vs', n1, n2, e, h1, h2, rfl⟩ := h
    intro b hb
    rcases List.mem_append.mp hb with hb | hb
    · exact Rp.mut h1 b hb
    · exact RpF.mut h2 b hb
end
theorem Rp.there {d : D} {v : V} {n : List Addr} (h : Rp G H d v n) {a : Addr} (ha : a ∈ n) : H a ≠ none := fun z => by
  have := h.mut a ha
  rw [z] at this
  exact this
end
/-! ### who may change what -/
/-- al: may share with a slot that is owned; s: shares with no owned slot; r: its own object is owned by it alone; d: all of it; f.: the name is never bound anew; l.: nor changed (ls: a name that owns nothing) -/
inductive Md | al | s | r | d | fr | fd | lr | ld | ls
  deriving DecidableEq
def Md.isR : Md → Bool
  | .r | .fr | .lr => true
  | _ => false
def Md.isD : Md → Bool
  | .d | .fd | .ld => true
  | _ => false
def Md.lock : Md → Bool
  | .lr | .ld | .ls => true
  | _ => false
def Md.fix : Md → Bool
  | .fr | .fd | .lr | .ld | .ls => true
  | _ => false
def Own (md : Md) (d : D) (n : List Addr) (a : Addr) : Prop := (md.isD = true ∧ a ∈ n) ∨ (md.isR = true ∧ d.isMut = true ∧ n.head? = some a)
def Wr (md : Md) (d : D) (n : List Addr) (a : Addr) : Prop := md.lock = false ∧ Own md d n a
theorem Own.mem {md : Md} {d : D} {n : List Addr} {a : Addr} (h : Own md d n a) : a ∈ n := by
  rcases h with h | ⟨_, _, h⟩
  · exact h.2
  · exact List.mem_of_mem_head? h
abbrev En := List (Option D)
def mdAt (μ : List Md) (i : Nat) : Md := μ.getD i .s
def ownS (μ : List Md) (env : En) (N : Nat → List Addr) (a : Addr) : Prop := ∃ i d, env[i]? = some (some d) ∧ Own (mdAt μ i) d (N i) a
def wrS (μ : List Md) (env : En) (N : Nat → List Addr) (a : Addr) : Prop := ∃ i d, env[i]? = some (some d) ∧ Wr (mdAt μ i) d (N i) a
def allS (N : Nat → List Addr) (a : Addr) : Prop := ∃ i, a ∈ N i
theorem wrS.own {μ : List Md} {env : En} {N : Nat → List Addr} {a : Addr} (h : wrS μ env N a) : ownS μ env N a := let ⟨i, d, e, w⟩ := h; ⟨i, d, e, w.2⟩
theorem ownS.all {μ : List Md} {env : En} {N : Nat → List Addr} {a : Addr} (h : ownS μ env N a) : allS N a := let ⟨i, d, e, w⟩ := h; ⟨i, w.mem⟩
/-- a frame's slots: what they hold as trees -/
structure Rep (G : Gt) (μ : List Md) (env : En) (σ : L2.St) (H : Hp) (N : Nat → List Addr) : Prop where
  len : env.length = σ.length
  rep : ∀ i d, env[i]? = some (some d) → ∃ v, σ[i]? = some (some v) ∧ Rp G H d v (N i)
  emp : ∀ i, (∀ d, env[i]? ≠ some (some d)) → N i = []
  uq : ∀ i d a, env[i]? = some (some d) → Own (mdAt μ i) d (N i) a → (N i).count a = 1 ∧ ∀ j, j ≠ i → a ∉ N j
  ex : ∀ x, G.xv = some x → σ[x.i]? = some (some (.ref x.a)) ∧ (x.fs = [] ∨ ∃ d ws, x.dd = some d ∧ H d = some (.xd ws) ∧ RpF G H x.fs ws [])
/-- no caught exception stands in slot i -/
def NoX (G : Gt) (i : Nat) : Prop := ∀ x, G.xv = some x → x.i ≠ i
section
variable {G : Gt} {μ : List Md} {env env' env'' : En} {σ : L2.St} {H H' H'' : Hp} {N N' N'' : Nat → List Addr}
theorem Rep.exK (R : Rep G μ env σ H N) {Wp : Addr → Prop} (k : Keeps H H' Wp) (m : ∀ a, Wp a → MutO (H a)) {σ' : L2.St} (e : ∀ x, G.xv = some x → σ'[x.i]? = σ[x.i]?) :
    ∀ x, G.xv = some x → σ'[x.i]? = some (some (.ref x.a)) ∧ (x.fs = [] ∨ ∃ d ws, x.dd = some d ∧ H' d = some (.xd ws) ∧ RpF G H' x.fs ws []) := fun x hx => by
  obtain ⟨h1, h2⟩ := R.ex x hx
  refine ⟨(e x hx).trans h1, ?_⟩
  rcases h2 with h2 | ⟨d, ws, h2, h3, h4⟩
  · exact .inl h2
  · exact .inr ⟨d, ws, h2, k _ _ h3 fun w => by have := m d w; rw [h3] at this; exact this, h4.keep k m (by simp)⟩
theorem Rep.mut (R : Rep G μ env σ H N) {a : Addr} (h : allS N a) : MutO (H a) := by
  obtain ⟨i, hi⟩ := h
  cases e : env[i]? with
  | none => rw [R.emp i (by simp [e])] at hi; cases hi
  | some o =>
    cases o with
    | none => rw [R.emp i (by simp [e])] at hi; cases hi
    | some d =>
      obtain ⟨v, _, r⟩ := R.rep i d e
      exact r.mut a hi
theorem Rep.there (R : Rep G μ env σ H N) {a : Addr} (h : allS N a) : H a ≠ none := fun z => by
  have := R.mut h
  rw [z] at this
  exact this
/-- a step of an expression: what it leaves -/
structure Stp (μ : List Md) (ro : Bool) (env : En) (H : Hp) (N : Nat → List Addr) (env' : En) (H' : Hp) (N' : Nat → List Addr) : Prop where
  keep : Keeps H H' (wrS μ env N)
  dom : ∀ a, H' a = none → H a = none
  own : ∀ a, ownS μ env' N' a → ownS μ env N a ∨ H a = none
  wr : ∀ a, wrS μ env' N' a → wrS μ env N a ∨ H a = none
  all : ∀ a, allS N' a → allS N a ∨ H a = none
  lock : ∀ i, (mdAt μ i).lock = true → env'[i]? = env[i]? ∧ N' i = N i
  ro : ro = true → env' = env ∧ N' = N ∧ ∀ a o, H a = some o → H' a = some o
theorem Stp.refl {ro : Bool} : Stp μ ro env H N env H N where
  keep := fun _ _ h _ => h
  dom := fun _ h => h
  own := fun _ h => Or.inl h
  wr := fun _ h => Or.inl h
  all := fun _ h => Or.inl h
  lock := fun _ _ => ⟨rfl, rfl⟩
  ro := fun _ => ⟨rfl, rfl, fun _ _ h => h⟩
theorem Stp.new {ro : Bool} (k : ∀ a o, H a = some o → H' a = some o) : Stp μ ro env H N env H' N where
  keep := fun a o h _ => k a o h
  dom := fun a h => by
    cases e : H a with
    | none => rfl
    | some o => rw [k a o e] at h; cases h
  own := fun _ h => Or.inl h
  wr := fun _ h => Or.inl h
  all := fun _ h => Or.inl h
  lock := fun _ _ => ⟨rfl, rfl⟩
  ro := fun _ => ⟨rfl, rfl, k⟩
theorem Stp.trans {r1 r2 : Bool} (a : Stp μ r1 env H N env' H' N') (b : Stp μ r2 env' H' N' env'' H'' N'') : Stp μ (r1 && r2) env H N env'' H'' N'' where
  keep := fun x o h w => b.keep x o (a.keep x o h w) fun w' => (a.wr x w').elim w fun z => by rw [z] at h; cases h
  dom := fun x h => a.dom x (b.dom x h)
  own := fun x h => (b.own x h).elim (a.own x) fun z => .inr (a.dom x z)
  wr := fun x h => (b.wr x h).elim (a.wr x) fun z => .inr (a.dom x z)
  all := fun x h => (b.all x h).elim (a.all x) fun z => .inr (a.dom x z)
  lock := fun i h => ⟨(b.lock i h).1.trans (a.lock i h).1, (b.lock i h).2.trans (a.lock i h).2⟩
  ro := fun h => by
    rw [Bool.and_eq_true] at h
    obtain ⟨e1, n1, k1⟩ := a.ro h.1
    obtain ⟨e2, n2, k2⟩ := b.ro h.2
    exact ⟨e2.trans e1, n2.trans n1, fun x o q => k2 x o (k1 x o q)⟩
theorem Stp.mono {r1 r2 : Bool} (a : Stp μ r1 env H N env' H' N') (h : r2 = true → r1 = true) : Stp μ r2 env H N env' H' N' := ⟨a.keep, a.dom, a.own, a.wr, a.all, a.lock, fun z => a.ro (h z)⟩
/-- a tree whose nodes no slot owns is kept -/
theorem Stp.rp {ro : Bool} {d : D} {v : V} {n : List Addr} (s : Stp μ ro env H N env' H' N') (R : Rep G μ env σ H N) (h : Rp G H d v n) (hn : ∀ a ∈ n, ¬ ownS μ env N a) : Rp G H' d v n :=
  h.keep s.keep (fun a w => R.mut w.own.all) fun a ha w => hn a ha w.own
theorem Stp.rpro {d : D} {v : V} {n : List Addr} (s : Stp μ true env H N env' H' N') (h : Rp G H d v n) : Rp G H' d v n :=
  h.keep (W := fun _ => False) (fun a o e _ => (s.ro rfl).2.2 a o e) (fun a w => w.elim) fun a ha w => w.elim
/-- what is known of a value that an expression gives -/
structure VOk (μ : List Md) (md : Md) (d : D) (n : List Addr) (env : En) (N : Nat → List Addr) (H : Hp) (env' : En) (N' : Nat → List Addr) : Prop where
  sub : ∀ a ∈ n, allS N a ∨ H a = none
  nown : md ≠ .al → ∀ a ∈ n, ¬ ownS μ env' N' a
  uq : ∀ a, Own md d n a → n.count a = 1 ∧ ¬ allS N' a
  osub : ∀ a, Own md d n a → wrS μ env N a ∨ H a = none
theorem VOk.nil {md : Md} {d : D} : VOk μ md d [] env N H env' N' := ⟨by simp, by simp, fun a h => absurd h.mem (by simp), fun a h => absurd h.mem (by simp)⟩
end
/-- nothing mutable in it but itself -/
def D.flat : D → Bool
  | .lst xs => pureL xs
  | .dct _ kvs => pureL (kvs.map (·.2))
  | _ => false
def pureF (fs : List (Str × D)) : Bool := pureL (fs.map (·.2))
theorem RpP.pure {G : Gt} {H : Hp} : ∀ {kvs : List (D × D)} {ws : List V} {n : List Addr}, pureL (kvs.map (·.2)) = true → RpP G H kvs ws n → n = []
  | [], _, _, _, h => by simp only [RpP] at h; exact h.2
  | (_, d) :: r, _, _, p, h => by
    simp only [List.map_cons, pureL, Bool.and_eq_true] at p
    simp only [RpP] at h
    obtain ⟨v, vs', n1, n2, _, h1, h2, rfl⟩ := h
    rw [Rp.pure p.1 h1, RpP.pure p.2 h2]
    rfl
theorem RpF.pure {G : Gt} {H : Hp} : ∀ {fs : List (Str × D)} {ws : List (Str × V)} {n : List Addr}, pureF fs = true → RpF G H fs ws n → n = []
  | [], _, _, _, h => by simp only [RpF] at h; exact h.2
  | (_, d) :: r, _, _, p, h => by
    simp only [pureF, List.map_cons, pureL, Bool.and_eq_true] at p
    simp only [RpF] at h
    obtain ⟨v, vs', n1, n2, _, h1, h2, rfl⟩ := h
    rw [Rp.pure p.1 h1, RpF.pure p.2 h2]
    rfl
theorem D.flat_one {G : Gt} {H : Hp} {d : D} {v : V} {n : List Addr} (p : d.flat = true) (h : Rp G H d v n) : ∃ a, n = [a] ∧ d.isMut = true := by
  cases d <;> simp [D.flat] at p
  · simp only [Rp] at h
    obtain ⟨a, vs, m, _, _, h2, rfl⟩ := h
    exact ⟨a, by rw [h2.pure p], rfl⟩
  · simp only [Rp] at h
    obtain ⟨a, vs, m, _, _, h2, rfl⟩ := h
    exact ⟨a, by rw [RpP.pure (by simpa using p) h2], rfl⟩
end VS
/-! VS: expressions. A meaning is a function from a frame's trees to a result. -/
namespace L2
open PySem PySem.Spec PyProof.Rows
section
variable {X : Cx}
theorem PE.imp {e : Expr} {t t' : TE} (h : PE X e t) (i : ∀ σ H Q, t' σ H Q → t σ H Q) : PE X e t' := ⟨fun pins s σ H Q I q => h.run pins s σ H Q I (i σ H Q q)⟩
theorem PT.imp {e : Expr} {t t' : TT} (h : PT X e t) (i : ∀ σ H Q, t' σ H Q → t σ H Q) : PT X e t' := ⟨fun pins s σ H Q I q => h.run pins s σ H Q I (i σ H Q q)⟩
theorem PA.imp {e : List Expr} {t t' : TA} (h : PA X e t) (i : ∀ σ H Q, t' σ H Q → t σ H Q) : PA X e t' := ⟨fun pos pins s σ H Q I q => h.run pos pins s σ H Q I (i σ H Q q)⟩
end
end L2
namespace VS
open PySem PySem.Spec PyProof.Rows L2
structure Exn where
  c : Str
  fs : List (Str × D)
inductive Rt (α : Type) where
  | ok (a : α) (e : En) | exc (x : Exn) (e : En) | bad
abbrev EM := En → Rt D
abbrev BM := En → Rt Bool
abbrev AM := En → Rt (List D)
def Rt.bind {α β : Type} (r : Rt α) (f : α → En → Rt β) : Rt β := match r with
  | .ok a e => f a e
  | .exc x e => .exc x e
  | .bad => .bad
@[simp] theorem Rt.bind_ok {α β : Type} (a : α) (e : En) (f : α → En → Rt β) : (Rt.ok a e).bind f = f a e := rfl
@[simp] theorem Rt.bind_exc {α β : Type} (x : Exn) (e : En) (f : α → En → Rt β) : (Rt.exc x e : Rt α).bind f = .exc x e := rfl
@[simp] theorem Rt.bind_bad {α β : Type} (f : α → En → Rt β) : (Rt.bad : Rt α).bind f = .bad := rfl
/-- an exception's tree -/
def ExR (G : Gt) (H : Hp) (x : Exn) (cls : Value) (dx : Option Addr) (n : List Addr) : Prop :=
  ∃ C, G.mg x.c = some (.ref C) ∧ cls = .ref C ∧ ((x.fs = [] ∧ n = [] ∧ dx = none) ∨ ∃ a ws, x.fs ≠ [] ∧ dx = some a ∧ H a = some (.xd ws) ∧ RpF G H x.fs ws n)
/-- what an exception that leaves is to find -/
def XQ (G : Gt) (μ : List Md) (W : WX) (env : En) (N : Nat → List Addr) (σ : L2.St) (H : Hp) (x : Exn) (env' : En) : Prop :=
  ∀ cls dx H' N' n, Rep G μ env' σ H' N' → Stp μ false env H N env' H' N' → ExR G H' x cls dx n → (∀ a ∈ n, ¬ ownS μ env' N' a) → (∀ a ∈ n, allS N a ∨ H a = none) → W cls dx σ H'
def EQ (G : Gt) (μ : List Md) (W : WX) (ro : Bool) (md : Md) (env : En) (N : Nat → List Addr) (σ : L2.St) (H : Hp) (Q : VK) : Rt D → Prop
  | .ok d env' => ∀ v H' N' n, Rep G μ env' σ H' N' → Stp μ ro env H N env' H' N' → Rp G H' d v n → VOk μ md d n env N H env' N' → Q v H'
  | .exc x env' => XQ G μ W env N σ H x env'
  | .bad => False
def tE (G : Gt) (μ : List Md) (W : WX) (ro : Bool) (md : Md) (m : EM) : TE := fun σ H Q => ∃ env N, Rep G μ env σ H N ∧ EQ G μ W ro md env N σ H Q (m env)
def BQ (G : Gt) (μ : List Md) (W : WX) (ro : Bool) (env : En) (N : Nat → List Addr) (σ : L2.St) (H : Hp) (Q : Bool → Hp → Prop) : Rt Bool → Prop
  | .ok b env' => ∀ H' N', Rep G μ env' σ H' N' → Stp μ ro env H N env' H' N' → Q b H'
  | .exc x env' => XQ G μ W env N σ H x env'
  | .bad => False
def tB (G : Gt) (μ : List Md) (W : WX) (ro : Bool) (m : BM) : TT := fun σ H Q => ∃ env N, Rep G μ env σ H N ∧ BQ G μ W ro env N σ H Q (m env)
/-- what is known of an argument list -/
structure AOk (μ : List Md) (al : Bool) (n : List Addr) (env : En) (N : Nat → List Addr) (H : Hp) (env' : En) (N' : Nat → List Addr) : Prop where
  sub : ∀ a ∈ n, allS N a ∨ H a = none
  nown : al = false → ∀ a ∈ n, ¬ ownS μ env' N' a
def AQ (G : Gt) (μ : List Md) (W : WX) (ro al : Bool) (env : En) (N : Nat → List Addr) (σ : L2.St) (H : Hp) (Q : List V → Hp → Prop) : Rt (List D) → Prop
  | .ok ds env' => ∀ vs H' N' n, Rep G μ env' σ H' N' → Stp μ ro env H N env' H' N' → RpL G H' ds vs n → AOk μ al n env N H env' N' → Q vs H'
  | .exc x env' => XQ G μ W env N σ H x env'
  | .bad => False
def tA (G : Gt) (μ : List Md) (W : WX) (ro al : Bool) (m : AM) : TA := fun σ H Q => ∃ env N, Rep G μ env σ H N ∧ AQ G μ W ro al env N σ H Q (m env)
abbrev XV := Option XI
abbrev gx (X : Cx) (xv : XV) : Gt := ⟨X.K, X.mg, xv⟩
abbrev xv0 : XV := none
structure PEV (X : Cx) (xv : XV) (μ : List Md) (W : WX) (e : Expr) (ro : Bool) (md : Md) (m : EM) : Prop where
  pe : PE X e (tE (gx X xv) μ W ro md m)
  rok : ro = true → ∀ env d e', m env = .ok d e' → e' = env
structure PTV (X : Cx) (xv : XV) (μ : List Md) (W : WX) (e : Expr) (ro : Bool) (m : BM) : Prop where
  pt : PT X e (tB (gx X xv) μ W ro m)
  rok : ro = true → ∀ env d e', m env = .ok d e' → e' = env
structure PAV (X : Cx) (xv : XV) (μ : List Md) (W : WX) (es : List Expr) (ro al : Bool) (m : AM) : Prop where
  pa : PA X es (tA (gx X xv) μ W ro al m)
  rok : ro = true → ∀ env d e', m env = .ok d e' → e' = env
section
variable {G : Gt} {μ : List Md} {env env' env'' : En} {σ : L2.St} {H H' H'' : Hp} {N N' N'' : Nat → List Addr} {W : WX}
/-- new objects leave a frame's trees -/
theorem Rep.ext (R : Rep G μ env σ H N) (k : ∀ a o, H a = some o → H' a = some o) : Rep G μ env σ H' N := by
  refine ⟨R.len, fun i d e => ?_, R.emp, R.uq, R.exK (Wp := fun _ => False) (fun a o e _ => k a o e) (fun a w => w.elim) fun _ _ => rfl⟩
  obtain ⟨v, h1, h2⟩ := R.rep i d e
  exact ⟨v, h1, h2.keep (W := fun _ => False) (fun a o e _ => k a o e) (fun a w => w.elim) fun a ha w => w.elim⟩
theorem Rp.ext {d : D} {v : V} {n : List Addr} (h : Rp G H d v n) (k : ∀ a o, H a = some o → H' a = some o) : Rp G H' d v n :=
  h.keep (W := fun _ => False) (fun a o e _ => k a o e) (fun a w => w.elim) fun a ha w => w.elim
theorem RpL.ext {d : List D} {v : List V} {n : List Addr} (h : RpL G H d v n) (k : ∀ a o, H a = some o → H' a = some o) : RpL G H' d v n :=
  h.keep (W := fun _ => False) (fun a o e _ => k a o e) (fun a w => w.elim) fun a ha w => w.elim
theorem RpF.ext {d : List (Str × D)} {v : List (Str × V)} {n : List Addr} (h : RpF G H d v n) (k : ∀ a o, H a = some o → H' a = some o) : RpF G H' d v n :=
  h.keep (W := fun _ => False) (fun a o e _ => k a o e) (fun a w => w.elim) fun a ha w => w.elim
theorem XQ.pre {ro : Bool} {x : Exn} {e2 : En} (S : Stp μ ro env H N env' H' N') (q : XQ G μ W env N σ H x e2) : XQ G μ W env' N' σ H' x e2 := fun cls dx H2 N2 n R2 S2 ex hn hs =>
  q cls dx H2 N2 n R2 ((S.trans S2).mono (by simp)) ex hn fun a ha => (hs a ha).elim (S.all a) fun z => .inr (S.dom a z)
end
theorem Own.noA {d : D} {n : List Addr} {a : Addr} : ¬ Own .al d n a := fun w => by rcases w with w | w <;> cases w.1
theorem Own.noS {d : D} {n : List Addr} {a : Addr} : ¬ Own .s d n a := fun w => by rcases w with w | w <;> cases w.1
/-! ### names, constants -/
def mVar (i : Nat) : EM := fun env => match env[i]? with
  | some (some d) => .ok d env
  | _ => .bad
def mC (d : D) : EM := fun env => .ok d env
section
variable {X : Cx} {xv : XV} {μ : List Md} {W : WX} {pos : Pos}
theorem mVar_ro (i : Nat) : ∀ env d e', mVar i env = .ok d e' → e' = env := fun env d e' h => by
  unfold mVar at h
  split at h
  · cases h; rfl
  · cases h
/-- a name, read; it may share with an owned slot -/
theorem v_nameA {i : Nat} {x : Str} (h : PE X (.Name x pos) (tVar i)) : PEV X xv μ W (.Name x pos) true .al (mVar i) := by
  refine ⟨h.imp fun σ H Q ⟨env, N, R, q⟩ => ?_, fun _ => mVar_ro i⟩
  unfold mVar at q
  split at q
  · rename_i d e
    obtain ⟨v, h1, h2⟩ := R.rep i d e
    exact ⟨v, h1, q v H N (N i) R .refl h2 ⟨fun a ha => .inl ⟨i, ha⟩, fun z => absurd rfl z, fun a w => absurd w Own.noA, fun a w => absurd w Own.noA⟩⟩
  · exact q.elim
/-- a name that owns nothing -/
theorem v_name {i : Nat} {x : Str} (h : PE X (.Name x pos) (tVar i)) (hm : mdAt μ i = .s := by rfl) : PEV X xv μ W (.Name x pos) true .s (mVar i) := by
  refine ⟨h.imp fun σ H Q ⟨env, N, R, q⟩ => ?_, fun _ => mVar_ro i⟩
  unfold mVar at q
  split at q
  · rename_i d e
    obtain ⟨v, h1, h2⟩ := R.rep i d e
    refine ⟨v, h1, q v H N (N i) R .refl h2 ⟨fun a ha => .inl ⟨i, ha⟩, fun _ a ha w => ?_, fun a w => absurd w Own.noS, fun a w => absurd w Own.noS⟩⟩
    obtain ⟨j, d', e', o⟩ := w
    by_cases hj : i = j
    · subst hj
      rw [hm] at o
      rcases o with o | o <;> cases o.1
    · exact (R.uq j d' a e' o).2 i hj ha
  · exact q.elim
theorem v_pure {v : V} {d : D} {e : Expr} {md : Md} (h : PE X e (tC v)) (r : ∀ H, Rp (gx X xv) H d v []) : PEV X xv μ W e true md (mC d) := by
  refine ⟨h.imp fun σ H Q ⟨env, N, R, q⟩ => ?_, fun _ env d e' h => by cases h; rfl⟩
  exact q v H N [] R .refl (r H) .nil
theorem v_int {i : Int} {j : Nat} {md : Md} : PEV X xv μ W (.Constant (.int i) j pos) true md (mC (.int i)) := v_pure pe_int fun _ => by simp [Rp]
theorem v_bl {b : Bool} {j : Nat} {md : Md} : PEV X xv μ W (.Constant (.bool b) j pos) true md (mC (.bl b)) := v_pure pe_bl fun _ => by simp [Rp]
theorem v_non {j : Nat} {md : Md} : PEV X xv μ W (.Constant .none j pos) true md (mC .non) := v_pure pe_non fun _ => by simp [Rp]
theorem v_str {x : Str} {j : Nat} {md : Md} : PEV X xv μ W (.Constant (.str x) j pos) true md (mC (.str x)) := v_pure pe_str fun _ => by simp [Rp]
/-- a built-in type as a value -/
theorem v_ty {x : Str} {n : String} {md : Md} (hg : Gl X x) (hm : X.mg x = none) (hv : bootBuiltins x = some (.type n)) (hn : x ≠ "__name__" := by decide) (hd : (x == ("__debug__" : Str)) = false := by decide) : PEV X xv μ W (.Name x pos) true md (mC (.ty n)) :=
  v_pure (v := .ty n) (pe_bltn hg hm hv rfl hn hd) fun _ => by simp [Rp]
/-- an own class as a value -/
theorem v_cls {x : Str} {a : Addr} {md : Md} (hg : Gl X x) (hm : X.mg x = some (.ref a)) (hd : (x == ("__debug__" : Str)) = false := by decide) : PEV X xv μ W (.Name x pos) true md (mC (.cls x)) :=
  v_pure (v := .ref a) (pe_glob hg hm rfl hd) fun _ => by simp [Rp, hm]
/-! ### weakenings -/
theorem v_roF {e : Expr} {ro : Bool} {md : Md} {m : EM} (h : PEV X xv μ W e ro md m) : PEV X xv μ W e false md m := by
  refine ⟨h.pe.imp fun σ H Q ⟨env, N, R, q⟩ => ⟨env, N, R, ?_⟩, fun z => by cases z⟩
  cases e : m env with
  | ok d env' => rw [e] at q; exact fun v H' N' n R' S r V => q v H' N' n R' (S.mono (by simp)) r V
  | exc x env' => rw [e] at q; exact q
  | bad => rw [e] at q; exact q
/-- the value has no mutable part: any mode -/
theorem v_up {e : Expr} {ro : Bool} {md md' : Md} {m : EM} (h : PEV X xv μ W e ro md m) (p : ∀ env d e', m env = .ok d e' → d.pure = true) : PEV X xv μ W e ro md' m := by
  refine ⟨h.pe.imp fun σ H Q ⟨env, N, R, q⟩ => ⟨env, N, R, ?_⟩, h.rok⟩
  cases e : m env with
  | ok d env' =>
    rw [e] at q
    intro v H' N' n R' S r V
    have z := r.pure (p _ _ _ e)
    subst z
    exact q v H' N' [] R' S r .nil
  | exc x env' => rw [e] at q; exact q
  | bad => rw [e] at q; exact q
/-- .. looked at -/
def mP2 (d : D) (env : En) : Rt D := if d.pure = true then .ok d env else .bad
def mP (m : EM) : EM := fun env => (m env).bind mP2
theorem v_chk {e : Expr} {ro : Bool} {md md' : Md} {m : EM} (h : PEV X xv μ W e ro md m) : PEV X xv μ W e ro md' (mP m) := by
  refine ⟨h.pe.imp fun σ H Q ⟨env, N, R, q⟩ => ⟨env, N, R, ?_⟩, fun z env d e' k => ?_⟩
  · unfold mP at q
    cases e : m env with
    | ok d env' =>
      rw [e] at q
      intro v H' N' n R' S r V
      simp only [Rt.bind_ok, mP2] at q
      split at q
      · rename_i p
        have z := r.pure p
        subst z
        exact q v H' N' [] R' S r .nil
      · exact q.elim
    | exc x env' => rw [e] at q; exact q
    | bad => rw [e] at q; exact q
  · unfold mP at k
    cases e : m env with
    | ok d1 env' =>
      rw [e] at k
      simp only [Rt.bind_ok, mP2] at k
      split at k
      · cases k; exact h.rok z _ _ _ e
      · cases k
    | exc x env' => rw [e] at k; cases k
    | bad => rw [e] at k; cases k
/-- a lower mode -/
def Md.le : Md → Md → Bool
  | .al, _ => true
  | .s, .s | .s, .r | .s, .d => true
  | .r, .r | .r, .d => true
  | .d, .d => true
  | _, _ => false
theorem Own.low {md md' : Md} {d : D} {n : List Addr} {a : Addr} (h : md.le md' = true) (o : Own md d n a) : Own md' d n a := by
  cases md <;> cases md' <;> simp [Md.le] at h <;> simp [Own, Md.isD, Md.isR] at o ⊢ <;> first | exact o | exact List.mem_of_mem_head? o.2
theorem v_le {e : Expr} {ro : Bool} {md md' : Md} {m : EM} (h : PEV X xv μ W e ro md m) (l : md'.le md = true) : PEV X xv μ W e ro md' m := by
  refine ⟨h.pe.imp fun σ H Q ⟨env, N, R, q⟩ => ⟨env, N, R, ?_⟩, h.rok⟩
  cases e : m env with
  | ok d env' =>
    rw [e] at q
    intro v H' N' n R' S r V
    refine q v H' N' n R' S r ⟨V.sub, fun z a ha => V.nown (fun y => z ?_) a ha, fun a o => V.uq a (o.low l), fun a o => V.osub a (o.low l)⟩
    subst y
    cases md' <;> simp [Md.le] at l
    rfl
  | exc x env' => rw [e] at q; exact q
  | bad => rw [e] at q; exact q
end
/-! ### operations on two values -/
def fin (chk : Bool) (o : Option D) (e : En) : Rt D := match o with
  | some d => if chk && !(d.pure || d.flat) then .bad else .ok d e
  | none => .bad
def mBin3 (chk : Bool) (g : D → D → Option D) (a b : D) (e : En) : Rt D := fin chk (g a b) e
def mBin2 (chk : Bool) (g : D → D → Option D) (m2 : EM) (a : D) (e : En) : Rt D := (m2 e).bind (mBin3 chk g a)
def mBin (chk : Bool) (g : D → D → Option D) (m1 m2 : EM) : EM := fun env => (m1 env).bind (mBin2 chk g m2)
/-- r does what g says -/
def OpS (G : Gt) (r : R2) (g : D → D → Option D) : Prop := ∀ H a b da db na nb d (Q : VK), Rp G H da a na → Rp G H db b nb → g da db = some d →
  (∀ v H' n, Rp G H' d v n → (∀ a o, H a = some o → H' a = some o) → (∀ x ∈ n, x ∈ na ∨ x ∈ nb ∨ H x = none) → (∀ x, Own .r d n x → n.count x = 1 ∧ H x = none) → Q v H') → r a b H Q
theorem OpS.sc {G : Gt} {r : R2} {g : D → D → Option D} (p : ∀ a b d, g a b = some d → d.pure = true)
    (h : ∀ H a b da db na nb d (Q : VK), Rp G H da a na → Rp G H db b nb → g da db = some d → (∀ v, Rp G H d v [] → Q v H) → r a b H Q) : OpS G r g := fun H a b da db na nb d Q ra rb e q =>
  h H a b da db na nb d Q ra rb e fun v rv => q v H [] rv (fun _ _ k => k) (fun x hx => by cases hx) fun x o => absurd o.mem (by simp)
section
variable {X : Cx} {xv : XV} {μ : List Md} {W : WX} {pos : Pos} {a b : Expr} {ro1 ro2 : Bool} {md1 md2 : Md} {m1 m2 : EM}
/-- the heart: two values one after the other, then an operation on them -/
theorem bin_core {r : R2} {g : D → D → Option D} (hs : OpS (gx X xv) r g) (h1 : ro1 = true → ∀ env d e', m1 env = .ok d e' → e' = env) (al : md1 = .al → ro2 = true) {chk : Bool} (hc : md1 = .al ∨ md2 = .al → chk = true) {σ : L2.St} {H : Hp} {Q : VK}
    (h : tE (gx X xv) μ W (ro1 && ro2) .r (mBin chk g m1 m2) σ H Q) : tOp r (tE (gx X xv) μ W ro1 md1 m1) (tE (gx X xv) μ W ro2 md2 m2) σ H Q := by
  obtain ⟨env, N, R0, q⟩ := h
  refine ⟨env, N, R0, ?_⟩
  unfold mBin at q
  cases e1 : m1 env with
  | bad => rw [e1] at q; exact q
  | exc x env1 => rw [e1] at q; exact q
  | ok da env1 =>
    rw [e1] at q
    simp only [Rt.bind_ok, mBin2] at q
    intro v1 H1 N1 n1 R1 S1 r1 V1
    refine ⟨env1, N1, R1, ?_⟩
    cases e2 : m2 env1 with
    | bad => rw [e2] at q; exact q
    | exc x env2 => rw [e2] at q; exact XQ.pre S1 q
    | ok db env2 =>
      rw [e2] at q
      simp only [Rt.bind_ok, mBin3, fin] at q
      intro v2 H2 N2 n2 R2 S2 r2 V2
      have S12 := S1.trans S2
      have r1' : Rp (gx X xv) H2 da v1 n1 := by
        by_cases z : md1 = .al
        · have := al z
          subst this
          exact S2.rpro r1
        · exact S2.rp R1 r1 (V1.nown z)
      cases eg : g da db with
      | none => rw [eg] at q; exact q.elim
      | some d =>
        rw [eg] at q
        refine hs H2 v1 v2 da db n1 n2 d Q r1' r2 eg fun v H3 n r3 k sub own => ?_
        have sub1 : ∀ x ∈ n, allS N x ∨ H x = none := fun x hx => by
          rcases sub x hx with z | z | z
          · exact V1.sub x z
          · exact (V2.sub x z).elim (S1.all x) fun y => .inr (S1.dom x y)
          · exact .inr (S12.dom x z)
        by_cases hp : d.pure = true
        · have hn := r3.pure hp
          subst hn
          simp only [hp, Bool.true_or, Bool.not_true, Bool.and_false, Bool.false_eq_true, if_false] at q
          exact q v H3 N2 [] (R2.ext k) ((S12.trans (Stp.new (ro := true) k)).mono (by simp)) r3 .nil
        · have hcf : chk = false ∨ d.flat = true := by
            cases chk with
            | false => exact .inl rfl
            | true =>
              cases hf : d.flat with
              | true => exact .inr rfl
              | false => simp only [hp, hf, Bool.or_self, Bool.not_false, Bool.and_self, if_true] at q; exact q.elim
          have q' : EQ (gx X xv) μ W (ro1 && ro2) .r env N σ H Q (.ok d env2) := by
            rcases hcf with rfl | hf
            · simp only [Bool.false_and, Bool.false_eq_true, if_false] at q; exact q
            · simp only [hf, Bool.or_true, Bool.not_true, Bool.and_false, Bool.false_eq_true, if_false] at q; exact q
          refine q' v H3 N2 n (R2.ext k) ((S12.trans (Stp.new (ro := true) k)).mono (by simp)) r3 ⟨sub1, fun _ x hx w => ?_, fun x o => ⟨(own x o).1, fun w => R2.there w (own x o).2⟩, fun x o => .inr (S12.dom x (own x o).2)⟩
          rcases hcf with rfl | hf
          · have z1 : md1 ≠ .al := fun z => by simpa using hc (.inl z)
            have z2 : md2 ≠ .al := fun z => by simpa using hc (.inr z)
            rcases sub x hx with z | z | z
            · rcases S2.own x w with y | y
              · exact V1.nown z1 x z y
              · exact r1.there z y
            · exact V2.nown z2 x z w
            · exact R2.there w.all z
          · obtain ⟨b, hb, hm⟩ := D.flat_one hf r3
            have ox : Own .r d n x := .inr ⟨rfl, hm, by rw [hb] at hx ⊢; simp only [List.mem_singleton] at hx; rw [hx]; rfl⟩
            exact R2.there w.all (own x ox).2
theorem mBin_ro {chk : Bool} {g : D → D → Option D} (h1 : ro1 = true → ∀ env d e', m1 env = .ok d e' → e' = env) (h2 : ro2 = true → ∀ env d e', m2 env = .ok d e' → e' = env) :
    (ro1 && ro2) = true → ∀ env d e', mBin chk g m1 m2 env = .ok d e' → e' = env := fun z env d e' k => by
  rw [Bool.and_eq_true] at z
  unfold mBin at k
  cases e1 : m1 env with
  | bad => rw [e1] at k; cases k
  | exc x env1 => rw [e1] at k; cases k
  | ok da env1 =>
    rw [e1] at k
    simp only [Rt.bind_ok, mBin2] at k
    cases e2 : m2 env1 with
    | bad => rw [e2] at k; cases k
    | exc x env2 => rw [e2] at k; cases k
    | ok db env2 =>
      rw [e2] at k
      simp only [Rt.bind_ok, mBin3, fin] at k
      have q1 := h1 z.1 _ _ _ e1
      have q2 := h2 z.2 _ _ _ e2
      split at k
      · split at k
        · cases k
        · cases k; exact q2.trans q1
      · cases k
theorem v_bin {op : Operator} {r : R2} {g : D → D → Option D} (ho : OpR X (binaryOp op) r) (hs : OpS (gx X xv) r g) (h1 : PEV X xv μ W a ro1 md1 m1) (h2 : PEV X xv μ W b ro2 md2 m2) (chk : Bool)
    (al : md1 = .al → ro2 = true := by decide) (hc : md1 = .al ∨ md2 = .al → chk = true := by decide) : PEV X xv μ W (.BinOp a op b pos) (ro1 && ro2) .r (mBin chk g m1 m2) :=
  ⟨PE.imp (pe_op ho h1.pe h2.pe) fun σ H Q q => bin_core hs h1.rok al hc q, mBin_ro h1.rok h2.rok⟩
theorem v_cmp {op : CmpOp} {r : R2} {g : D → D → Option D} (ho : OpR X (compareOp op) r) (hs : OpS (gx X xv) r g) (h1 : PEV X xv μ W a ro1 md1 m1) (h2 : PEV X xv μ W b ro2 md2 m2) (hm : behindInMarks op b = false) (p : ∀ a b d, g a b = some d → d.pure = true) {md : Md}
    (al : md1 = .al → ro2 = true := by decide) : PEV X xv μ W (.Compare a [op] [b] pos) (ro1 && ro2) md (mBin false g m1 m2) := by
  have e : mBin false g m1 m2 = mBin true g m1 m2 := by
    funext env
    unfold mBin mBin2 mBin3 fin
    cases m1 env with
    | bad => rfl
    | exc x e => rfl
    | ok da e1 =>
      simp only [Rt.bind_ok]
      cases m2 e1 with
      | bad => rfl
      | exc x e => rfl
      | ok db e2 =>
        simp only [Rt.bind_ok]
        cases eg : g da db with
        | none => rfl
        | some d => simp [p _ _ _ eg]
  rw [e]
  refine v_up (md := .r) ⟨PE.imp (pe_cmpR ho h1.pe h2.pe hm) fun σ H Q q => bin_core hs h1.rok al (fun _ => rfl) q, mBin_ro h1.rok h2.rok⟩ fun env d e' k => ?_
  rw [← e] at k
  unfold mBin mBin2 mBin3 fin at k
  cases e1 : m1 env with
  | bad => rw [e1] at k; cases k
  | exc x e => rw [e1] at k; cases k
  | ok da e1' =>
    rw [e1] at k
    simp only [Rt.bind_ok] at k
    cases e2 : m2 e1' with
    | bad => rw [e2] at k; cases k
    | exc x e => rw [e2] at k; cases k
    | ok db e2' =>
      rw [e2] at k
      simp only [Rt.bind_ok, Bool.false_and, Bool.false_eq_true, if_false] at k
      cases eg : g da db with
      | none => rw [eg] at k; cases k
      | some d' => rw [eg] at k; cases k; exact p _ _ _ eg
end
end VS
/-! VS: dicts by their keys. -/
namespace VS
open PySem PySem.Spec PyProof.Rows L2
def atomEq : D → D → Bool
  | .int i, .int j => i == j
  | .str a, .str b => a == b
  | _, _ => false
def keqL : List D → List D → Bool
  | [], [] => true
  | x :: xs, y :: ys => atomEq x y && keqL xs ys
  | _, _ => false
def keq : D → D → Bool
  | .tup xs, .tup ys => keqL xs ys
  | a, b => atomEq a b
def isAtom : D → Bool
  | .int _ | .str _ => true
  | _ => false
/-- a key of the dict's kind -/
def isKey (t : Bool) : D → Bool
  | .tup xs => t && xs.all isAtom
  | d => !t && isAtom d
def dGet (kvs : List (D × D)) (k : D) : Option D := (kvs.find? fun kv => keq kv.1 k).map (·.2)
def dHas (kvs : List (D × D)) (k : D) : Bool := kvs.any fun kv => keq kv.1 k
def dPut (kvs : List (D × D)) (k v : D) : List (D × D) := if dHas kvs k = true then kvs.map (fun kv => if keq kv.1 k = true then (kv.1, v) else kv) else kvs ++ [(k, v)]
theorem dHas_get {kvs : List (D × D)} {k : D} : dHas kvs k = (dGet kvs k).isSome := by
  unfold dHas dGet
  induction kvs with
  | nil => rfl
  | cons p r ih =>
    rw [List.any_cons, List.find?_cons]
    cases h : keq p.1 k with
    | true => simp
    | false => simpa using ih
theorem keq_kD {a b : Key} : keq (kD a) (kD b) = decide (a = b) := by
  cases a <;> cases b <;> simp [kD, keq, atomEq, Bool.beq_eq_decide_eq]
theorem atomEq_kD {a b : Key} : atomEq (kD a) (kD b) = decide (a = b) := by
  cases a <;> cases b <;> simp [kD, atomEq, Bool.beq_eq_decide_eq]
theorem keqL_kD : ∀ {a b : List Key}, keqL (a.map kD) (b.map kD) = decide (a = b)
  | [], [] => by simp [keqL]
  | [], _ :: _ => by simp [keqL]
  | _ :: _, [] => by simp [keqL]
  | x :: xs, y :: ys => by
    simp only [List.map_cons, keqL, atomEq_kD, keqL_kD (a := xs) (b := ys)]
    by_cases h1 : x = y <;> by_cases h2 : xs = ys <;> simp [h1, h2]
theorem keq_kT {a b : List Key} : keq (kT a) (kT b) = decide (a = b) := by
  simp only [kT, keq, keqL_kD]
theorem isAtom_kD {d : D} (h : isAtom d = true) : ∃ k, d = kD k := by
  cases d <;> simp [isAtom] at h
  · exact ⟨.inl _, rfl⟩
  · exact ⟨.inr _, rfl⟩
theorem atoms_kD : ∀ {xs : List D}, xs.all isAtom = true → ∃ ks : List Key, xs = ks.map kD
  | [], _ => ⟨[], rfl⟩
  | d :: r, h => by
    rw [List.all_cons, Bool.and_eq_true] at h
    obtain ⟨k, rfl⟩ := isAtom_kD h.1
    obtain ⟨ks, rfl⟩ := atoms_kD h.2
    exact ⟨k :: ks, rfl⟩
theorem isKey_F {d : D} (h : isKey false d = true) : ∃ k, d = kD k := by
  cases d <;> simp [isKey, isAtom] at h
  · exact ⟨.inl _, rfl⟩
  · exact ⟨.inr _, rfl⟩
theorem isKey_T {d : D} (h : isKey true d = true) : ∃ k, d = kT k := by
  cases d <;> simp [isKey] at h
  obtain ⟨ks, rfl⟩ := atoms_kD (List.all_eq_true.mpr h)
  exact ⟨ks, rfl⟩
theorem isKey_kD {k : Key} : isKey false (kD k) = true := by cases k <;> rfl
theorem isKey_kT {k : List Key} : isKey true (kT k) = true := by
  simp only [isKey, kT, Bool.true_and, List.all_eq_true, List.mem_map]
  rintro x ⟨a, _, rfl⟩
  cases a <;> rfl
section
variable {κ : Type} [DecidableEq κ] {f : κ → D} (hf : ∀ a b, keq (f a) (f b) = decide (a = b)) {G : Gt} {H : Hp}
include hf
theorem get_gen {k : κ} : ∀ {kvs : List (D × D)} {kk : List κ} {ws : List V} {n : List Addr}, RpP G H kvs ws n → kk.map f = kvs.map (·.1) →
    (∀ d, dGet kvs (f k) = some d → ∃ v m, valV (kk.zip ws) k = some v ∧ Rp G H d v m ∧ ∀ a ∈ m, a ∈ n) ∧ (dGet kvs (f k) = none → valV (kk.zip ws) k = none)
  | [], kk, ws, n, h, e => by
    have : kk = [] := by simpa using e
    subst this
    exact ⟨fun d z => by simp [dGet] at z, fun _ => rfl⟩
  | (q, d0) :: r, [], ws, n, h, e => by simp at e
  | (q, d0) :: r, a :: kk, ws, n, h, e => by
    simp only [List.map_cons, List.cons.injEq] at e
    obtain ⟨rfl, e⟩ := e
    simp only [RpP] at h
    obtain ⟨v, vs', n1, n2, rfl, h1, h2, rfl⟩ := h
    obtain ⟨g1, g2⟩ := get_gen (k := k) h2 e
    by_cases z : a = k
    · subst z
      have hd : dGet ((f a, d0) :: r) (f a) = some d0 := by simp [dGet, hf]
      rw [hd]
      refine ⟨fun d e => ?_, fun e => by cases e⟩
      cases e
      exact ⟨v, n1, valV_pos rfl, h1, fun x hx => by simp [hx]⟩
    · have hd : dGet ((f a, d0) :: r) (f k) = dGet r (f k) := by simp [dGet, hf, z]
      rw [hd, List.zip_cons_cons, valV_neg (by simpa using z)]
      exact ⟨fun d e => by
        obtain ⟨w, m, w1, w2, w3⟩ := g1 d e
        exact ⟨w, m, w1, w2, fun x hx => by simp [w3 x hx]⟩, g2⟩
theorem map_off {v : D} {k : κ} : ∀ {kvs : List (D × D)} {kk : List κ}, kk.map f = kvs.map (·.1) → k ∉ kk → kvs.map (fun kv => if keq kv.1 (f k) = true then (kv.1, v) else kv) = kvs
  | [], kk, _, _ => rfl
  | (q, d0) :: r, [], e, _ => by simp at e
  | (q, d0) :: r, a :: kk, e, hk => by
    simp only [List.map_cons, List.cons.injEq] at e
    obtain ⟨rfl, e⟩ := e
    simp only [List.mem_cons, not_or] at hk
    rw [List.map_cons, map_off e hk.2]
    have : keq (f a) (f k) = false := by rw [hf]; exact decide_eq_false fun z => hk.1 z.symm
    simp [this]
theorem mapK_off {v : V} {k : κ} : ∀ {kk : List κ} {ws : List V}, k ∉ kk → (kk.zip ws).map (fun kv => if kv.1 = k then (kv.1, v) else kv) = kk.zip ws
  | [], ws, _ => by simp
  | _ :: _, [], _ => by simp
  | a :: kk, w :: ws, hk => by
    simp only [List.mem_cons, not_or] at hk
    rw [List.zip_cons_cons, List.map_cons, mapK_off hk.2, if_neg fun z => hk.1 z.symm]
theorem put_in {y : D} {v : V} {m : List Addr} {k : κ} (ry : Rp G H y v m) : ∀ {kvs : List (D × D)} {kk : List κ} {ws : List V} {n : List Addr}, RpP G H kvs ws n → kk.map f = kvs.map (·.1) → kk.Nodup → k ∈ kk →
    ∃ ws' n', (kk.zip ws).map (fun kv => if kv.1 = k then (kv.1, v) else kv) = kk.zip ws' ∧ ws'.length = ws.length ∧ kk.map f = (kvs.map (fun kv => if keq kv.1 (f k) = true then (kv.1, y) else kv)).map (·.1) ∧
      RpP G H (kvs.map (fun kv => if keq kv.1 (f k) = true then (kv.1, y) else kv)) ws' n' ∧ ∀ x, n'.count x ≤ n.count x + m.count x
  | [], kk, ws, n, h, e, _, hk => by
    have : kk = [] := by simpa using e
    subst this
    cases hk
  | (q, d0) :: r, [], ws, n, h, e, _, hk => by cases hk
  | (q, d0) :: r, a :: kk, ws, n, h, e, nd, hk => by
    simp only [List.map_cons, List.cons.injEq] at e
    obtain ⟨rfl, e⟩ := e
    simp only [RpP] at h
    obtain ⟨w, vs', n1, n2, rfl, h1, h2, rfl⟩ := h
    rw [List.nodup_cons] at nd
    by_cases z : a = k
    · subst z
      have hk0 : keq (f a) (f a) = true := by rw [hf]; simp
      refine ⟨v :: vs', m ++ n2, ?_, by simp, ?_, ?_, fun x => by rw [List.count_append, List.count_append]; omega⟩
      · rw [List.zip_cons_cons, List.map_cons, mapK_off hf nd.1, List.zip_cons_cons]
        simp
      · have := map_off hf (v := y) e nd.1
        rw [List.map_cons, List.map_cons (l := r), this, List.map_cons]
        simp [hk0, e]
      · rw [List.map_cons, map_off hf e nd.1]
        simp only [hk0, if_true, RpP]
        exact ⟨v, vs', m, n2, rfl, ry, h2, rfl⟩
    · have hk0 : keq (f a) (f k) = false := by rw [hf]; exact decide_eq_false z
      obtain ⟨ws', n', g1, g2, g3, g4, g5⟩ := put_in ry h2 e nd.2 (by rcases List.mem_cons.mp hk with y | y; exact absurd y.symm z; exact y)
      refine ⟨w :: ws', n1 ++ n', ?_, by simp [g2], ?_, ?_, fun x => ?_⟩
      · rw [List.zip_cons_cons, List.map_cons, g1, List.zip_cons_cons, if_neg (by simpa using z)]
      · rw [List.map_cons, List.map_cons, List.map_cons, g3]
        simp [hk0]
      · rw [List.map_cons]
        simp only [hk0, Bool.false_eq_true, if_false, RpP]
        exact ⟨w, ws', n1, n', rfl, h1, g4, rfl⟩
      · have := g5 x
        rw [List.count_append, List.count_append]
        omega
theorem has_gen {k : κ} : ∀ {kvs : List (D × D)} {kk : List κ}, kk.map f = kvs.map (·.1) → (dHas kvs (f k) = true ↔ k ∈ kk)
  | [], kk, e => by
    have : kk = [] := by simpa using e
    subst this
    simp [dHas]
  | (q, d0) :: r, [], e => by simp at e
  | (q, d0) :: r, a :: kk, e => by
    simp only [List.map_cons, List.cons.injEq] at e
    obtain ⟨rfl, e⟩ := e
    have := has_gen (k := k) e
    simp only [dHas, List.any_cons, hf, Bool.or_eq_true, decide_eq_true_eq, List.mem_cons] at this ⊢
    rw [this]
    constructor
    · rintro (h | h)
      · exact .inl h.symm
      · exact .inr h
    · rintro (h | h)
      · exact .inl h.symm
      · exact .inr h
theorem anyK_gen {k : κ} : ∀ {kk : List κ} {ws : List V}, kk.length = ws.length → (((kk.zip ws).any fun kv => decide (kv.1 = k)) = true ↔ k ∈ kk)
  | [], ws, _ => by simp
  | _ :: _, [], h => by simp at h
  | a :: kk, w :: ws, h => by
    have := anyK_gen (k := k) (kk := kk) (ws := ws) (by simpa using h)
    simp only [List.zip_cons_cons, List.any_cons, Bool.or_eq_true, decide_eq_true_eq, List.mem_cons, this]
    constructor
    · rintro (h | h)
      · exact .inl h.symm
      · exact .inr h
    · rintro (h | h)
      · exact .inl h.symm
      · exact .inr h
theorem RpP.snoc {k y : D} {v : V} {m : List Addr} (ry : Rp G H y v m) : ∀ {kvs : List (D × D)} {ws : List V} {n : List Addr}, RpP G H kvs ws n → RpP G H (kvs ++ [(k, y)]) (ws ++ [v]) (n ++ m)
  | [], ws, n, h => by
    simp only [RpP] at h
    obtain ⟨rfl, rfl⟩ := h
    simp only [List.nil_append, RpP]
    exact ⟨v, [], m, [], rfl, ry, ⟨rfl, rfl⟩, by simp⟩
  | (q, d0) :: r, ws, n, h => by
    simp only [RpP] at h
    obtain ⟨w, vs', n1, n2, rfl, h1, h2, rfl⟩ := h
    simp only [List.cons_append, RpP]
    exact ⟨w, _, n1, n2 ++ m, rfl, h1, RpP.snoc ry h2, by simp⟩
theorem put_gen {y : D} {v : V} {m : List Addr} {k : κ} (ry : Rp G H y v m) {kvs : List (D × D)} {kk : List κ} {ws : List V} {n : List Addr} (h : RpP G H kvs ws n) (e : kk.map f = kvs.map (·.1)) (hl : kk.length = ws.length) (nd : kk.Nodup) :
    ∃ (kk' : List κ) (ws' : List V) (n' : List Addr), putK (kk.zip ws) k v = kk'.zip ws' ∧ kk'.map f = (dPut kvs (f k) y).map (·.1) ∧ kk'.length = ws'.length ∧ kk'.Nodup ∧ RpP G H (dPut kvs (f k) y) ws' n' ∧ ∀ x, n'.count x ≤ n.count x + m.count x := by
  by_cases hk : k ∈ kk
  · obtain ⟨ws', n', g1, g2, g3, g4, g5⟩ := put_in hf ry h e nd hk
    refine ⟨kk, ws', n', ?_, ?_, by rw [g2]; exact hl, nd, ?_, g5⟩
    · unfold putK
      rw [if_pos ((anyK_gen hf hl).mpr hk), g1]
    · unfold dPut
      rw [if_pos ((has_gen hf e).mpr hk)]
      exact g3
    · unfold dPut
      rw [if_pos ((has_gen hf e).mpr hk)]
      exact g4
  · have h1 : ¬ ((kk.zip ws).any fun kv => decide (kv.1 = k)) = true := fun z => hk ((anyK_gen hf hl).mp z)
    have h2 : ¬ dHas kvs (f k) = true := fun z => hk ((has_gen hf e).mp z)
    refine ⟨kk ++ [k], ws ++ [v], n ++ m, ?_, ?_, by simp [hl], ?_, ?_, fun x => by rw [List.count_append]; omega⟩
    · unfold putK
      rw [if_neg h1, List.zip_append hl]
      rfl
    · unfold dPut
      rw [if_neg h2, List.map_append, List.map_append, e]
      rfl
    · rw [List.nodup_append]
      refine ⟨nd, by simp, fun a ha b hb => ?_⟩
      rw [List.mem_singleton] at hb
      subst hb
      exact fun z => hk (z ▸ ha)
    · unfold dPut
      rw [if_neg h2]
      exact RpP.snoc hf ry h
end
/-- a key in the heap -/
theorem key_T {G : Gt} {H : Hp} : ∀ {ks : List Key} {vs : List V} {n : List Addr}, RpL G H (ks.map kD) vs n → vs = ks.map kV
  | [], vs, n, h => by simp only [List.map_nil, RpL] at h; exact h.1
  | k :: r, vs, n, h => by
    simp only [List.map_cons, RpL] at h
    obtain ⟨v, vs', n1, n2, rfl, h1, h2, _⟩ := h
    rw [key_T h2]
    cases k <;> simp only [kD, Rp] at h1 <;> rw [h1.1] <;> rfl
theorem key_F {G : Gt} {H : Hp} {k : Key} {v : V} {n : List Addr} (h : Rp G H (kD k) v n) : v = kV k := by
  cases k <;> simp only [kD, Rp] at h <;> rw [h.1] <;> rfl
theorem DGet.rk {H : Hp} {a : Addr} {kvs : List (Key × V)} {k : Key} (e : Rd H a (.dK kvs)) : DGet H a (kV k) (valV kvs k) := .inl ⟨kvs, k, e, rfl, rfl⟩
theorem DGet.rt {H : Hp} {a b : Addr} {kvs : List (List Key × V)} {k : List Key} (e : Rd H a (.dT kvs)) (eb : H b = some (.tup (k.map kV))) : DGet H a (.ref b) (valV kvs k) := .inr ⟨kvs, k, b, e, rfl, eb, rfl⟩
/-- d[k], by the trees -/
theorem dget_at {G : Gt} {H : Hp} {t : DK} {kvs : List (D × D)} {k : D} {a : Addr} {ws : List V} {m nk : List Addr} {vk : V} (hk : isKey t.t k = true) (h1 : DctAt t H a (kvs.map (·.1)) ws) (h2 : RpP G H kvs ws m) (rk : Rp G H k vk nk) :
    (∀ d, dGet kvs k = some d → ∃ v n, DGet H a vk (some v) ∧ Rp G H d v n ∧ ∀ x ∈ n, x ∈ m) ∧ (∃ o, DGet H a vk o ∧ o.isSome = (dGet kvs k).isSome) := by
  rcases h1 with ⟨t0, kk, e, l, nd, h1⟩ | ⟨t0, kk, e, l, nd, h1⟩ <;> rw [t0] at hk
  · obtain ⟨k, rfl⟩ := isKey_F hk
    have := key_F rk
    subst this
    obtain ⟨g1, g2⟩ := get_gen (fun a b => keq_kD) (k := k) h2 e
    refine ⟨fun d hd => ?_, ?_⟩
    · obtain ⟨v, n, w1, w2, w3⟩ := g1 d hd
      exact ⟨v, n, by rw [← w1]; exact DGet.rk h1.rd, w2, w3⟩
    · refine ⟨_, DGet.rk h1.rd, ?_⟩
      cases hd : dGet kvs (kD k) with
      | none => rw [g2 hd]; rfl
      | some d => obtain ⟨v, n, w1, _⟩ := g1 d hd; rw [w1]; rfl
  · obtain ⟨k, rfl⟩ := isKey_T hk
    simp only [kT, Rp] at rk
    obtain ⟨b, vs, rfl, hb, rl⟩ := rk
    have := key_T rl
    subst this
    obtain ⟨g1, g2⟩ := get_gen (fun a b => keq_kT) (k := k) h2 e
    refine ⟨fun d hd => ?_, ?_⟩
    · obtain ⟨v, n, w1, w2, w3⟩ := g1 d hd
      exact ⟨v, n, by rw [← w1]; exact DGet.rt h1.rd hb, w2, w3⟩
    · refine ⟨_, DGet.rt h1.rd hb, ?_⟩
      cases hd : dGet kvs (kT k) with
      | none => show (valV _ k).isSome = _; rw [g2 hd]; rfl
      | some d => obtain ⟨v, n, w1, _⟩ := g1 d hd; rw [w1]; rfl
/-- d[k] = y, by the trees -/
theorem dput_at {G : Gt} {H : Hp} {t : DK} {kvs : List (D × D)} {k y : D} {a : Addr} {ws : List V} {m nk my : List Addr} {vk vy : V} (hk : isKey t.t k = true) (hf : t.f = false) (hz : kvs.length < sizeLine) (h1 : DctAt t H a (kvs.map (·.1)) ws) (h2 : RpP G H kvs ws m) (rk : Rp G H k vk nk) (ry : Rp G H y vy my) :
    ∃ u ws' m', DPut H a vk vy (upd H a u) ∧ DctAt t (upd H a u) a ((dPut kvs k y).map (·.1)) ws' ∧ RpP G H (dPut kvs k y) ws' m' ∧ (∀ x, m'.count x ≤ m.count x + my.count x) := by
  have hlen := h2.len
  rcases h1 with ⟨t0, kk, e, l, nd, h1⟩ | ⟨t0, kk, e, l, nd, h1⟩ <;> rw [t0] at hk
  · obtain ⟨k, rfl⟩ := isKey_F hk
    have := key_F rk
    subst this
    obtain ⟨kk', ws', n', g1, g2, g3, g4, g5, g6⟩ := put_gen (fun a b => keq_kD) (k := k) ry h2 e l nd
    refine ⟨_, ws', n', DPut.k (h1.un hf) (by rw [List.length_zip, l]; simp; omega), .inl ⟨t0, kk', g2, g3, g4, .inl ⟨hf, ?_⟩⟩, g5, g6⟩
    rw [upd_same, g1]
  · obtain ⟨k, rfl⟩ := isKey_T hk
    simp only [kT, Rp] at rk
    obtain ⟨b, vs, rfl, hb, rl⟩ := rk
    have := key_T rl
    subst this
    obtain ⟨kk', ws', n', g1, g2, g3, g4, g5, g6⟩ := put_gen (fun a b => keq_kT) (k := k) ry h2 e l nd
    refine ⟨_, ws', n', DPut.t (h1.un hf) hb (by rw [List.length_zip, l]; simp; omega), .inr ⟨t0, kk', g2, g3, g4, .inl ⟨hf, ?_⟩⟩, g5, g6⟩
    rw [upd_same, g1]
end VS
/-! VS: what the operators say of trees. -/
namespace VS
open PySem PySem.Spec PyProof.Rows L2
/-! ### comparable data -/
mutual
def D.dat : D → Bool
  | .non | .bl _ | .int _ => true
  | .str s => PyData.strOk s
  | .tup xs | .lst xs => datL xs
  | _ => false
def datL : List D → Bool
  | [] => true
  | d :: r => d.dat && datL r
end
mutual
def D.toP : D → PyData
  | .bl b => .bool b
  | .int i => .int i
  | .str s => .str s
  | .tup xs => .tuple (toPL xs)
  | .lst xs => .list (toPL xs)
  | _ => .none
def toPL : List D → List PyData
  | [] => []
  | d :: r => d.toP :: toPL r
end
mutual
def D.dep : D → Nat
  | .tup xs | .lst xs => depL xs + 1
  | _ => 0
def depL : List D → Nat
  | [] => 0
  | d :: r => max d.dep (depL r)
end
mutual
/-- == -/
def D.eqv : D → D → Bool
  | .non, .non => true
  | .bl a, .bl b => a == b
  | .bl a, .int j => (if a then 1 else 0) == j
  | .int i, .bl b => i == (if b then 1 else 0)
  | .int i, .int j => i == j
  | .str x, .str y => x == y
  | .lst xs, .lst ys => eqvL xs ys
  | .tup xs, .tup ys => eqvL xs ys
  | _, _ => false
def eqvL : List D → List D → Bool
  | [], [] => true
  | x :: xs, y :: ys => D.eqv x y && eqvL xs ys
  | _, _ => false
end
theorem datL_iff : ∀ {xs : List D}, datL xs = true ↔ ∀ d ∈ xs, d.dat = true
  | [] => by simp [datL]
  | d :: r => by simp [datL, datL_iff (xs := r)]
mutual
theorem D.eqv_toP : ∀ {a b : D}, a.dat = true → b.dat = true → PyData.eqv a.toP b.toP = a.eqv b
  | .non, b, _, h => by cases b <;> simp_all [D.toP, D.eqv, PyData.eqv, D.dat]
  | .bl _, b, _, h => by cases b <;> simp_all [D.toP, D.eqv, PyData.eqv, D.dat]
  | .int _, b, _, h => by cases b <;> simp_all [D.toP, D.eqv, PyData.eqv, D.dat]
  | .str _, b, _, h => by cases b <;> simp_all [D.toP, D.eqv, PyData.eqv, D.dat]
  | .tup xs, .tup ys, h, h' => by
    simp only [D.toP, D.eqv, PyData.eqv]
    exact eqvL_toP (by simpa only [D.dat] using h) (by simpa only [D.dat] using h')
  | .lst xs, .lst ys, h, h' => by
    simp only [D.toP, D.eqv, PyData.eqv]
    exact eqvL_toP (by simpa only [D.dat] using h) (by simpa only [D.dat] using h')
  | .tup xs, .non, _, _ | .tup xs, .bl _, _, _ | .tup xs, .int _, _, _ | .tup xs, .str _, _, _ | .tup xs, .lst _, _, _ => by simp [D.toP, D.eqv, PyData.eqv]
  | .lst xs, .non, _, _ | .lst xs, .bl _, _, _ | .lst xs, .int _, _, _ | .lst xs, .str _, _, _ | .lst xs, .tup _, _, _ => by simp [D.toP, D.eqv, PyData.eqv]
  | .tup _, .ty _, _, h | .tup _, .cls _, _, h | .tup _, .dct _ _, _, h | .tup _, .obj _ _, _, h | .tup _, .scr _, _, h => by simp [D.dat] at h
  | .lst _, .ty _, _, h | .lst _, .cls _, _, h | .lst _, .dct _ _, _, h | .lst _, .obj _ _, _, h | .lst _, .scr _, _, h => by simp [D.dat] at h
  | .ty _, _, h, _ | .cls _, _, h, _ | .dct _ _, _, h, _ | .obj _ _, _, h, _ | .scr _, _, h, _ => by simp [D.dat] at h
theorem eqvL_toP : ∀ {a b : List D}, datL a = true → datL b = true → PyData.eqvAll (toPL a) (toPL b) = eqvL a b
  | [], [], _, _ => by simp [toPL, eqvL, PyData.eqvAll]
  | [], _ :: _, _, _ => by simp [toPL, eqvL, PyData.eqvAll]
  | _ :: _, [], _, _ => by simp [toPL, eqvL, PyData.eqvAll]
  | x :: xs, y :: ys, h, h' => by
    simp only [datL, Bool.and_eq_true] at h h'
    simp only [toPL, eqvL, PyData.eqvAll]
    rw [D.eqv_toP h.1 h'.1, eqvL_toP h.2 h'.2]
end
mutual
theorem D.canLay : ∀ {a : D}, a.dat = true → a.toP.canLay0 = true
  | .non, _ | .bl _, _ | .int _, _ => by simp [D.toP, PyData.canLay0]
  | .str _, h => by simpa [D.toP, PyData.canLay0, D.dat] using h
  | .tup xs, h => by simp only [D.toP, PyData.canLay0]; exact canLayL (by simpa only [D.dat] using h)
  | .lst xs, h => by simp only [D.toP, PyData.canLay0]; exact canLayL (by simpa only [D.dat] using h)
  | .ty _, h | .cls _, h | .dct _ _, h | .obj _ _, h | .scr _, h => by simp [D.dat] at h
theorem canLayL : ∀ {a : List D}, datL a = true → PyData.canLayAll0 (toPL a) = true
  | [], _ => by simp [toPL, PyData.canLayAll0]
  | x :: xs, h => by
    simp only [datL, Bool.and_eq_true] at h
    simp only [toPL, PyData.canLayAll0, Bool.and_eq_true]
    exact ⟨D.canLay h.1, canLayL h.2⟩
end
mutual
theorem D.dep_toP : ∀ (a : D), a.toP.depth = a.dep
  | .non | .bl _ | .int _ | .str _ | .ty _ | .cls _ | .dct _ _ | .obj _ _ | .scr _ => by simp [D.toP, PyData.depth, D.dep]
  | .tup xs => by simp only [D.toP, PyData.depth, D.dep]; rw [depL_toP]
  | .lst xs => by simp only [D.toP, PyData.depth, D.dep]; rw [depL_toP]
theorem depL_toP : ∀ (a : List D), PyData.depthAll (toPL a) = depL a
  | [] => by simp [toPL, PyData.depthAll, depL]
  | x :: xs => by simp only [toPL, PyData.depthAll, depL]; rw [D.dep_toP, depL_toP]
end
section
variable {G : Gt} {H : Hp}
mutual
theorem Rp.dp : ∀ {d : D} {v : V} {n : List Addr}, d.dat = true → Rp G H d v n → Dp G.K H v d.toP
  | .non, _, _, _, h => by simp only [Rp] at h; rw [h.1]; exact .non
  | .bl b, _, _, _, h => by simp only [Rp] at h; rw [h.1]; exact .bl b
  | .int i, _, _, _, h => by simp only [Rp] at h; rw [h.1]; exact .int i
  | .str s, _, _, _, h => by simp only [Rp] at h; rw [h.1]; exact .str s
  | .tup ds, _, _, p, h => by
    simp only [Rp] at h
    obtain ⟨a, vs, rfl, h1, h2⟩ := h
    exact .tup (SqT.of h1) (RpL.dp (by simpa only [D.dat] using p) h2)
  | .lst ds, _, _, p, h => by
    simp only [Rp] at h
    obtain ⟨a, vs, m, rfl, h1, h2, _⟩ := h
    exact .lst (SqL.of h1) (RpL.dp (by simpa only [D.dat] using p) h2)
  | .ty _, _, _, p, _ | .cls _, _, _, p, _ | .dct _ _, _, _, p, _ | .obj _ _, _, _, p, _ | .scr _, _, _, p, _ => by simp [D.dat] at p
theorem RpL.dp : ∀ {ds : List D} {vs : List V} {n : List Addr}, datL ds = true → RpL G H ds vs n → DpAll G.K H vs (toPL ds)
  | [], _, _, _, h => by simp only [RpL] at h; rw [h.1]; exact .nil
  | d :: r, _, _, p, h => by
    simp only [datL, Bool.and_eq_true] at p
    simp only [RpL] at h
    obtain ⟨v, vs', n1, n2, rfl, h1, h2, _⟩ := h
    exact .cons (Rp.dp p.1 h1) (RpL.dp p.2 h2)
end
end
/-! ### the operators' meanings -/
def LIM : Nat := 16777216
theorem LIM_eq : sizeLine = LIM := sizeLine_eq
def okMul (i j : Int) : Bool := decide (i.natAbs < 2 ^ 64) || decide (j.natAbs < 2 ^ 64)
def pyAdd : D → D → Option D
  | .int i, .int j => some (.int (i + j))
  | .str x, .str y => if x.length + y.length ≤ LIM then some (.str (x ++ y)) else none
  | .tup xs, .tup ys => if xs.length + ys.length ≤ LIM then some (.tup (xs ++ ys)) else none
  | .lst xs, .lst ys => if xs.length + ys.length ≤ LIM then some (.lst (xs ++ ys)) else none
  | _, _ => none
def pySub : D → D → Option D
  | .int i, .int j => some (.int (i - j))
  | _, _ => none
def pyMul : D → D → Option D
  | .int i, .int j => if okMul i j then some (.int (i * j)) else none
  | _, _ => none
def pyFdiv : D → D → Option D
  | .int i, .int j => if 0 < j ∧ j.natAbs.log2 < 9000 then some (.int (i / j)) else none
  | _, _ => none
def pyMod : D → D → Option D
  | .int i, .int j => if 0 < j then some (.int (i % j)) else none
  | _, _ => none
def pyPow : D → D → Option D
  | .int i, .int j => if 0 ≤ j ∧ j ≤ 1000000 ∧ i.natAbs < 2 ^ 64 then some (.int (i ^ j.toNat)) else none
  | _, _ => none
def pyEq (a b : D) : Option D := if a.dat && b.dat && decide (a.dep ≤ 64) && decide (b.dep ≤ 64) then some (.bl (a.eqv b)) else none
def pyNe (a b : D) : Option D := if a.dat && b.dat && decide (a.dep ≤ 64) && decide (b.dep ≤ 64) then some (.bl (!a.eqv b)) else none
def pyLt : D → D → Option D
  | .int i, .int j => some (.bl (decide (i < j)))
  | _, _ => none
def pyLe : D → D → Option D
  | .int i, .int j => some (.bl (decide (i ≤ j)))
  | _, _ => none
def pyGt : D → D → Option D
  | .int i, .int j => some (.bl (decide (j < i)))
  | _, _ => none
def pyGe : D → D → Option D
  | .int i, .int j => some (.bl (decide (j ≤ i)))
  | _, _ => none
def inL (x : D) (xs : List D) : Bool := xs.any fun y => y.eqv x
def strIn (x y : Str) : Bool := !(Builtin.Str.occurrences y x 0 y.length 1).isEmpty
def pyIn (x : D) : D → Option D
  | .tup xs | .lst xs => if x.dat && datL xs && decide (x.dep ≤ 64) && decide (depL xs ≤ 64) then some (.bl (inL x xs)) else none
  | .str y => match x with
    | .str x => some (.bl (strIn x y))
    | _ => none
  | .dct t kvs => if isKey t.t x = true then some (.bl (dHas kvs x)) else none
  | _ => none
def pyNotIn (x : D) : D → Option D
  | .tup xs | .lst xs => if x.dat && datL xs && decide (x.dep ≤ 64) && decide (depL xs ≤ 64) then some (.bl (!inL x xs)) else none
  | .str y => match x with
    | .str x => some (.bl (!strIn x y))
    | _ => none
  | .dct t kvs => if isKey t.t x = true then some (.bl (!dHas kvs x)) else none
  | _ => none
def D.isNon : D → Bool
  | .non => true
  | _ => false
def pyIsN (x : D) : D → Option D
  | .non => some (.bl x.isNon)
  | _ => none
def pyNotN (x : D) : D → Option D
  | .non => some (.bl (!x.isNon))
  | _ => none
section
variable {X : Cx} {xv : XV}
theorem Rp.non_iff {G : Gt} {H : Hp} {d : D} {v : V} {n : List Addr} (h : Rp G H d v n) : decide (v = .non) = d.isNon := by
  cases d <;> simp only [Rp, D.isNon] at h ⊢ <;> first
    | (rw [h.1]; rfl)
    | (rw [h.1]; simp)
    | (obtain ⟨_, rfl, _⟩ := h; simp)
    | (obtain ⟨_, _, rfl, _⟩ := h; simp)
    | (obtain ⟨_, _, _, rfl, _⟩ := h; simp)
    | (obtain ⟨_, _, _, _, rfl, _⟩ := h; simp)
    | (obtain ⟨_, _, _, _, _, rfl, _⟩ := h; simp)
/-! #### + -/
def rCatT0 (K : PySem.W.Frag) : R2 := fun x y H Q => ∃ a b ys, x = .ref a ∧ y = .ref b ∧ SqT K H a [] ∧ SqT K H b ys ∧ Q (.ref b) H
theorem op_catT0 : OpR X (binaryOp .Add) (rCatT0 X.K) := by
  intro pins s σ H x y v u Q I rx ry h
  obtain ⟨a, b, ys, rfl, rfl, ha, hb, q⟩ := h
  cases rx
  cases ry
  obtain ⟨its, r1, p1, _⟩ := I.tuple ha
  obtain ⟨its2, r2, p2, _⟩ := I.tuple hb
  cases r1
  obtain ⟨⟨cls, dd, data, sl⟩, ho, hc, n, hd⟩ := id p1
  obtain ⟨⟨cls2, dd2, data2, sl2⟩, ho2, hc2, n2, hd2⟩ := id p2
  simp only at hc hd hc2 hd2
  subst hc hd hc2 hd2
  exact PySem.concat_meets ⟨_, ho, rfl⟩ ⟨_, ho2, rfl⟩ noFill_tuple_add seq_tuple_add PySem.F.slot_tuple_add PySem.F.entry_tuple_add (PySem.F.args_tuple_add_2 _ _)
      (tuple_addW0 a b _ _ n n2 dd dd2 sl sl2 (by simp)) ⟨ho, ho2, ⟨.ref b, H, I, rfl, q⟩⟩
end
end VS
/-! VS: the operators' rules. -/
namespace VS
open PySem PySem.Spec PyProof.Rows L2
section
variable {G : Gt} {H H' : Hp}
theorem RpL.append : ∀ {xs ys : List D} {vs ws : List V} {n m : List Addr}, RpL G H xs vs n → RpL G H ys ws m → RpL G H (xs ++ ys) (vs ++ ws) (n ++ m)
  | [], _, _, _, _, _, h, h' => by simp only [RpL] at h; obtain ⟨rfl, rfl⟩ := h; simpa using h'
  | d :: r, _, _, _, _, _, h, h' => by
    simp only [RpL] at h
    obtain ⟨v, vs', n1, n2, rfl, h1, h2, rfl⟩ := h
    simp only [List.cons_append, RpL]
    exact ⟨v, _, n1, _, rfl, h1, RpL.append h2 h', by simp⟩
theorem RpL.get : ∀ {xs : List D} {vs : List V} {n : List Addr} {i : Nat} {d : D}, RpL G H xs vs n → xs[i]? = some d → ∃ v m, vs[i]? = some v ∧ Rp G H d v m ∧ ∀ a ∈ m, a ∈ n
  | [], _, _, _, _, _, e => by simp at e
  | x :: r, _, _, i, d, h, e => by
    simp only [RpL] at h
    obtain ⟨v, vs', n1, n2, rfl, h1, h2, rfl⟩ := h
    cases i with
    | zero => simp at e; subst e; exact ⟨v, n1, rfl, h1, fun a ha => List.mem_append_left _ ha⟩
    | succ i =>
      obtain ⟨v', m, e1, e2, e3⟩ := RpL.get (i := i) h2 (by simpa using e)
      exact ⟨v', m, by simpa using e1, e2, fun a ha => List.mem_append_right _ (e3 a ha)⟩
theorem RpL.take : ∀ {xs : List D} {vs : List V} {n : List Addr} (k : Nat), RpL G H xs vs n → ∃ m, RpL G H (xs.take k) (vs.take k) m ∧ ∀ a ∈ m, a ∈ n
  | [], _, _, k, h => by simp only [RpL] at h; obtain ⟨rfl, rfl⟩ := h; exact ⟨[], by simp [RpL], by simp⟩
  | d :: r, _, _, 0, h => ⟨[], by simp [RpL], by simp⟩
  | d :: r, _, _, k + 1, h => by
    simp only [RpL] at h
    obtain ⟨v, vs', n1, n2, rfl, h1, h2, rfl⟩ := h
    obtain ⟨m, e1, e2⟩ := RpL.take k h2
    refine ⟨n1 ++ m, ?_, fun a ha => ?_⟩
    · simp only [List.take_succ_cons, RpL]
      exact ⟨v, _, n1, m, rfl, h1, e1, rfl⟩
    · rcases List.mem_append.mp ha with ha | ha
      · exact List.mem_append_left _ ha
      · exact List.mem_append_right _ (e2 a ha)
theorem RpL.drop : ∀ {xs : List D} {vs : List V} {n : List Addr} (k : Nat), RpL G H xs vs n → ∃ m, RpL G H (xs.drop k) (vs.drop k) m ∧ ∀ a ∈ m, a ∈ n
  | _, _, _, 0, h => ⟨_, by simpa using h, fun a ha => ha⟩
  | [], _, _, k + 1, h => by simp only [RpL] at h; obtain ⟨rfl, rfl⟩ := h; exact ⟨[], by simp [RpL], by simp⟩
  | d :: r, _, _, k + 1, h => by
    simp only [RpL] at h
    obtain ⟨v, vs', n1, n2, rfl, h1, h2, rfl⟩ := h
    obtain ⟨m, e1, e2⟩ := RpL.drop k h2
    exact ⟨m, by simpa using e1, fun a ha => List.mem_append_right _ (e2 a ha)⟩
/-- a new object at p -/
theorem ext_upd {p : Addr} {o : HO} (hp : H p = none) : ∀ a u, H a = some u → upd H p o a = some u := fun a u e => by rw [upd_ne (ne_of_none e hp)]; exact e
theorem Rp.newL {ds : List D} {vs : List V} {n : List Addr} {p : Addr} (hp : H p = none) (h : RpL G H ds vs n) : Rp G (upd H p (.lst vs)) (.lst ds) (.ref p) (p :: n) := by
  simp only [Rp]
  exact ⟨p, vs, n, rfl, upd_same, h.ext (ext_upd hp), rfl⟩
theorem Rp.newT {ds : List D} {vs : List V} {n : List Addr} {p : Addr} (hp : H p = none) (h : RpL G H ds vs n) : Rp G (upd H p (.tup vs)) (.tup ds) (.ref p) n := by
  simp only [Rp]
  exact ⟨p, vs, rfl, upd_same, h.ext (ext_upd hp)⟩
theorem RpL.fresh {ds : List D} {vs : List V} {n : List Addr} {p : Addr} (hp : H p = none) (h : RpL G H ds vs n) : p ∉ n := fun z => by
  have := RpL.mut h p z
  rw [hp] at this
  exact this
theorem own_newL {ds : List D} {n : List Addr} {p : Addr} (hp : H p = none) (hn : p ∉ n) : ∀ x, Own .r (.lst ds) (p :: n) x → (p :: n).count x = 1 ∧ H x = none := fun x o => by
  rcases o with o | ⟨_, _, o⟩
  · cases o.1
  · simp at o
    subst o
    exact ⟨by rw [List.count_cons_self, List.count_eq_zero.mpr hn], hp⟩
theorem own_tup {ds : List D} {n : List Addr} : ∀ x, ¬ Own .r (.tup ds) n x := fun x o => by
  rcases o with o | ⟨_, o, _⟩
  · cases o.1
  · cases o
end
def rAdd (K : PySem.W.Frag) : R2 := fun x y H Q => rI0 (fun i j => .int (i + j)) x y H Q ∨ (∃ i j, x = .str i ∧ y = .str j ∧ i.length + j.length ≤ sizeLine ∧ Q (.str (i ++ j)) H) ∨ rCatT K x y H Q ∨ rCatT0 K x y H Q ∨ rCat x y H Q
section
variable {X : Cx} {xv : XV}
theorem opv_add : OpR X (binaryOp .Add) (rAdd X.K) := op_add.or (op_add_str.or (op_catT.or (op_catT0.or op_cat)))
theorem ops_add : OpS (gx X xv) (rAdd X.K) pyAdd := fun H a b da db na nb d Q ra rb e q => by
  unfold pyAdd at e
  split at e
  · cases e
    simp only [Rp] at ra rb
    obtain ⟨rfl, rfl⟩ := ra
    obtain ⟨rfl, rfl⟩ := rb
    exact .inl ⟨_, _, rfl, rfl, q _ H [] (by simp [Rp]) (fun _ _ k => k) (by simp) fun x o => absurd o.mem (by simp)⟩
  · split at e
    · cases e
      rename_i hl
      simp only [Rp] at ra rb
      obtain ⟨rfl, rfl⟩ := ra
      obtain ⟨rfl, rfl⟩ := rb
      exact .inr (.inl ⟨_, _, rfl, rfl, by rw [LIM_eq]; exact hl, q _ H [] (by simp [Rp]) (fun _ _ k => k) (by simp) fun x o => absurd o.mem (by simp)⟩)
    · cases e
  · rename_i xs ys
    split at e
    · cases e
      rename_i hl
      simp only [Rp] at ra rb
      obtain ⟨a, vs, rfl, h1, h2⟩ := ra
      obtain ⟨b, ws, rfl, h3, h4⟩ := rb
      have l1 := h2.len
      have l2 := h4.len
      cases vs with
      | nil =>
        have hx : xs = [] := List.length_eq_zero_iff.mp l1
        subst hx
        simp only [RpL] at h2
        obtain ⟨_, rfl⟩ := h2
        refine .inr (.inr (.inr (.inl ⟨a, b, ws, rfl, rfl, SqT.of h1, SqT.of h3, q _ H nb ?_ (fun _ _ k => k) (fun x hx => .inr (.inl hx)) fun x o => absurd o (own_tup x)⟩)))
        simp only [Rp, List.nil_append]
        exact ⟨b, ws, rfl, h3, h4⟩
      | cons v vs =>
        refine .inr (.inr (.inl ⟨a, b, v :: vs, ws, rfl, rfl, SqT.of h1, SqT.of h3, by simp, by rw [LIM_eq, ← l1, ← l2]; exact hl, fun z => ?_, fun _ p hp => ?_⟩))
        · subst z
          have hy : ys = [] := List.length_eq_zero_iff.mp l2
          subst hy
          refine q _ H na ?_ (fun _ _ k => k) (fun x hx => .inl hx) fun x o => absurd o (own_tup x)
          simp only [Rp, List.append_nil]
          exact ⟨a, _, rfl, h1, h2⟩
        · refine q _ _ _ (Rp.newT hp (h2.append h4)) (ext_upd hp) (fun x hx => ?_) fun x o => absurd o (own_tup x)
          rcases List.mem_append.mp hx with z | z
          · exact .inl z
          · exact .inr (.inl z)
    · cases e
  · rename_i xs ys
    split at e
    · cases e
      rename_i hl
      simp only [Rp] at ra rb
      obtain ⟨a, vs, n1, rfl, h1, h2, rfl⟩ := ra
      obtain ⟨b, ws, n2, rfl, h3, h4, rfl⟩ := rb
      refine .inr (.inr (.inr (.inr ⟨a, b, vs, ws, rfl, rfl, h1, h3, by rw [LIM_eq, ← h2.len, ← h4.len]; exact hl, fun p hp => ?_⟩)))
      have h5 := h2.append h4
      refine q _ _ _ (Rp.newL hp h5) (ext_upd hp) (fun x hx => ?_) (own_newL hp (h5.fresh hp))
      rcases List.mem_cons.mp hx with rfl | hx
      · exact .inr (.inr hp)
      rcases List.mem_append.mp hx with z | z
      · exact .inl (by simp [z])
      · exact .inr (.inl (by simp [z]))
    · cases e
  · cases e
theorem scI {r : R2} {C : Int → Int → Prop} {g : Int → Int → V} {f : D → D → Option D} {k : Int → Int → D} (hr : r = rI C g) (hf : ∀ a b d, f a b = some d → ∃ i j, a = .int i ∧ b = .int j ∧ C i j ∧ d = k i j) (hk : ∀ H i j, Rp (gx X xv) H (k i j) (g i j) []) (hp : ∀ i j, (k i j).pure = true) : OpS (gx X xv) r f := by
  subst hr
  refine OpS.sc (fun a b d e => ?_) fun H a b da db na nb d Q ra rb e q => ?_
  · obtain ⟨i, j, _, _, _, rfl⟩ := hf a b d e
    exact hp i j
  · obtain ⟨i, j, rfl, rfl, c, rfl⟩ := hf da db d e
    simp only [Rp] at ra rb
    obtain ⟨rfl, rfl⟩ := ra
    obtain ⟨rfl, rfl⟩ := rb
    exact ⟨i, j, rfl, rfl, c, q _ (hk H i j)⟩
theorem scI0 {r : R2} {g : Int → Int → V} {f : D → D → Option D} {k : Int → Int → D} (hr : r = rI0 g) (hf : ∀ a b d, f a b = some d → ∃ i j, a = .int i ∧ b = .int j ∧ d = k i j) (hk : ∀ H i j, Rp (gx X xv) H (k i j) (g i j) []) (hp : ∀ i j, (k i j).pure = true) : OpS (gx X xv) r f := by
  subst hr
  refine OpS.sc (fun a b d e => ?_) fun H a b da db na nb d Q ra rb e q => ?_
  · obtain ⟨i, j, _, _, rfl⟩ := hf a b d e
    exact hp i j
  · obtain ⟨i, j, rfl, rfl, rfl⟩ := hf da db d e
    simp only [Rp] at ra rb
    obtain ⟨rfl, rfl⟩ := ra
    obtain ⟨rfl, rfl⟩ := rb
    exact ⟨i, j, rfl, rfl, q _ (hk H i j)⟩
theorem ops_sub : OpS (gx X xv) (rI0 fun i j => .int (i - j)) pySub := scI0 (k := fun i j => .int (i - j)) rfl (fun a b d e => by unfold pySub at e; split at e <;> cases e; exact ⟨_, _, rfl, rfl, rfl⟩) (fun _ _ _ => by simp [Rp]) fun _ _ => rfl
theorem ops_mul : OpS (gx X xv) (rI CMul fun i j => .int (i * j)) pyMul := scI (k := fun i j => .int (i * j)) rfl (fun a b d e => by
  unfold pyMul at e
  split at e
  · split at e
    · rename_i i j h
      cases e
      refine ⟨_, _, rfl, rfl, ?_, rfl⟩
      simp only [okMul, Bool.or_eq_true, decide_eq_true_eq] at h
      unfold CMul
      omega
    · cases e
  · cases e) (fun _ _ _ => by simp [Rp]) fun _ _ => rfl
theorem ops_fdiv : OpS (gx X xv) (rI CDivW fun i j => .int (i / j)) pyFdiv := scI (k := fun i j => .int (i / j)) rfl (fun a b d e => by
  unfold pyFdiv at e
  split at e
  · split at e
    · rename_i i j h
      cases e
      exact ⟨_, _, rfl, rfl, h, rfl⟩
    · cases e
  · cases e) (fun _ _ _ => by simp [Rp]) fun _ _ => rfl
theorem ops_mod : OpS (gx X xv) (rI (fun _ j => 0 < j) fun i j => .int (i % j)) pyMod := scI (k := fun i j => .int (i % j)) rfl (fun a b d e => by
  unfold pyMod at e
  split at e
  · split at e
    · rename_i i j h
      cases e
      exact ⟨_, _, rfl, rfl, h, rfl⟩
    · cases e
  · cases e) (fun _ _ _ => by simp [Rp]) fun _ _ => rfl
theorem ops_pow : OpS (gx X xv) (rI CPow fun i j => .int (i ^ j.toNat)) pyPow := scI (k := fun i j => .int (i ^ j.toNat)) rfl (fun a b d e => by
  unfold pyPow at e
  split at e
  · split at e
    · rename_i i j h
      cases e
      exact ⟨_, _, rfl, rfl, h, rfl⟩
    · cases e
  · cases e) (fun _ _ _ => by simp [Rp]) fun _ _ => rfl
theorem ops_lt : OpS (gx X xv) (rI0 fun i j => .bl (decide (i < j))) pyLt := scI0 (k := fun i j => .bl (decide (i < j))) rfl (fun a b d e => by unfold pyLt at e; split at e <;> cases e; exact ⟨_, _, rfl, rfl, rfl⟩) (fun _ _ _ => by simp [Rp]) fun _ _ => rfl
theorem ops_le : OpS (gx X xv) (rI0 fun i j => .bl (decide (i ≤ j))) pyLe := scI0 (k := fun i j => .bl (decide (i ≤ j))) rfl (fun a b d e => by unfold pyLe at e; split at e <;> cases e; exact ⟨_, _, rfl, rfl, rfl⟩) (fun _ _ _ => by simp [Rp]) fun _ _ => rfl
theorem ops_gt : OpS (gx X xv) (rI0 fun i j => .bl (decide (j < i))) pyGt := scI0 (k := fun i j => .bl (decide (j < i))) rfl (fun a b d e => by unfold pyGt at e; split at e <;> cases e; exact ⟨_, _, rfl, rfl, rfl⟩) (fun _ _ _ => by simp [Rp]) fun _ _ => rfl
theorem ops_ge : OpS (gx X xv) (rI0 fun i j => .bl (decide (j ≤ i))) pyGe := scI0 (k := fun i j => .bl (decide (j ≤ i))) rfl (fun a b d e => by unfold pyGe at e; split at e <;> cases e; exact ⟨_, _, rfl, rfl, rfl⟩) (fun _ _ _ => by simp [Rp]) fun _ _ => rfl
/-! #### ==, in, is -/
theorem shaped_of {a : D} (h : a.dat = true) (hd : a.dep ≤ 64) : SeqAt.shaped a.toP = true := by
  unfold SeqAt.shaped
  rw [D.canLay h, D.dep_toP, decide_eq_true hd]
  rfl
theorem pyEq_some {a b d : D} (e : pyEq a b = some d) : a.dat = true ∧ b.dat = true ∧ a.dep ≤ 64 ∧ b.dep ≤ 64 ∧ d = .bl (a.eqv b) := by
  unfold pyEq at e
  split at e
  · rename_i h
    simp only [Bool.and_eq_true, decide_eq_true_eq] at h
    cases e
    exact ⟨h.1.1.1, h.1.1.2, h.1.2, h.2, rfl⟩
  · cases e
theorem pyNe_some {a b d : D} (e : pyNe a b = some d) : a.dat = true ∧ b.dat = true ∧ a.dep ≤ 64 ∧ b.dep ≤ 64 ∧ d = .bl (!a.eqv b) := by
  unfold pyNe at e
  split at e
  · rename_i h
    simp only [Bool.and_eq_true, decide_eq_true_eq] at h
    cases e
    exact ⟨h.1.1.1, h.1.1.2, h.1.2, h.2, rfl⟩
  · cases e
theorem ops_eq : OpS (gx X xv) (rEqD X.K) pyEq := OpS.sc (fun a b d e => by rw [(pyEq_some e).2.2.2.2]; rfl) fun H a b da db na nb d Q ra rb e q => by
  obtain ⟨h1, h2, h3, h4, rfl⟩ := pyEq_some e
  refine ⟨da.toP, db.toP, ra.dp h1, rb.dp h2, shaped_of h1 h3, shaped_of h2 h4, ?_⟩
  rw [D.eqv_toP h1 h2]
  exact q _ (by simp [Rp])
theorem ops_ne : OpS (gx X xv) (rNeD X.K) pyNe := OpS.sc (fun a b d e => by rw [(pyNe_some e).2.2.2.2]; rfl) fun H a b da db na nb d Q ra rb e q => by
  obtain ⟨h1, h2, h3, h4, rfl⟩ := pyNe_some e
  refine ⟨da.toP, db.toP, ra.dp h1, rb.dp h2, shaped_of h1 h3, shaped_of h2 h4, ?_⟩
  rw [D.eqv_toP h1 h2]
  exact q _ (by simp [Rp])
theorem ops_isN : OpS (gx X xv) (fun x y H Q => y = .non ∧ Q (.bl (decide (x = .non))) H) pyIsN := OpS.sc (fun a b d e => by unfold pyIsN at e; split at e <;> cases e; rfl) fun H a b da db na nb d Q ra rb e q => by
  unfold pyIsN at e
  split at e
  · cases e
    simp only [Rp] at rb
    refine ⟨rb.1, ?_⟩
    rw [ra.non_iff]
    exact q _ (by simp [Rp])
  · cases e
theorem ops_notN : OpS (gx X xv) (fun x y H Q => y = .non ∧ Q (.bl (!decide (x = .non))) H) pyNotN := OpS.sc (fun a b d e => by unfold pyNotN at e; split at e <;> cases e; rfl) fun H a b da db na nb d Q ra rb e q => by
  unfold pyNotN at e
  split at e
  · cases e
    simp only [Rp] at rb
    refine ⟨rb.1, ?_⟩
    rw [ra.non_iff]
    exact q _ (by simp [Rp])
  · cases e
/-- in, of data in a list or a tuple, of a text in a text -/
def rInD (K : PySem.W.Frag) (neg : Bool) : R2 := fun x y H Q => (∃ d es, Dp K H x d ∧ (Dp K H y (.list es) ∨ Dp K H y (.tuple es)) ∧ d.canLay0 = true ∧ PyData.canLayAll0 es = true ∧ d.depth ≤ 64 ∧ Q (.bl (if neg then !es.any fun z => PyData.eqv z d else es.any fun z => PyData.eqv z d)) H) ∨
  (∃ i j, x = .str i ∧ y = .str j ∧ Q (.bl (if neg then !strIn i j else strIn i j)) H) ∨ ∃ a o, y = .ref a ∧ DGet H a x o ∧ Q (.bl (if neg then !o.isSome else o.isSome)) H
theorem room_in {A : Around} {es : List PyData} {d : PyData} (hd : d.depth ≤ 64) (hu : A.units + 65 < cLine) : A.units + 1 + min (PyData.depthAll es) d.depth < cLine := by
  have h2 : min (PyData.depthAll es) d.depth ≤ d.depth := Nat.min_le_right _ _
  omega
theorem opv_in (hu : X.A.units + 65 < cLine) : OpR X (compareOp .In) (rInD X.K false) := by
  intro pins s σ H x y v u Q I rx ry h
  rcases h with ⟨d, es, hd, he, c1, c2, c3, q⟩ | ⟨i, j, rfl, rfl, q⟩ | ⟨a, o, rfl, g, q⟩
  rotate_left 2
  · cases ry
    exact d_in (by omega) I g rx fun s3 I3 => ⟨.bl o.isSome, H, I3, rfl, q⟩
  · obtain ⟨as, r1⟩ := Dp.reads I d x v hd rx
    rcases he with he | he
    · obtain ⟨bs, r2⟩ := Dp.reads I _ y u he ry
      exact SeqAt.in_list_reads r2 r1 c2 c1 (room_in c3 hu) ⟨.bl _, H, I, rfl, q⟩
    · obtain ⟨bs, r2⟩ := Dp.reads I _ y u he ry
      exact SeqAt.in_tuple_reads r2 r1 c2 c1 (room_in c3 hu) ⟨.bl _, H, I, rfl, q⟩
  · exact op_in_str pins s σ H _ _ v u Q I rx ry ⟨i, j, rfl, rfl, q⟩
theorem opv_notIn (hu : X.A.units + 65 < cLine) : OpR X (compareOp .NotIn) (rInD X.K true) := by
  intro pins s σ H x y v u Q I rx ry h
  rcases h with ⟨d, es, hd, he, c1, c2, c3, q⟩ | ⟨i, j, rfl, rfl, q⟩ | ⟨a, o, rfl, g, q⟩
  rotate_left 2
  · cases ry
    exact d_notIn (by omega) I g rx fun s3 I3 => ⟨.bl (!o.isSome), H, I3, rfl, q⟩
  · obtain ⟨as, r1⟩ := Dp.reads I d x v hd rx
    rcases he with he | he
    · obtain ⟨bs, r2⟩ := Dp.reads I _ y u he ry
      exact SeqAt.notIn_list_reads r2 r1 c2 c1 (room_in c3 hu) ⟨.bl _, H, I, rfl, q⟩
    · obtain ⟨bs, r2⟩ := Dp.reads I _ y u he ry
      exact SeqAt.notIn_tuple_reads r2 r1 c2 c1 (room_in c3 hu) ⟨.bl _, H, I, rfl, q⟩
  · exact op_notIn_str pins s σ H _ _ v u Q I rx ry ⟨i, j, rfl, rfl, q⟩
theorem any_toPL {x : D} (hx : x.dat = true) : ∀ {xs : List D}, datL xs = true → (toPL xs).any (fun z => PyData.eqv z x.toP) = inL x xs
  | [], _ => rfl
  | d :: r, h => by
    simp only [datL, Bool.and_eq_true] at h
    simp only [toPL, List.any_cons, inL, D.eqv_toP h.1 hx]
    rw [any_toPL hx h.2]
    rfl
theorem pu_in : ∀ a b d, pyIn a b = some d → d.pure = true := fun a b d e => by unfold pyIn at e; split at e <;> (first | (split at e <;> cases e <;> rfl) | cases e)
theorem pu_notIn : ∀ a b d, pyNotIn a b = some d → d.pure = true := fun a b d e => by unfold pyNotIn at e; split at e <;> (first | (split at e <;> cases e <;> rfl) | cases e)
theorem ops_inG (neg : Bool) : OpS (gx X xv) (rInD X.K neg) (fun x y => if neg then pyNotIn x y else pyIn x y) := OpS.sc (fun a b d e => by
    cases neg
    · exact pu_in a b d (by simpa using e)
    · exact pu_notIn a b d (by simpa using e)) fun H a b da db na nb d Q ra rb e q => by
  have go : ∀ (es : List D), datL es = true → da.dat = true → da.dep ≤ 64 → d = .bl (if neg then !inL da es else inL da es) → (Dp X.K H b (.list (toPL es)) ∨ Dp X.K H b (.tuple (toPL es))) → rInD X.K neg a b H Q := fun es h1 h2 h3 hd h4 => by
    subst hd
    refine .inl ⟨da.toP, toPL es, ra.dp h2, h4, D.canLay h2, canLayL h1, by rw [D.dep_toP]; exact h3, ?_⟩
    rw [any_toPL h2 h1]
    exact q _ (by simp [Rp])
  have gl : ∀ (es : List D), (da.dat && datL es && decide (da.dep ≤ 64) && decide (depL es ≤ 64)) = true → datL es = true ∧ da.dat = true ∧ da.dep ≤ 64 := fun es h => by
    simp only [Bool.and_eq_true, decide_eq_true_eq] at h
    exact ⟨h.1.1.2, h.1.1.1, h.1.2⟩
  cases neg with
  | false =>
    simp only [Bool.false_eq_true, if_false] at e
    unfold pyIn at e
    split at e
    · split at e
      · rename_i es h
        cases e
        obtain ⟨h1, h2, h3⟩ := gl _ h
        exact go es h1 h2 h3 rfl (.inr (rb.dp (d := .tup es) (by simpa [D.dat] using h1)))
      · cases e
    · split at e
      · rename_i es h
        cases e
        obtain ⟨h1, h2, h3⟩ := gl _ h
        exact go es h1 h2 h3 rfl (.inl (rb.dp (d := .lst es) (by simpa [D.dat] using h1)))
      · cases e
    · split at e
      · cases e
        simp only [Rp] at ra rb
        obtain ⟨rfl, rfl⟩ := ra
        obtain ⟨rfl, rfl⟩ := rb
        exact .inr (.inl ⟨_, _, rfl, rfl, q _ (by simp [Rp])⟩)
      · cases e
    · split at e
      · rename_i hk
        cases e
        simp only [Rp] at rb
        obtain ⟨p, ws, m, rfl, h1, h2, _⟩ := rb
        obtain ⟨o, g1, g2⟩ := (dget_at hk h1 h2 ra).2
        refine .inr (.inr ⟨p, o, rfl, g1, ?_⟩)
        rw [g2, ← dHas_get]
        exact q _ (by simp [Rp])
      · cases e
    · cases e
  | true =>
    simp only [if_true] at e
    unfold pyNotIn at e
    split at e
    · split at e
      · rename_i es h
        cases e
        obtain ⟨h1, h2, h3⟩ := gl _ h
        exact go es h1 h2 h3 rfl (.inr (rb.dp (d := .tup es) (by simpa [D.dat] using h1)))
      · cases e
    · split at e
      · rename_i es h
        cases e
        obtain ⟨h1, h2, h3⟩ := gl _ h
        exact go es h1 h2 h3 rfl (.inl (rb.dp (d := .lst es) (by simpa [D.dat] using h1)))
      · cases e
    · split at e
      · cases e
        simp only [Rp] at ra rb
        obtain ⟨rfl, rfl⟩ := ra
        obtain ⟨rfl, rfl⟩ := rb
        exact .inr (.inl ⟨_, _, rfl, rfl, q _ (by simp [Rp])⟩)
      · cases e
    · split at e
      · rename_i hk
        cases e
        simp only [Rp] at rb
        obtain ⟨p, ws, m, rfl, h1, h2, _⟩ := rb
        obtain ⟨o, g1, g2⟩ := (dget_at hk h1 h2 ra).2
        refine .inr (.inr ⟨p, o, rfl, g1, ?_⟩)
        rw [g2, ← dHas_get]
        exact q _ (by simp [Rp])
      · cases e
    · cases e
theorem ops_in : OpS (gx X xv) (rInD X.K false) pyIn := ops_inG (X := X) (xv := xv) false
theorem ops_notIn : OpS (gx X xv) (rInD X.K true) pyNotIn := ops_inG (X := X) (xv := xv) true
end
section
variable {X : Cx} {xv : XV} {μ : List Md} {W : WX} {pos : Pos} {a b : Expr} {ro1 ro2 : Bool} {md1 md2 : Md} {m1 m2 : EM}
/-! #### the rules, one an operator -/
def mAdd (chk : Bool) (m1 m2 : EM) : EM := mBin chk pyAdd m1 m2
theorem v_add (h1 : PEV X xv μ W a ro1 md1 m1) (h2 : PEV X xv μ W b ro2 md2 m2) (chk : Bool) (al : md1 = .al → ro2 = true := by decide) (hc : md1 = .al ∨ md2 = .al → chk = true := by decide) : PEV X xv μ W (.BinOp a .Add b pos) (ro1 && ro2) .r (mAdd chk m1 m2) := v_bin opv_add ops_add h1 h2 chk al hc
theorem fin_true {g : D → D → Option D} (p : ∀ a b d, g a b = some d → d.pure = true) : mBin true g m1 m2 = mBin false g m1 m2 := by
  funext env
  unfold mBin mBin2 mBin3 fin
  cases m1 env with
  | bad => rfl
  | exc x e => rfl
  | ok da e1 =>
    simp only [Rt.bind_ok]
    cases m2 e1 with
    | bad => rfl
    | exc x e => rfl
    | ok db e2 =>
      simp only [Rt.bind_ok]
      cases eg : g da db with
      | none => rfl
      | some d => simp [p _ _ _ eg]
theorem v_binS {op : Operator} {r : R2} {g : D → D → Option D} (ho : OpR X (binaryOp op) r) (hs : OpS (gx X xv) r g) (p : ∀ a b d, g a b = some d → d.pure = true) (h1 : PEV X xv μ W a ro1 md1 m1) (h2 : PEV X xv μ W b ro2 md2 m2) {md : Md}
    (al : md1 = .al → ro2 = true) : PEV X xv μ W (.BinOp a op b pos) (ro1 && ro2) md (mBin false g m1 m2) := by
  have h := v_bin (pos := pos) ho hs h1 h2 true al (fun _ => rfl)
  rw [fin_true p] at h
  refine v_up h fun env d e' k => ?_
  rw [← fin_true p] at k
  unfold mBin mBin2 mBin3 fin at k
  cases e1 : m1 env with
  | bad => rw [e1] at k; cases k
  | exc x e => rw [e1] at k; cases k
  | ok da e1' =>
    rw [e1] at k
    simp only [Rt.bind_ok] at k
    cases e2 : m2 e1' with
    | bad => rw [e2] at k; cases k
    | exc x e => rw [e2] at k; cases k
    | ok db e2' =>
      rw [e2] at k
      simp only [Rt.bind_ok] at k
      cases eg : g da db with
      | none => rw [eg] at k; cases k
      | some d' =>
        rw [eg] at k
        simp only [p _ _ _ eg, Bool.true_or, Bool.not_true, Bool.and_false, Bool.false_eq_true, if_false] at k
        cases k
        exact p _ _ _ eg
theorem pu_of {g : D → D → Option D} {k : D → D → D} (h : ∀ a b d, g a b = some d → (∃ i, d = .int i) ∨ ∃ i, d = .bl i) : ∀ a b d, g a b = some d → d.pure = true := fun a b d e => by
  rcases h a b d e with ⟨i, rfl⟩ | ⟨i, rfl⟩ <;> rfl
theorem pu_sub : ∀ a b d, pySub a b = some d → d.pure = true := fun a b d e => by unfold pySub at e; split at e <;> cases e; rfl
theorem pu_mul : ∀ a b d, pyMul a b = some d → d.pure = true := fun a b d e => by unfold pyMul at e; split at e; (split at e <;> cases e; rfl); cases e
theorem pu_fdiv : ∀ a b d, pyFdiv a b = some d → d.pure = true := fun a b d e => by unfold pyFdiv at e; split at e; (split at e <;> cases e; rfl); cases e
theorem pu_mod : ∀ a b d, pyMod a b = some d → d.pure = true := fun a b d e => by unfold pyMod at e; split at e; (split at e <;> cases e; rfl); cases e
theorem pu_pow : ∀ a b d, pyPow a b = some d → d.pure = true := fun a b d e => by unfold pyPow at e; split at e; (split at e <;> cases e; rfl); cases e
theorem pu_lt : ∀ a b d, pyLt a b = some d → d.pure = true := fun a b d e => by unfold pyLt at e; split at e <;> cases e; rfl
theorem pu_le : ∀ a b d, pyLe a b = some d → d.pure = true := fun a b d e => by unfold pyLe at e; split at e <;> cases e; rfl
theorem pu_gt : ∀ a b d, pyGt a b = some d → d.pure = true := fun a b d e => by unfold pyGt at e; split at e <;> cases e; rfl
theorem pu_ge : ∀ a b d, pyGe a b = some d → d.pure = true := fun a b d e => by unfold pyGe at e; split at e <;> cases e; rfl
theorem pu_eq : ∀ a b d, pyEq a b = some d → d.pure = true := fun a b d e => by rw [(pyEq_some e).2.2.2.2]; rfl
theorem pu_ne : ∀ a b d, pyNe a b = some d → d.pure = true := fun a b d e => by rw [(pyNe_some e).2.2.2.2]; rfl
theorem pu_isN : ∀ a b d, pyIsN a b = some d → d.pure = true := fun a b d e => by unfold pyIsN at e; split at e <;> cases e; rfl
theorem pu_notN : ∀ a b d, pyNotN a b = some d → d.pure = true := fun a b d e => by unfold pyNotN at e; split at e <;> cases e; rfl
def mSub (m1 m2 : EM) : EM := mBin false pySub m1 m2
def mMul (m1 m2 : EM) : EM := mBin false pyMul m1 m2
def mFdiv (m1 m2 : EM) : EM := mBin false pyFdiv m1 m2
def mMod (m1 m2 : EM) : EM := mBin false pyMod m1 m2
def mPow (m1 m2 : EM) : EM := mBin false pyPow m1 m2
def mLt (m1 m2 : EM) : EM := mBin false pyLt m1 m2
def mLe (m1 m2 : EM) : EM := mBin false pyLe m1 m2
def mGt (m1 m2 : EM) : EM := mBin false pyGt m1 m2
def mGe (m1 m2 : EM) : EM := mBin false pyGe m1 m2
def mEq (m1 m2 : EM) : EM := mBin false pyEq m1 m2
def mNe (m1 m2 : EM) : EM := mBin false pyNe m1 m2
def mIn (m1 m2 : EM) : EM := mBin false pyIn m1 m2
def mNotIn (m1 m2 : EM) : EM := mBin false pyNotIn m1 m2
def mIsN (m1 m2 : EM) : EM := mBin false pyIsN m1 m2
def mNotN (m1 m2 : EM) : EM := mBin false pyNotN m1 m2
section
variable {md : Md} (h1 : PEV X xv μ W a ro1 md1 m1) (h2 : PEV X xv μ W b ro2 md2 m2) (al : md1 = .al → ro2 = true := by decide)
include h1 h2 al
theorem v_sub : PEV X xv μ W (.BinOp a .Sub b pos) (ro1 && ro2) md (mSub m1 m2) := v_binS op_sub ops_sub pu_sub h1 h2 al
theorem v_mul : PEV X xv μ W (.BinOp a .Mult b pos) (ro1 && ro2) md (mMul m1 m2) := v_binS op_mul ops_mul pu_mul h1 h2 al
theorem v_fdiv : PEV X xv μ W (.BinOp a .FloorDiv b pos) (ro1 && ro2) md (mFdiv m1 m2) := v_binS op_fdivW ops_fdiv pu_fdiv h1 h2 al
theorem v_mod : PEV X xv μ W (.BinOp a .Mod b pos) (ro1 && ro2) md (mMod m1 m2) := v_binS op_mod ops_mod pu_mod h1 h2 al
theorem v_pow : PEV X xv μ W (.BinOp a .Pow b pos) (ro1 && ro2) md (mPow m1 m2) := v_binS op_pow ops_pow pu_pow h1 h2 al
theorem v_lt : PEV X xv μ W (.Compare a [.Lt] [b] pos) (ro1 && ro2) md (mLt m1 m2) := v_cmp op_lt ops_lt h1 h2 (nomark _) pu_lt al
theorem v_le' : PEV X xv μ W (.Compare a [.LtE] [b] pos) (ro1 && ro2) md (mLe m1 m2) := v_cmp op_le ops_le h1 h2 (nomark _) pu_le al
theorem v_gt : PEV X xv μ W (.Compare a [.Gt] [b] pos) (ro1 && ro2) md (mGt m1 m2) := v_cmp op_gt ops_gt h1 h2 (nomark _) pu_gt al
theorem v_ge : PEV X xv μ W (.Compare a [.GtE] [b] pos) (ro1 && ro2) md (mGe m1 m2) := v_cmp op_ge ops_ge h1 h2 (nomark _) pu_ge al
theorem v_eq {k : Nat} (hr : Room k X.A) : PEV X xv μ W (.Compare a [.Eq] [b] pos) (ro1 && ro2) md (mEq m1 m2) := v_cmp (op_eqD hr.units) ops_eq h1 h2 (nomark _) pu_eq al
theorem v_ne {k : Nat} (hr : Room k X.A) : PEV X xv μ W (.Compare a [.NotEq] [b] pos) (ro1 && ro2) md (mNe m1 m2) := v_cmp (op_neD hr.units) ops_ne h1 h2 (nomark _) pu_ne al
theorem v_in {k : Nat} (hr : Room k X.A) (hm : behindInMarks .In b = false) : PEV X xv μ W (.Compare a [.In] [b] pos) (ro1 && ro2) md (mIn m1 m2) := v_cmp (opv_in (by have := hr.un; omega)) ops_in h1 h2 hm pu_in al
theorem v_notIn {k : Nat} (hr : Room k X.A) (hm : behindInMarks .NotIn b = false) : PEV X xv μ W (.Compare a [.NotIn] [b] pos) (ro1 && ro2) md (mNotIn m1 m2) := v_cmp (opv_notIn (by have := hr.un; omega)) ops_notIn h1 h2 hm pu_notIn al
theorem v_isN : PEV X xv μ W (.Compare a [.Is] [b] pos) (ro1 && ro2) md (mIsN m1 m2) := v_cmp op_isN ops_isN h1 h2 (nomark _) pu_isN al
theorem v_notN : PEV X xv μ W (.Compare a [.IsNot] [b] pos) (ro1 && ro2) md (mNotN m1 m2) := v_cmp op_notN ops_notN h1 h2 (nomark _) pu_notN al
end
end
end VS
/-! VS: argument lists, displays, calls of built-ins, items, slices. -/
namespace VS
open PySem PySem.Spec PyProof.Rows L2
/-- jointly owned: every node once, apart from the slots -/
def Dq (μ : List Md) (dp : Bool) (n : List Addr) (env : En) (N : Nat → List Addr) (H : Hp) (N' : Nat → List Addr) : Prop :=
  dp = true → ∀ a ∈ n, n.count a = 1 ∧ ¬ allS N' a ∧ (wrS μ env N a ∨ H a = none)
/-- an argument list; al: some value may share with an owned slot; dp: all is jointly owned -/
def LQ (G : Gt) (μ : List Md) (W : WX) (ro al dp : Bool) (env : En) (N : Nat → List Addr) (σ : L2.St) (H : Hp) (Q : List V → Hp → Prop) : Rt (List D) → Prop
  | .ok ds env' => ∀ vs H' N' n, Rep G μ env' σ H' N' → Stp μ ro env H N env' H' N' → RpL G H' ds vs n → AOk μ al n env N H env' N' → Dq μ dp n env N H N' → Q vs H'
  | .exc x env' => XQ G μ W env N σ H x env'
  | .bad => False
def tL (G : Gt) (μ : List Md) (W : WX) (ro al dp : Bool) (m : AM) : TA := fun σ H Q => ∃ env N, Rep G μ env σ H N ∧ LQ G μ W ro al dp env N σ H Q (m env)
structure PLV (X : Cx) (xv : XV) (μ : List Md) (W : WX) (es : List Expr) (ro al dp : Bool) (m : AM) : Prop where
  pa : PA X es (tL (gx X xv) μ W ro al dp m)
  rok : ro = true → ∀ env d e', m env = .ok d e' → e' = env
def aNil : AM := fun env => .ok [] env
def aCons3 (d : D) (ds : List D) (e : En) : Rt (List D) := .ok (d :: ds) e
def aCons2 (ms : AM) (d : D) (e : En) : Rt (List D) := (ms e).bind (aCons3 d)
def aCons (m : EM) (ms : AM) : AM := fun env => (m env).bind (aCons2 ms)
section
variable {X : Cx} {xv : XV} {μ : List Md} {W : WX} {pos : Pos} {e : Expr} {es : List Expr} {ro1 ro2 al2 dp2 : Bool} {md1 : Md} {m : EM} {ms : AM}
theorem l_nil {dp : Bool} : PLV X xv μ W [] true false dp aNil := by
  refine ⟨PA.imp pa_nil fun σ H Q ⟨env, N, R, q⟩ => ?_, fun _ env d e' h => by cases h; rfl⟩
  exact q [] H N [] R .refl (by simp [RpL]) ⟨by simp, by simp⟩ fun _ a ha => by cases ha
theorem l_cons (h1 : PEV X xv μ W e ro1 md1 m) (h2 : PLV X xv μ W es ro2 al2 dp2 ms) (al : md1 = .al → ro2 = true := by decide) (hs : starEach (e :: es) X.env = (false, eval e X.env) :: starEach es X.env := by rfl) :
    PLV X xv μ W (e :: es) (ro1 && ro2) (decide (md1 = .al) || al2) (decide (md1 = .d) && dp2) (aCons m ms) := by
  refine ⟨PA.imp (pa_cons h1.pe h2.pa hs) fun σ H Q ⟨env, N, R0, q⟩ => ?_, fun z env d e' k => ?_⟩
  · refine ⟨env, N, R0, ?_⟩
    unfold aCons at q
    cases e1 : m env with
    | bad => rw [e1] at q; exact q
    | exc x env1 => rw [e1] at q; exact q
    | ok d env1 =>
      rw [e1] at q
      simp only [Rt.bind_ok, aCons2] at q
      intro v1 H1 N1 n1 R1 S1 r1 V1
      refine ⟨env1, N1, R1, ?_⟩
      cases e2 : ms env1 with
      | bad => rw [e2] at q; exact q
      | exc x env2 => rw [e2] at q; exact XQ.pre S1 q
      | ok ds env2 =>
        rw [e2] at q
        simp only [Rt.bind_ok, aCons3] at q
        intro vs H2 N2 n2 R2 S2 r2 A2 D2
        have r1' : Rp (gx X xv) H2 d v1 n1 := by
          by_cases z : md1 = .al
          · have := al z
            subst this
            exact S2.rpro r1
          · exact S2.rp R1 r1 (V1.nown z)
        refine q _ H2 N2 (n1 ++ n2) R2 (S1.trans S2) (by simp only [RpL]; exact ⟨v1, vs, n1, n2, rfl, r1', r2, rfl⟩) ⟨fun a ha => ?_, fun z a ha w => ?_⟩ fun z a ha => ?_
        · rcases List.mem_append.mp ha with ha | ha
          · exact V1.sub a ha
          · exact (A2.sub a ha).elim (S1.all a) fun y => .inr (S1.dom a y)
        · rw [Bool.or_eq_false_iff] at z
          have z1 : md1 ≠ .al := by simpa using z.1
          rcases List.mem_append.mp ha with ha | ha
          · rcases S2.own a w with y | y
            · exact V1.nown z1 a ha y
            · exact r1.there ha y
          · exact A2.nown z.2 a ha w
        · rw [Bool.and_eq_true] at z
          have z1 : md1 = .d := by simpa using z.1
          subst z1
          have u1 : ∀ b ∈ n1, n1.count b = 1 ∧ ¬ allS N1 b := fun b hb => V1.uq b (.inl ⟨rfl, hb⟩)
          have ap : ∀ b ∈ n1, b ∉ n2 := fun b hb hb2 => by
            rcases A2.sub b hb2 with y | y
            · exact (u1 b hb).2 y
            · exact r1.there hb y
          rw [List.count_append]
          rcases List.mem_append.mp ha with ha | ha
          · refine ⟨by rw [(u1 a ha).1, List.count_eq_zero.mpr (ap a ha)], fun y => ?_, V1.osub a (.inl ⟨rfl, ha⟩)⟩
            rcases S2.all a y with y | y
            · exact (u1 a ha).2 y
            · exact r1.there ha y
          · obtain ⟨w1, w2, w3⟩ := D2 z.2 a ha
            refine ⟨by rw [w1, List.count_eq_zero.mpr fun y => ap a y ha], w2, ?_⟩
            rcases w3 with w3 | w3
            · exact S1.wr a w3
            · exact .inr (S1.dom a w3)
  · rw [Bool.and_eq_true] at z
    unfold aCons at k
    cases e1 : m env with
    | bad => rw [e1] at k; cases k
    | exc x env1 => rw [e1] at k; cases k
    | ok d1 env1 =>
      rw [e1] at k
      simp only [Rt.bind_ok, aCons2] at k
      cases e2 : ms env1 with
      | bad => rw [e2] at k; cases k
      | exc x env2 => rw [e2] at k; cases k
      | ok ds env2 =>
        rw [e2] at k
        simp only [Rt.bind_ok, aCons3] at k
        cases k
        exact (h2.rok z.2 _ _ _ e2).trans (h1.rok z.1 _ _ _ e1)
/-! ### from an argument list to a value -/
def mArg2 (chk : Bool) (g : List D → Option D) (ds : List D) (e : En) : Rt D := fin chk (g ds) e
def mArg (chk : Bool) (g : List D → Option D) (ms : AM) : EM := fun env => (ms env).bind (mArg2 chk g)
def CallS (G : Gt) (r : List V → Hp → VK → Prop) (g : List D → Option D) : Prop := ∀ H vs ds n d (Q : VK), RpL G H ds vs n → g ds = some d →
  (∀ v H' n', Rp G H' d v n' → (∀ a o, H a = some o → H' a = some o) → (∀ x ∈ n', x ∈ n ∨ H x = none) → (∀ x, Own .r d n' x → n'.count x = 1 ∧ H x = none) → Q v H') → r vs H Q
theorem CallS.sc {G : Gt} {r : List V → Hp → VK → Prop} {g : List D → Option D} (p : ∀ ds d, g ds = some d → d.pure = true)
    (h : ∀ H vs ds n d (Q : VK), RpL G H ds vs n → g ds = some d → (∀ v, Rp G H d v [] → Q v H) → r vs H Q) : CallS G r g := fun H vs ds n d Q rl e q =>
  h H vs ds n d Q rl e fun v rv => q v H [] rv (fun _ _ k => k) (fun x hx => by cases hx) fun x o => absurd o.mem (by simp)
theorem CallS.or {G : Gt} {r r' : List V → Hp → VK → Prop} {g g' : List D → Option D} (h : CallS G r g) (h' : CallS G r' g') : CallS G (fun xs H Q => r xs H Q ∨ r' xs H Q) (fun ds => (g ds).or (g' ds)) := fun H vs ds n d Q rl e q => by
  dsimp only at e
  cases e1 : g ds with
  | some d' =>
    rw [e1] at e
    cases e
    exact .inl (h H vs ds n _ Q rl e1 q)
  | none =>
    rw [e1] at e
    exact .inr (h' H vs ds n d Q rl e q)
variable {ro al dp : Bool}
theorem arg_core {r : List V → Hp → VK → Prop} {g : List D → Option D} (hs : CallS (gx X xv) r g) {chk : Bool} (hc : al = true → chk = true) {σ : L2.St} {H : Hp} {Q : VK}
    (h : tE (gx X xv) μ W ro .r (mArg chk g ms) σ H Q) : tL (gx X xv) μ W ro al dp ms σ H fun vs H1 => r vs H1 Q := by
  obtain ⟨env, N, R0, q⟩ := h
  refine ⟨env, N, R0, ?_⟩
  unfold mArg at q
  cases e1 : ms env with
  | bad => rw [e1] at q; exact q
  | exc x env1 => rw [e1] at q; exact q
  | ok ds env1 =>
    rw [e1] at q
    simp only [Rt.bind_ok, mArg2, fin] at q
    intro vs H1 N1 n1 R1 S1 r1 A1 _
    cases eg : g ds with
    | none => rw [eg] at q; exact q.elim
    | some d =>
      rw [eg] at q
      refine hs H1 vs ds n1 d Q r1 eg fun v H3 n r3 k sub own => ?_
      have S3 : Stp μ ro env H N env1 H3 N1 := (S1.trans (Stp.new (ro := true) k)).mono (by simp)
      by_cases hp : d.pure = true
      · have hn := r3.pure hp
        subst hn
        simp only [hp, Bool.true_or, Bool.not_true, Bool.and_false, Bool.false_eq_true, if_false] at q
        exact q v H3 N1 [] (R1.ext k) S3 r3 .nil
      · have hcf : chk = false ∨ d.flat = true := by
          cases chk with
          | false => exact .inl rfl
          | true =>
            cases hf : d.flat with
            | true => exact .inr rfl
            | false => simp only [hp, hf, Bool.or_self, Bool.not_false, Bool.and_self, if_true] at q; exact q.elim
        have q' : EQ (gx X xv) μ W ro .r env N σ H Q (.ok d env1) := by
          rcases hcf with rfl | hf
          · simp only [Bool.false_and, Bool.false_eq_true, if_false] at q; exact q
          · simp only [hf, Bool.or_true, Bool.not_true, Bool.and_false, Bool.false_eq_true, if_false] at q; exact q
        refine q' v H3 N1 n (R1.ext k) S3 r3 ⟨fun x hx => ?_, fun _ x hx w => ?_, fun x o => ⟨(own x o).1, fun w => R1.there w (own x o).2⟩, fun x o => .inr (S1.dom x (own x o).2)⟩
        · rcases sub x hx with z | z
          · exact A1.sub x z
          · exact .inr (S1.dom x z)
        · rcases hcf with rfl | hf
          · have z1 : al = false := by
              cases al with
              | false => rfl
              | true => simpa using hc rfl
            rcases sub x hx with z | z
            · exact A1.nown z1 x z w
            · exact R1.there w.all z
          · obtain ⟨b, hb, hm⟩ := D.flat_one hf r3
            have ox : Own .r d n x := .inr ⟨rfl, hm, by rw [hb] at hx ⊢; simp only [List.mem_singleton] at hx; rw [hx]; rfl⟩
            exact R1.there w.all (own x ox).2
theorem mArg_ro {chk : Bool} {g : List D → Option D} (h1 : ro = true → ∀ env d e', ms env = .ok d e' → e' = env) : ro = true → ∀ env d e', mArg chk g ms env = .ok d e' → e' = env := fun z env d e' k => by
  unfold mArg at k
  cases e1 : ms env with
  | bad => rw [e1] at k; cases k
  | exc x env1 => rw [e1] at k; cases k
  | ok ds env1 =>
    rw [e1] at k
    simp only [Rt.bind_ok, mArg2, fin] at k
    have q1 := h1 z _ _ _ e1
    split at k
    · split at k
      · cases k
      · cases k; exact q1
    · cases k
theorem mArg_pure {chk : Bool} {g : List D → Option D} (p : ∀ ds d, g ds = some d → d.pure = true) : ∀ env d e', mArg chk g ms env = .ok d e' → d.pure = true := fun env d e' k => by
  unfold mArg at k
  cases e1 : ms env with
  | bad => rw [e1] at k; cases k
  | exc x env1 => rw [e1] at k; cases k
  | ok ds env1 =>
    rw [e1] at k
    simp only [Rt.bind_ok, mArg2, fin] at k
    cases eg : g ds with
    | none => rw [eg] at k; cases k
    | some d' =>
      rw [eg] at k
      simp only at k
      split at k
      · cases k
      · cases k; exact p _ _ eg
theorem mArg_chk {g : List D → Option D} (p : ∀ ds d, g ds = some d → d.pure = true) : mArg true g ms = mArg false g ms := by
  funext env
  unfold mArg
  cases e1 : ms env with
  | bad => rfl
  | exc x env1 => rfl
  | ok ds env1 =>
    simp only [Rt.bind_ok, mArg2, fin]
    cases eg : g ds with
    | none => rfl
    | some d' => simp [p _ _ eg]
/-- a value from arguments, by its rule -/
theorem v_args {ex : Expr} {r : List V → Hp → VK → Prop} {g : List D → Option D} (hs : CallS (gx X xv) r g) (hp : ∀ {t : TA}, PA X es t → PE X ex (fun σ H Q => t σ H fun vs H1 => r vs H1 Q)) (h : PLV X xv μ W es ro al dp ms) (chk : Bool) (hc : al = true → chk = true) : PEV X xv μ W ex ro .r (mArg chk g ms) :=
  ⟨PE.imp (hp h.pa) fun σ H Q q => arg_core hs hc q, mArg_ro h.rok⟩
/-- .. a scalar -/
theorem v_argsS {ex : Expr} {r : List V → Hp → VK → Prop} {g : List D → Option D} (hs : CallS (gx X xv) r g) (p : ∀ ds d, g ds = some d → d.pure = true) (hp : ∀ {t : TA}, PA X es t → PE X ex (fun σ H Q => t σ H fun vs H1 => r vs H1 Q)) (h : PLV X xv μ W es ro al dp ms) {md : Md} : PEV X xv μ W ex ro md (mArg false g ms) := by
  rw [← mArg_chk p]
  exact v_up (v_args hs hp h true fun _ => rfl) (mArg_pure p)
/-! ### displays -/
def dTup (ds : List D) : Option D := if ds.length ≤ LIM then some (.tup ds) else none
def dLst (ds : List D) : Option D := if ds.length ≤ LIM then some (.lst ds) else none
theorem cs_tup : CallS (gx X xv) (fun vs H Q => vs.length ≤ sizeLine ∧ ∀ p, H p = none → Q (.ref p) (upd H p (.tup vs))) dTup := fun H vs ds n d Q rl e q => by
  unfold dTup at e
  split at e
  · rename_i hl
    cases e
    refine ⟨by rw [LIM_eq, ← rl.len]; exact hl, fun p hp => q _ _ n (Rp.newT hp rl) (ext_upd hp) (fun x hx => .inl hx) fun x o => absurd o (own_tup x)⟩
  · cases e
theorem cs_lst : CallS (gx X xv) (fun vs H Q => vs.length ≤ sizeLine ∧ ∀ p, H p = none → Q (.ref p) (upd H p (.lst vs))) dLst := fun H vs ds n d Q rl e q => by
  unfold dLst at e
  split at e
  · rename_i hl
    cases e
    refine ⟨by rw [LIM_eq, ← rl.len]; exact hl, fun p hp => q _ _ (p :: n) (Rp.newL hp rl) (ext_upd hp) (fun x hx => ?_) (own_newL hp (rl.fresh hp))⟩
    rcases List.mem_cons.mp hx with rfl | hx
    · exact .inr hp
    · exact .inl hx
  · cases e
def mTup (chk : Bool) (ms : AM) : EM := mArg chk dTup ms
def mLst (chk : Bool) (ms : AM) : EM := mArg chk dLst ms
theorem v_tup {x1} (h : PLV X xv μ W es ro al dp ms) (chk : Bool) (hc : al = true → chk = true := by decide) : PEV X xv μ W (.Tuple es x1 pos) ro .r (mTup chk ms) := v_args cs_tup (fun h => pe_tup h) h chk hc
/-- of values without mutable parts -/
theorem v_lst (h : PLV X xv μ W es ro al dp ms) (hc : al = false := by rfl) : PEV X xv μ W (.List es pos) ro .r (mLst false ms) := v_args cs_lst (fun h => pe_lst h) h false (by subst hc; simp)
/-- a list that is owned with all that is in it -/
theorem v_lstD (h : PLV X xv μ W es ro al true ms) : PEV X xv μ W (.List es pos) ro .d (mLst false ms) := by
  refine ⟨PE.imp (pe_lst h.pa) fun σ H Q ⟨env, N, R0, q⟩ => ?_, mArg_ro h.rok⟩
  refine ⟨env, N, R0, ?_⟩
  unfold mLst mArg at q
  cases e1 : ms env with
  | bad => rw [e1] at q; exact q
  | exc x env1 => rw [e1] at q; exact q
  | ok ds env1 =>
    rw [e1] at q
    simp only [Rt.bind_ok, mArg2, fin, Bool.false_and, Bool.false_eq_true, if_false] at q
    intro vs H1 N1 n1 R1 S1 r1 A1 D1
    cases eg : dLst ds with
    | none => rw [eg] at q; exact q.elim
    | some d =>
      rw [eg] at q
      unfold dLst at eg
      split at eg
      · rename_i hl
        cases eg
        refine ⟨by rw [LIM_eq, ← r1.len]; exact hl, fun p hp => ?_⟩
        have np : p ∉ n1 := r1.fresh hp
        have k := ext_upd (o := .lst vs) hp
        refine q _ _ N1 (p :: n1) (R1.ext k) ((S1.trans (Stp.new (ro := true) k)).mono (by simp)) (Rp.newL hp r1) ⟨fun x hx => ?_, fun _ x hx w => ?_, fun x o => ?_, fun x o => ?_⟩
        · rcases List.mem_cons.mp hx with rfl | hx
          · exact .inr (S1.dom _ hp)
          · exact A1.sub x hx
        · rcases List.mem_cons.mp hx with rfl | hx
          · exact R1.there w.all hp
          · exact (D1 rfl x hx).2.1 w.all
        · rcases List.mem_cons.mp o.mem with rfl | hx
          · exact ⟨by rw [List.count_cons_self, List.count_eq_zero.mpr np], fun w => R1.there w hp⟩
          · have ne : x ≠ p := fun z => np (z ▸ hx)
            obtain ⟨w1, w2, w3⟩ := D1 rfl x hx
            exact ⟨by rw [List.count_cons_of_ne (Ne.symm ne)]; exact w1, w2⟩
        · rcases List.mem_cons.mp o.mem with rfl | hx
          · exact .inr (S1.dom _ hp)
          · exact (D1 rfl x hx).2.2
      · cases eg
/-! ### built-ins by name -/
section
variable {x : Str} {p : Pos} {id T : String} {r : List V → Hp → VK → Prop} {g : List D → Option D}
theorem v_callB (hcr : CallR X (.builtin id) r) (hs : CallS (gx X xv) r g) (hg : Gl X x) (hm : X.mg x = none) (hv : bootBuiltins x = some (.builtin id)) (h : PLV X xv μ W (e :: es) ro al dp ms) (chk : Bool) (hc : al = true → chk = true) (hn : x ≠ "__name__" := by decide) (hdb : (x == ("__debug__" : Str)) = false := by decide)
    (he : starEach (e :: es) X.env = (false, eval e X.env) :: starEach es X.env := by rfl) (hpl : (backTo pos (starEach es X.env)).any (·.1) = false := by rfl) : PEV X xv μ W (.Call (.Name x p) (e :: es) [] pos) ro .r (mArg chk g ms) :=
  v_args hs (fun h => pe_callB hcr hg hm hv h hn hdb he hpl) h chk hc
theorem v_callBS (hcr : CallR X (.builtin id) r) (hs : CallS (gx X xv) r g) (pp : ∀ ds d, g ds = some d → d.pure = true) (hg : Gl X x) (hm : X.mg x = none) (hv : bootBuiltins x = some (.builtin id)) (h : PLV X xv μ W (e :: es) ro al dp ms) {md : Md} (hn : x ≠ "__name__" := by decide) (hdb : (x == ("__debug__" : Str)) = false := by decide)
    (he : starEach (e :: es) X.env = (false, eval e X.env) :: starEach es X.env := by rfl) (hpl : (backTo pos (starEach es X.env)).any (·.1) = false := by rfl) : PEV X xv μ W (.Call (.Name x p) (e :: es) [] pos) ro md (mArg false g ms) :=
  v_argsS hs pp (fun h => pe_callB hcr hg hm hv h hn hdb he hpl) h
theorem v_callTy (hcr : CallR X (.type T) r) (hs : CallS (gx X xv) r g) (hg : Gl X x) (hm : X.mg x = none) (hv : bootBuiltins x = some (.type T)) (h : PLV X xv μ W (e :: es) ro al dp ms) (chk : Bool) (hc : al = true → chk = true) (hn : x ≠ "__name__" := by decide) (hdb : (x == ("__debug__" : Str)) = false := by decide)
    (he : starEach (e :: es) X.env = (false, eval e X.env) :: starEach es X.env := by rfl) (hpl : (backTo pos (starEach es X.env)).any (·.1) = false := by rfl) : PEV X xv μ W (.Call (.Name x p) (e :: es) [] pos) ro .r (mArg chk g ms) :=
  v_args hs (fun h => pe_callTy hcr hg hm hv h hn hdb he hpl) h chk hc
theorem v_callTyS (hcr : CallR X (.type T) r) (hs : CallS (gx X xv) r g) (pp : ∀ ds d, g ds = some d → d.pure = true) (hg : Gl X x) (hm : X.mg x = none) (hv : bootBuiltins x = some (.type T)) (h : PLV X xv μ W (e :: es) ro al dp ms) {md : Md} (hn : x ≠ "__name__" := by decide) (hdb : (x == ("__debug__" : Str)) = false := by decide)
    (he : starEach (e :: es) X.env = (false, eval e X.env) :: starEach es X.env := by rfl) (hpl : (backTo pos (starEach es X.env)).any (·.1) = false := by rfl) : PEV X xv μ W (.Call (.Name x p) (e :: es) [] pos) ro md (mArg false g ms) :=
  v_argsS hs pp (fun h => pe_callTy hcr hg hm hv h hn hdb he hpl) h
end
end
section
variable {X : Cx} {xv : XV}
theorem RpL.one {G : Gt} {H : Hp} {d : D} {vs : List V} {n : List Addr} (h : RpL G H [d] vs n) : ∃ v, vs = [v] ∧ Rp G H d v n := by
  simp only [RpL] at h
  obtain ⟨v, vs', n1, n2, rfl, h1, ⟨rfl, rfl⟩, rfl⟩ := h
  exact ⟨v, rfl, by simpa using h1⟩
theorem RpL.two {G : Gt} {H : Hp} {d e : D} {vs : List V} {n : List Addr} (h : RpL G H [d, e] vs n) : ∃ v w n1 n2, vs = [v, w] ∧ Rp G H d v n1 ∧ Rp G H e w n2 ∧ n = n1 ++ n2 := by
  simp only [RpL] at h
  obtain ⟨v, vs', n1, n2, rfl, h1, ⟨w, ws, n3, n4, rfl, h2, ⟨rfl, rfl⟩, rfl⟩, rfl⟩ := h
  exact ⟨v, w, n1, n3, rfl, h1, h2, by simp⟩
/-- len -/
def gLen : List D → Option D
  | [.str s] => if s.length ≤ LIM then some (.int s.length) else none
  | [.tup xs] => some (.int xs.length)
  | [.lst xs] => some (.int xs.length)
  | [.scr xs] => some (.int xs.length)
  | [.dct _ kvs] => some (.int kvs.length)
  | _ => none
end
end VS
/-! VS: len, int, tuple, list, isinstance; items, slices; tests. -/
namespace VS
open PySem PySem.Spec PyProof.Rows L2
section
variable {X : Cx} {xv : XV}
/-! ### len, int, tuple, list -/
def rLen (K : PySem.W.Frag) : List V → Hp → VK → Prop := fun xs H Q => (∃ p ys, xs = [.ref p] ∧ (SqL K H p ys ∨ SqT K H p ys) ∧ Q (.int ys.length) H) ∨ (∃ z, xs = [.str z] ∧ z.length ≤ sizeLine ∧ Q (.int z.length) H)
theorem crv_len : CallR X (.builtin "len") (rLen X.K) := CallR.or call_len_seq call_len_str
def gLn : List D → Option D
  | [.str s] => if s.length ≤ LIM then some (.int s.length) else none
  | [.tup xs] => some (.int xs.length)
  | [.lst xs] => some (.int xs.length)
  | [.scr xs] => some (.int xs.length)
  | _ => none
theorem pu_len : ∀ ds d, gLn ds = some d → d.pure = true := fun ds d e => by
  unfold gLn at e
  split at e <;> (first | (split at e <;> cases e <;> rfl) | (cases e; try rfl))
theorem scr_sq {G : Gt} {H : Hp} {ns : List Int} {a : Addr} (h : (∃ o, H a = some (.frz o (.lst (ns.map V.int)))) ∨ ∀ H' : Hp, SqL G.K H' a (ns.map V.int)) : SqL G.K H a (ns.map V.int) := by
  rcases h with ⟨o, h⟩ | h
  · exact .inl (.inr ⟨o, h⟩)
  · exact h H
theorem cs_len : CallS (gx X xv) (rLen X.K) gLn := CallS.sc pu_len fun H vs ds n d Q rl e q => by
  unfold gLn at e
  split at e
  · split at e
    · rename_i h
      cases e
      obtain ⟨v, rfl, r⟩ := rl.one
      simp only [Rp] at r
      obtain ⟨rfl, _⟩ := r
      exact .inr ⟨_, rfl, by rw [LIM_eq]; exact h, q _ (by simp [Rp])⟩
    · cases e
  · cases e
    obtain ⟨v, rfl, r⟩ := rl.one
    simp only [Rp] at r
    obtain ⟨a, vs, rfl, h1, h2⟩ := r
    refine .inl ⟨a, vs, rfl, .inr (SqT.of h1), ?_⟩
    rw [← h2.len]
    exact q _ (by simp [Rp])
  · cases e
    obtain ⟨v, rfl, r⟩ := rl.one
    simp only [Rp] at r
    obtain ⟨a, vs, m, rfl, h1, h2, _⟩ := r
    refine .inl ⟨a, vs, rfl, .inl (SqL.of h1), ?_⟩
    rw [← h2.len]
    exact q _ (by simp [Rp])
  · cases e
    obtain ⟨v, rfl, r⟩ := rl.one
    simp only [Rp] at r
    obtain ⟨a, rfl, h1, _⟩ := r
    refine .inl ⟨a, _, rfl, .inl (scr_sq (G := gx X xv) h1), ?_⟩
    rw [List.length_map]
    exact q _ (by simp [Rp])
  · cases e
def gInt : List D → Option D
  | [.int i] => some (.int i)
  | [.bl b] => some (.int (if b then 1 else 0))
  | _ => none
theorem pu_int : ∀ ds d, gInt ds = some d → d.pure = true := fun ds d e => by
  unfold gInt at e
  split at e <;> (cases e; try rfl)
theorem cs_int : CallS (gx X xv) (fun xs H Q => (∃ i, xs = [.int i] ∧ Q (.int i) H) ∨ ∃ k, xs = [.bl k] ∧ Q (.int (if k then 1 else 0)) H) gInt := CallS.sc pu_int fun H vs ds n d Q rl e q => by
  unfold gInt at e
  split at e
  · cases e
    obtain ⟨v, rfl, r⟩ := rl.one
    simp only [Rp] at r
    obtain ⟨rfl, _⟩ := r
    exact .inl ⟨_, rfl, q _ (by simp [Rp])⟩
  · cases e
    obtain ⟨v, rfl, r⟩ := rl.one
    simp only [Rp] at r
    obtain ⟨rfl, _⟩ := r
    exact .inr ⟨_, rfl, q _ (by simp [Rp])⟩
  · cases e
def gTup : List D → Option D
  | [.tup xs] => some (.tup xs)
  | [.lst xs] => some (.tup xs)
  | _ => none
theorem cs_tuple : CallS (gx X xv) (fun xs H Q => ∃ p ys, xs = [.ref p] ∧ ((SqL X.K H p ys ∧ ∀ l, H l = none → Q (.ref l) (upd H l (.tup ys))) ∨ (SqT X.K H p ys ∧ Q (.ref p) H))) gTup := fun H vs ds n d Q rl e q => by
  unfold gTup at e
  split at e
  · cases e
    obtain ⟨v, rfl, r⟩ := rl.one
    have r0 := r
    simp only [Rp] at r
    obtain ⟨a, vs, rfl, h1, h2⟩ := r
    exact ⟨a, vs, rfl, .inr ⟨SqT.of h1, q _ H n r0 (fun _ _ k => k) (fun x hx => .inl hx) fun x o => absurd o (own_tup x)⟩⟩
  · cases e
    obtain ⟨v, rfl, r⟩ := rl.one
    simp only [Rp] at r
    obtain ⟨a, vs, m, rfl, h1, h2, rfl⟩ := r
    exact ⟨a, vs, rfl, .inl ⟨SqL.of h1, fun l hl => q _ _ m (Rp.newT hl h2) (ext_upd hl) (fun x hx => .inl (by simp [hx])) fun x o => absurd o (own_tup x)⟩⟩
  · cases e
def gList : List D → Option D
  | [.tup xs] => some (.lst xs)
  | [.lst xs] => some (.lst xs)
  | [.scr ns] => some (.lst (ns.map .int))
  | _ => none
theorem RpL.ints {G : Gt} {H : Hp} : ∀ {ns : List Int}, RpL G H (ns.map .int) (ns.map V.int) []
  | [] => by simp [RpL]
  | i :: r => by
    simp only [List.map_cons, RpL]
    exact ⟨.int i, _, [], [], rfl, by simp [Rp], RpL.ints, rfl⟩
theorem cs_list : CallS (gx X xv) (fun xs H Q => ∃ p ys, xs = [.ref p] ∧ (SqL X.K H p ys ∨ SqT X.K H p ys) ∧ ∀ l, H l = none → Q (.ref l) (upd H l (.lst ys))) gList := fun H vs ds n d Q rl e q => by
  have fin : ∀ {xs : List D} {ys : List V} {m : List Addr}, RpL (gx X xv) H xs ys m → d = .lst xs → (∀ x ∈ m, x ∈ n) → ∀ l, H l = none → Q (.ref l) (upd H l (.lst ys)) := fun {xs ys m} h2 hd hm l hl => by
    subst hd
    refine q _ _ (l :: m) (Rp.newL hl h2) (ext_upd hl) (fun x hx => ?_) (own_newL hl (h2.fresh hl))
    rcases List.mem_cons.mp hx with rfl | hx
    · exact .inr hl
    · exact .inl (hm x hx)
  unfold gList at e
  split at e
  · cases e
    obtain ⟨v, rfl, r⟩ := rl.one
    simp only [Rp] at r
    obtain ⟨a, vs, rfl, h1, h2⟩ := r
    exact ⟨a, vs, rfl, .inr (SqT.of h1), fin h2 rfl fun x hx => hx⟩
  · cases e
    obtain ⟨v, rfl, r⟩ := rl.one
    simp only [Rp] at r
    obtain ⟨a, vs, m, rfl, h1, h2, rfl⟩ := r
    exact ⟨a, vs, rfl, .inl (SqL.of h1), fin h2 rfl fun x hx => by simp [hx]⟩
  · cases e
    obtain ⟨v, rfl, r⟩ := rl.one
    simp only [Rp] at r
    obtain ⟨a, rfl, h1, _⟩ := r
    exact ⟨a, _, rfl, .inl (scr_sq (G := gx X xv) h1), fin RpL.ints rfl fun x hx => by cases hx⟩
  · cases e
def gAbs : List D → Option D
  | [.int i] => some (.int (if i < 0 then -i else i))
  | _ => none
theorem pu_abs : ∀ ds d, gAbs ds = some d → d.pure = true := fun ds d e => by
  unfold gAbs at e
  split at e <;> (cases e; try rfl)
theorem cs_abs : CallS (gx X xv) (fun xs H Q => ∃ i, xs = [.int i] ∧ Q (.int (if i < 0 then -i else i)) H) gAbs := CallS.sc pu_abs fun H vs ds n d Q rl e q => by
  unfold gAbs at e
  split at e
  · cases e
    obtain ⟨v, rfl, r⟩ := rl.one
    simp only [Rp] at r
    obtain ⟨rfl, _⟩ := r
    exact ⟨_, rfl, q _ (by simp [Rp])⟩
  · cases e
/-! ### isinstance of built-in types -/
inductive Ty7 | non | bool | int | str | tuple | list | dict
  deriving DecidableEq
def Ty7.nm : Ty7 → String
  | .non => "NoneType" | .bool => "bool" | .int => "int" | .str => "str" | .tuple => "tuple" | .list => "list" | .dict => "dict"
def Ty7.sub : Ty7 → Ty7 → Bool
  | .bool, .int => true
  | a, b => decide (a = b)
theorem kit7 (K : PySem.W.Frag) : ∀ a b : Ty7, PySem.W.kitOne K (.type a.nm) (.type b.nm) = some (a.sub b) := by
  intro a b
  cases a <;> cases b <;> exact kit_ty (by decide +kernel)
def D.ty7 : D → Option Ty7
  | .non => some .non
  | .bl _ => some .bool
  | .int _ => some .int
  | .str _ => some .str
  | .tup _ => some .tuple
  | .lst _ | .scr _ => some .list
  | .dct ⟨_, false⟩ _ => some .dict
  | _ => none
def ty7 : String → Option Ty7
  | "NoneType" => some .non
  | "bool" => some .bool
  | "int" => some .int
  | "str" => some .str
  | "tuple" => some .tuple
  | "list" => some .list
  | "dict" => some .dict
  | _ => none
theorem ty7_nm {n : String} {t : Ty7} (h : ty7 n = some t) : t.nm = n := by
  unfold ty7 at h
  split at h <;> cases h <;> rfl
theorem tyx7 {H : Hp} {d : D} {v : V} {n : List Addr} {t : Ty7} (h : Rp (gx X xv) H d v n) (e : d.ty7 = some t) : TyX X.K H v (.type t.nm) := by
  unfold D.ty7 at e
  split at e <;> (try cases e) <;> simp only [Rp] at h
  · rw [h.1]; exact .base .non
  · rw [h.1]; exact .base (.bl _)
  · rw [h.1]; exact .base (.int _)
  · rw [h.1]; exact .base (.str _)
  · obtain ⟨a, vs, rfl, h1, h2⟩ := h
    exact .base (.tup h1)
  · obtain ⟨a, vs, m, rfl, h1, h2, _⟩ := h
    exact .base (.lst h1)
  · obtain ⟨a, rfl, h1, _⟩ := h
    rcases scr_sq (G := gx X xv) h1 with (h1 | ⟨o, h1⟩) | ⟨o, its, k, h1, hc, _⟩
    · exact .base (.lst h1)
    · exact .base (.frz h1)
    · exact .kList h1 hc
  · obtain ⟨a, ws, m, rfl, h1, _⟩ := h
    rcases h1 with ⟨_, kk, _, _, _, h1⟩ | ⟨_, kk, _, _, _, h1⟩
    · exact .base (.dK (h1.un rfl))
    · exact .base (.dT (h1.un rfl))
def tysOf : List D → Option (List Ty7)
  | [] => some []
  | .ty n :: r => match ty7 n, tysOf r with
    | some t, some ts => some (t :: ts)
    | _, _ => none
  | _ => none
def gIsi : List D → Option D
  | [d, .ty n] => match d.ty7, ty7 n with
    | some a, some b => some (.bl (a.sub b))
    | _, _ => none
  | [d, .tup cs] => match d.ty7, tysOf cs with
    | some a, some bs => some (.bl (bs.any fun b => a.sub b))
    | _, _ => none
  | _ => none
theorem pu_isi : ∀ ds d, gIsi ds = some d → d.pure = true := fun ds d e => by
  unfold gIsi at e
  split at e <;> (first | (split at e <;> (cases e; try rfl)) | cases e)
/-- isinstance(x, (..)) -/
def rIsiS (K : PySem.W.Frag) : List V → Hp → VK → Prop := fun xs H Q => ∃ (x : V) (tp : Addr) (cs : List V) (t : Value) (us : List Value) (b : Bool), xs = [x, .ref tp] ∧ SqT K H tp cs ∧ Paired ClsV cs us ∧ TyX K H x t ∧ PySem.W.kitAny K t us = some b ∧ Q (.bl b) H
theorem call_isiS : CallR X (.builtin "isinstance") (rIsiS X.K) := by
  intro pins s σ H xs us Q I r h
  obtain ⟨x, tp, cs, t, ws, b, rfl, hT, k, ty, e, q⟩ := h
  obtain ⟨u1, u2, rfl, r1, r2⟩ := vals2 r
  cases (show u2 = Value.ref tp from r2)
  obtain ⟨P, Z, p, hx⟩ := kit_of I r1 ty
  obtain ⟨its, rv, ⟨o, h1, h2, n, h3⟩, _⟩ := I.tuple hT
  have e3 := ClsV.all k rv
  subst e3
  obtain ⟨oc, od, dt, sl⟩ := o
  simp only at h2 h3
  subst h2 h3
  exact PySem.W.kia_tup Z I.kIn p h1 e hx fun tk => ⟨.bl b, H, I.tok tk, rfl, q⟩
def rIsiV (K : PySem.W.Frag) : List V → Hp → VK → Prop := fun xs H Q => rIsi K xs H Q ∨ rIsiS K xs H Q
theorem crv_isi : CallR X (.builtin "isinstance") (rIsiV X.K) := CallR.or call_isi call_isiS
theorem tysOf_vals {H : Hp} : ∀ {cs : List D} {ts : List Ty7} {vs : List V} {n : List Addr}, tysOf cs = some ts → RpL (gx X xv) H cs vs n → Paired ClsV vs (ts.map fun t => Value.type t.nm)
  | [], _, _, _, e, h => by
    simp only [tysOf] at e
    cases e
    simp only [RpL] at h
    rw [h.1]
    exact .nil
  | c :: r, ts, _, _, e, h => by
    unfold tysOf at e
    split at e
    · rename_i hc
      cases hc
    · rename_i n r' hc
      injection hc with h1 h2
      subst h1 h2
      split at e
      · rename_i t ts' h1 h2
        cases e
        simp only [RpL] at h
        obtain ⟨v, vs', n1, n2, rfl, h3, h4, _⟩ := h
        simp only [Rp] at h3
        obtain ⟨rfl, _⟩ := h3
        rw [List.map_cons, ty7_nm h1]
        exact .cons (.ty _) (tysOf_vals h2 h4)
      · cases e
    · cases e
theorem kitAny7 (K : PySem.W.Frag) (a : Ty7) : ∀ ts : List Ty7, PySem.W.kitAny K (.type a.nm) (ts.map fun t => Value.type t.nm) = some (ts.any fun b => a.sub b)
  | [] => rfl
  | t :: r => by
    rw [List.map_cons, List.any_cons]
    refine kitAny_cons (kit7 K a t) (fun z => ?_) fun z => ?_
    · rw [z, Bool.false_or]; exact kitAny7 K a r
    · rw [z]; rfl
theorem cs_isi : CallS (gx X xv) (rIsiV X.K) gIsi := CallS.sc pu_isi fun H vs ds n d Q rl e q => by
  unfold gIsi at e
  split at e
  · split at e
    · rename_i a b h1 h2
      cases e
      obtain ⟨v, w, n1, n2, rfl, r1, r2, _⟩ := rl.two
      simp only [Rp] at r2
      obtain ⟨rfl, _⟩ := r2
      refine .inl ⟨v, _, _, .type _, a.sub b, rfl, .ty _, tyx7 r1 h1, ?_, q _ (by simp [Rp])⟩
      rw [← ty7_nm h2]
      exact kit7 X.K a b
    · cases e
  · split at e
    · rename_i a bs h1 h2
      cases e
      obtain ⟨v, w, n1, n2, rfl, r1, r2, _⟩ := rl.two
      simp only [Rp] at r2
      obtain ⟨p, ws, rfl, h3, h4⟩ := r2
      exact .inr ⟨v, p, ws, _, _, _, rfl, SqT.of h3, tysOf_vals h2 h4, tyx7 r1 h1, kitAny7 X.K a bs, q _ (by simp [Rp])⟩
    · cases e
  · cases e
end
end VS
/-! VS: items, slices, not, and, or, tests, if-else, chains. -/
namespace VS
open PySem PySem.Spec PyProof.Rows L2
/-- what an item's mode is -/
def itMd (md : Md) : Md := if md = .al then .al else .s
def OpA (G : Gt) (r : R2) (g : D → D → Option D) : Prop := ∀ H a b da db na nb d (Q : VK), Rp G H da a na → Rp G H db b nb → g da db = some d →
  (∀ v n, Rp G H d v n → (∀ x ∈ n, x ∈ na) → Q v H) → r a b H Q
def dAt (ds : List D) (i : Int) : Option D := atI ds i
def pyIdx : D → D → Option D
  | .tup xs, .int i => atI xs i
  | .lst xs, .int i => atI xs i
  | .scr ns, .int i => (atI ns i).map .int
  | .str z, .int i => if z.length ≤ LIM then (atI z.cps.toList i).map fun c => .str ⟨#[c]⟩ else none
  | .dct t kvs, k => if isKey t.t k = true then dGet kvs k else none
  | _, _ => none
def rIxA (K : PySem.W.Frag) : R2 := fun x y H Q => rIx K x y H Q ∨ ∃ a v, x = .ref a ∧ DGet H a y (some v) ∧ Q v H
theorem ix_dct {X : Cx} (hu : X.A.units + 1 < cLine) : IxR X (fun x y H Q => ∃ a v, x = .ref a ∧ DGet H a y (some v) ∧ Q v H) := by
  intro value slice pins s σ H x y v u Q J rx ry h hs
  obtain ⟨a, w, rfl, g, q⟩ := h
  cases rx
  have hT := dict_typeIs J g
  unfold subscriptTail
  refine wpAny_bind ?_
  rw [getitemInPython_of_ne hT.not_modules]
  refine wpAny_bind (wpAny_specialOf hT PySem.F.slot_dict_getitem.lookup ?_)
  have fin : wpAny (model X.prog X.w) X.A (subscripted slice false (.ref a) u >>= fun r => (letTemporaryGo value (.ref a) r >>= fun _ => pure r)) (EP X pins σ Q) X.xe s := by
    refine wpAny_bind ?_
    rw [hs]
    exact wpAny_operating (wpAny_mono (d_getItem hu J g ry fun w' s3 J3 rw' => (⟨w, H, J3, rw', q⟩ : EP X pins σ Q w' s3)) (fun r s₃ h₃ => wpAny_bind (wpAny_letTemporaryGo (wpAny_pure h₃))) fun _ _ x => x)
  first
    | exact fin
    | exact wpAny_pure fin
theorem ix_any {X : Cx} (hu : X.A.units + 1 < cLine) : IxR X (rIxA X.K) := ix_seq.or (ix_dct hu)
section
variable {X : Cx} {xv : XV}
theorem RpL.atI {G : Gt} {H : Hp} {xs : List D} {vs : List V} {n : List Addr} {i : Int} {d : D} (h : RpL G H xs vs n) (e : L2.atI xs i = some d) : ∃ v m, L2.atI vs i = some v ∧ Rp G H d v m ∧ ∀ a ∈ m, a ∈ n := by
  unfold L2.atI at e ⊢
  rw [← h.len]
  cases e1 : ixN xs.length i with
  | none => rw [e1] at e; cases e
  | some j =>
    rw [e1] at e
    simp only [Option.bind_some] at e ⊢
    exact h.get e
theorem opa_ix : OpA (gx X xv) (rIxA X.K) pyIdx := fun H a b da db na nb d Q ra rb e q => by
  unfold pyIdx at e
  split at e
  · simp only [Rp] at ra rb
    obtain ⟨p, vs, rfl, h1, h2⟩ := ra
    obtain ⟨rfl, _⟩ := rb
    obtain ⟨v, m, e1, r, hm⟩ := h2.atI e
    exact .inl (.inr (.inl ⟨p, vs, _, v, rfl, rfl, (SqT.of h1), e1, q v m r hm⟩))
  · simp only [Rp] at ra rb
    obtain ⟨p, vs, n', rfl, h1, h2, rfl⟩ := ra
    obtain ⟨rfl, _⟩ := rb
    obtain ⟨v, m, e1, r, hm⟩ := h2.atI e
    exact .inl (.inl ⟨p, vs, _, v, rfl, rfl, SqL.of h1, e1, q v m r fun x hx => by simp [hm x hx]⟩)
  · rename_i ns i
    simp only [Rp] at ra rb
    obtain ⟨p, rfl, h1, _⟩ := ra
    obtain ⟨rfl, _⟩ := rb
    cases e1 : L2.atI ns i with
    | none => rw [e1] at e; cases e
    | some k =>
      rw [e1] at e
      cases e
      refine .inl (.inl ⟨p, _, _, .int k, rfl, rfl, scr_sq (G := gx X xv) h1, ?_, q _ [] (by simp [Rp]) (by simp)⟩)
      unfold L2.atI at e1 ⊢
      rw [List.length_map]
      cases e2 : ixN ns.length i with
      | none => rw [e2] at e1; cases e1
      | some j =>
        rw [e2] at e1
        simp only [Option.bind_some] at e1 ⊢
        rw [List.getElem?_map, e1]
        rfl
  · split at e
    · rename_i z i hz
      simp only [Rp] at ra rb
      obtain ⟨rfl, _⟩ := ra
      obtain ⟨rfl, _⟩ := rb
      cases e1 : L2.atI z.cps.toList i with
      | none => rw [e1] at e; cases e
      | some c =>
        rw [e1] at e
        cases e
        exact .inl (.inr (.inr ⟨z, i, c, rfl, rfl, by rw [LIM_eq]; exact hz, e1, q _ [] (by simp [Rp]) (by simp)⟩))
    · cases e
  · split at e
    · rename_i hk
      simp only [Rp] at ra
      obtain ⟨p, ws, m, rfl, h1, h2, rfl⟩ := ra
      obtain ⟨v, n, g1, g2, g3⟩ := (dget_at hk h1 h2 rb).1 d e
      exact .inr ⟨p, v, rfl, g1, q v n g2 fun x hx => by simp [g3 x hx]⟩
    · cases e
  · cases e
end
section
variable {X : Cx} {xv : XV} {μ : List Md} {W : WX} {pos : Pos} {a b c : Expr} {ro1 ro2 ro3 : Bool} {md1 md2 : Md} {m1 m2 m3 : EM}
theorem ixa_core {r : R2} {g : D → D → Option D} (hs : OpA (gx X xv) r g) (h1 : ro1 = true → ∀ env d e', m1 env = .ok d e' → e' = env) (al : md1 = .al → ro2 = true) {σ : L2.St} {H : Hp} {Q : VK}
    (h : tE (gx X xv) μ W (ro1 && ro2) (itMd md1) (mBin false g m1 m2) σ H Q) : tOp r (tE (gx X xv) μ W ro1 md1 m1) (tE (gx X xv) μ W ro2 md2 m2) σ H Q := by
  obtain ⟨env, N, R0, q⟩ := h
  refine ⟨env, N, R0, ?_⟩
  unfold mBin at q
  cases e1 : m1 env with
  | bad => rw [e1] at q; exact q
  | exc x env1 => rw [e1] at q; exact q
  | ok da env1 =>
    rw [e1] at q
    simp only [Rt.bind_ok, mBin2] at q
    intro v1 H1 N1 n1 R1 S1 r1 V1
    refine ⟨env1, N1, R1, ?_⟩
    cases e2 : m2 env1 with
    | bad => rw [e2] at q; exact q
    | exc x env2 => rw [e2] at q; exact XQ.pre S1 q
    | ok db env2 =>
      rw [e2] at q
      simp only [Rt.bind_ok, mBin3, fin, Bool.false_and, Bool.false_eq_true, if_false] at q
      intro v2 H2 N2 n2 R2 S2 r2 V2
      have S12 := S1.trans S2
      have r1' : Rp (gx X xv) H2 da v1 n1 := by
        by_cases z : md1 = .al
        · have := al z
          subst this
          exact S2.rpro r1
        · exact S2.rp R1 r1 (V1.nown z)
      cases eg : g da db with
      | none => rw [eg] at q; exact q.elim
      | some d =>
        rw [eg] at q
        refine hs H2 v1 v2 da db n1 n2 d Q r1' r2 eg fun v n r3 sub => ?_
        refine q v H2 N2 n R2 S12 r3 ⟨fun x hx => V1.sub x (sub x hx), fun z x hx w => ?_, fun x o => ?_, fun x o => ?_⟩
        · have z1 : md1 ≠ .al := fun y => by simp [itMd, y] at z
          rcases S2.own x w with y | y
          · exact V1.nown z1 x (sub x hx) y
          · exact r1.there (sub x hx) y
        all_goals
          unfold itMd at o
          split at o
          · exact absurd o Own.noA
          · exact absurd o Own.noS
def mIdx (m1 m2 : EM) : EM := mBin false pyIdx m1 m2
/-- a[b] -/
theorem v_idx {k : Nat} (h1 : PEV X xv μ W a ro1 md1 m1) (h2 : PEV X xv μ W b ro2 md2 m2) (hr : Room k X.A) (al : md1 = .al → ro2 = true := by decide) (hs : PlainIx b := by intro _ _; rfl) : PEV X xv μ W (.Subscript a b pos) (ro1 && ro2) (itMd md1) (mIdx m1 m2) :=
  ⟨PE.imp (pe_ix (ix_any (by have := hr.un; omega)) h1.pe h2.pe hs) fun σ H Q q => ixa_core opa_ix h1.rok al q, mBin_ro h1.rok h2.rok⟩
/-! ### slices -/
def pySl (d : D) (lo hi : Option Int) : Option D := match d with
  | .tup xs => some (.tup (((xs.drop (HT.sIx xs.length 0 lo)).take (HT.sIx xs.length xs.length hi - HT.sIx xs.length 0 lo))))
  | .lst xs => some (.lst (((xs.drop (HT.sIx xs.length 0 lo)).take (HT.sIx xs.length xs.length hi - HT.sIx xs.length 0 lo))))
  | .scr xs => some (.lst ((((xs.drop (HT.sIx xs.length 0 lo)).take (HT.sIx xs.length xs.length hi - HT.sIx xs.length 0 lo))).map .int))
  | .str z => if z.length ≤ LIM then some (.str (cutS z lo hi)) else none
  | _ => none
def rSlV (K : PySem.W.Frag) : V → Option Int → Option Int → Hp → VK → Prop := fun x lo hi H Q => rSlA K x lo hi H Q ∨ rSlL K x lo hi H Q ∨ rSlS x lo hi H Q
theorem slv : SlR X (rSlV X.K) := SlR.or sl_tupA (SlR.or sl_list sl_str)
theorem RpL.cut {G : Gt} {H : Hp} {xs : List D} {vs : List V} {n : List Addr} (lo hi : Option Int) (h : RpL G H xs vs n) :
    ∃ m, RpL G H ((xs.drop (HT.sIx xs.length 0 lo)).take (HT.sIx xs.length xs.length hi - HT.sIx xs.length 0 lo)) (cutV vs lo hi) m ∧ ∀ a ∈ m, a ∈ n := by
  unfold cutV
  rw [← h.len]
  obtain ⟨m1, r1, s1⟩ := h.drop (HT.sIx xs.length 0 lo)
  obtain ⟨m2, r2, s2⟩ := r1.take (HT.sIx xs.length xs.length hi - HT.sIx xs.length 0 lo)
  exact ⟨m2, r2, fun a ha => s1 a (s2 a ha)⟩
theorem ops_sl {H : Hp} {a : V} {da d : D} {na : List Addr} {lo hi : Option Int} {Q : VK} (ra : Rp (gx X xv) H da a na) (e : pySl da lo hi = some d)
    (q : ∀ v H' n, Rp (gx X xv) H' d v n → (∀ a o, H a = some o → H' a = some o) → (∀ x ∈ n, x ∈ na ∨ H x = none) → (∀ x, Own .r d n x → n.count x = 1 ∧ H x = none) → Q v H') : rSlV X.K a lo hi H Q := by
  unfold pySl at e
  split at e
  · cases e
    have r0 := ra
    simp only [Rp] at ra
    obtain ⟨p, vs, rfl, h1, h2⟩ := ra
    obtain ⟨m, r1, s1⟩ := h2.cut lo hi
    refine .inl ⟨p, vs, rfl, (SqT.of h1), fun ⟨w1, w2⟩ => ?_, fun _ l hl => ?_⟩
    · refine q _ H na ?_ (fun _ _ k => k) (fun x hx => .inl hx) fun x o => absurd o (own_tup x)
      rw [← h2.len] at w1 w2
      rw [w1, w2, List.drop_zero, Nat.sub_zero, List.take_length]
      exact r0
    · exact q _ _ m (Rp.newT hl r1) (ext_upd hl) (fun x hx => .inl (s1 x hx)) fun x o => absurd o (own_tup x)
  · cases e
    simp only [Rp] at ra
    obtain ⟨p, vs, n', rfl, h1, h2, rfl⟩ := ra
    obtain ⟨m, r1, s1⟩ := h2.cut lo hi
    refine .inr (.inl ⟨p, vs, rfl, SqL.of h1, fun l hl => q _ _ (l :: m) (Rp.newL hl r1) (ext_upd hl) (fun x hx => ?_) (own_newL hl (r1.fresh hl))⟩)
    rcases List.mem_cons.mp hx with rfl | hx
    · exact .inr hl
    · exact .inl (by simp [s1 x hx])
  · rename_i ns
    cases e
    simp only [Rp] at ra
    obtain ⟨p, rfl, h1, rfl⟩ := ra
    have r1 : RpL (gx X xv) H (((ns.drop (HT.sIx ns.length 0 lo)).take (HT.sIx ns.length ns.length hi - HT.sIx ns.length 0 lo)).map .int) (cutV (ns.map V.int) lo hi) [] := by
      have z : cutV (ns.map V.int) lo hi = ((ns.drop (HT.sIx ns.length 0 lo)).take (HT.sIx ns.length ns.length hi - HT.sIx ns.length 0 lo)).map V.int := by
        unfold cutV
        rw [List.length_map, List.map_take, List.map_drop]
      rw [z]
      exact RpL.ints
    refine .inr (.inl ⟨p, _, rfl, scr_sq (G := gx X xv) h1, fun l hl => q _ _ [l] (Rp.newL hl r1) (ext_upd hl) (fun x hx => ?_) (own_newL hl (by simp))⟩)
    rw [List.mem_singleton] at hx
    subst hx
    exact .inr hl
  · split at e
    · rename_i hz
      cases e
      simp only [Rp] at ra
      obtain ⟨rfl, rfl⟩ := ra
      exact .inr (.inr ⟨_, rfl, by rw [LIM_eq]; exact hz, q _ H [] (by simp [Rp]) (fun _ _ k => k) (by simp) fun x o => absurd o.mem (by simp)⟩)
    · cases e
  · cases e
/-- a slice's part: without effects -/
abbrev Part := En → Option (Option Int)
def pNo : Part := fun _ => some none
def pYes2 : Rt D → Option (Option Int)
  | .ok (.int i) _ => some (some i)
  | _ => none
def pYes (m : EM) : Part := fun env => pYes2 (m env)
structure POV (X : Cx) (xv : XV) (μ : List Md) (e : Option Expr) (p : Part) : Prop where
  ex : ∃ t : TO, PO X e t ∧ ∀ (σ : L2.St) (H : Hp) (env : En) (N : Nat → List Addr) (Q : Option Int → Hp → Prop) (o : Option Int), Rep (gx X xv) μ env σ H N → p env = some o → (∀ H', (∀ a u, H a = some u → H' a = some u) → Q o H') → t σ H Q
theorem o_no : POV X xv μ none pNo := ⟨_, po_none, fun σ H env N Q o R e q => by cases e; exact q H fun _ _ k => k⟩
theorem o_yes (h : PEV X xv μ W a true md1 m1) : POV X xv μ (some a) (pYes m1) := by
  refine ⟨_, po_some h.pe, fun σ H env N Q o R e q => ⟨env, N, R, ?_⟩⟩
  unfold pYes at e
  cases e1 : m1 env with
  | bad => rw [e1] at e; cases e
  | exc x env1 => rw [e1] at e; cases e
  | ok d env1 =>
    rw [e1] at e
    intro v H' N' n R' S r V
    cases d <;> simp only [pYes2] at e <;> cases e
    simp only [Rp] at r
    exact ⟨_, r.1, q H' (S.ro rfl).2.2⟩
def mSl3 (chk : Bool) (d : D) (e : En) : Option (Option Int) → Option (Option Int) → Rt D
  | some lo, some hi => fin chk (pySl d lo hi) e
  | _, _ => .bad
def mSl2 (chk : Bool) (pl ph : Part) (d : D) (e : En) : Rt D := mSl3 chk d e (pl e) (ph e)
def mSl (chk : Bool) (m : EM) (pl ph : Part) : EM := fun env => (m env).bind (mSl2 chk pl ph)
/-- a[lo:hi], the bounds without effects -/
theorem v_sl {lo hi : Option Expr} {pl ph : Part} {p2 : Pos} (h : PEV X xv μ W a ro1 md1 m1) (hl : POV X xv μ lo pl) (hh : POV X xv μ hi ph) (chk : Bool) (hc : md1 = .al → chk = true := by decide) : PEV X xv μ W (.Subscript a (.Slice lo hi none p2) pos) ro1 .r (mSl chk m1 pl ph) := by
  obtain ⟨tl, pol, il⟩ := hl.ex
  obtain ⟨th, poh, ih⟩ := hh.ex
  refine ⟨PE.imp (pe_slice slv h.pe pol poh) fun σ H Q ⟨env, N, R0, q⟩ => ⟨env, N, R0, ?_⟩, fun z env d e' k => ?_⟩
  · unfold mSl at q
    cases e1 : m1 env with
    | bad => rw [e1] at q; exact q
    | exc x env1 => rw [e1] at q; exact q
    | ok da env1 =>
      rw [e1] at q
      simp only [Rt.bind_ok, mSl2] at q
      intro v1 H1 N1 n1 R1 S1 r1 V1
      cases e2 : pl env1 with
      | none => rw [e2] at q; cases ph env1 <;> exact q.elim
      | some lo' =>
        cases e3 : ph env1 with
        | none => rw [e2, e3] at q; exact q.elim
        | some hi' =>
          rw [e2, e3] at q
          simp only [mSl3, fin] at q
          refine il σ H1 env1 N1 _ lo' R1 e2 fun H2 k2 => ?_
          refine ih σ H2 env1 N1 _ hi' (R1.ext k2) e3 fun H3 k3 => ?_
          have k13 : ∀ a u, H1 a = some u → H3 a = some u := fun a u e => k3 a u (k2 a u e)
          cases eg : pySl da lo' hi' with
          | none => rw [eg] at q; exact q.elim
          | some d =>
            rw [eg] at q
            refine ops_sl (r1.ext k13) eg fun v H4 n r4 k4 sub own => ?_
            have k14 : ∀ a u, H1 a = some u → H4 a = some u := fun a u e => k4 a u (k13 a u e)
            have S4 : Stp μ ro1 env H N env1 H4 N1 := (S1.trans (Stp.new (ro := true) k14)).mono (by simp)
            have nn : ∀ x, H3 x = none → H1 x = none := fun x z => by
              cases y : H1 x with
              | none => rfl
              | some o => rw [k13 x o y] at z; cases z
            by_cases hp : d.pure = true
            · have hn := r4.pure hp
              subst hn
              simp only [hp, Bool.true_or, Bool.not_true, Bool.and_false, Bool.false_eq_true, if_false] at q
              exact q v H4 N1 [] (R1.ext k14) S4 r4 .nil
            · have hcf : chk = false ∨ d.flat = true := by
                cases chk with
                | false => exact .inl rfl
                | true =>
                  cases hf : d.flat with
                  | true => exact .inr rfl
                  | false => simp only [hp, hf, Bool.or_self, Bool.not_false, Bool.and_self, if_true] at q; exact q.elim
              have q' : EQ (gx X xv) μ W ro1 .r env N σ H Q (.ok d env1) := by
                rcases hcf with rfl | hf
                · simp only [Bool.false_and, Bool.false_eq_true, if_false] at q; exact q
                · simp only [hf, Bool.or_true, Bool.not_true, Bool.and_false, Bool.false_eq_true, if_false] at q; exact q
              refine q' v H4 N1 n (R1.ext k14) S4 r4 ⟨fun x hx => ?_, fun _ x hx w => ?_, fun x o => ⟨(own x o).1, fun w => R1.there w (nn x (own x o).2)⟩, fun x o => .inr (S1.dom x (nn x (own x o).2))⟩
              · rcases sub x hx with z | z
                · exact V1.sub x z
                · exact .inr (S1.dom x (nn x z))
              · rcases hcf with rfl | hf
                · have z1 : md1 ≠ .al := fun z => by simpa using hc z
                  rcases sub x hx with z | z
                  · exact V1.nown z1 x z w
                  · exact R1.there w.all (nn x z)
                · obtain ⟨b, hb, hm⟩ := D.flat_one hf r4
                  have ox : Own .r d n x := .inr ⟨rfl, hm, by rw [hb] at hx ⊢; simp only [List.mem_singleton] at hx; rw [hx]; rfl⟩
                  exact R1.there w.all (nn x (own x ox).2)
  · unfold mSl at k
    cases e1 : m1 env with
    | bad => rw [e1] at k; cases k
    | exc x env1 => rw [e1] at k; cases k
    | ok da env1 =>
      rw [e1] at k
      simp only [Rt.bind_ok, mSl2] at k
      have q1 := h.rok z _ _ _ e1
      cases e2 : pl env1 with
      | none => rw [e2] at k; cases ph env1 <;> cases k
      | some lo' =>
        cases e3 : ph env1 with
        | none => rw [e2, e3] at k; cases k
        | some hi' =>
          rw [e2, e3] at k
          simp only [mSl3, fin] at k
          split at k
          · split at k
            · cases k
            · cases k; exact q1
          · cases k
/-! ### one value -/
def mUn2 (g : D → Option D) (d : D) (e : En) : Rt D := fin false (g d) e
def mUn (g : D → Option D) (m : EM) : EM := fun env => (m env).bind (mUn2 g)
theorem mUn_ro {g : D → Option D} (h1 : ro1 = true → ∀ env d e', m1 env = .ok d e' → e' = env) : ro1 = true → ∀ env d e', mUn g m1 env = .ok d e' → e' = env := fun z env d e' k => by
  unfold mUn at k
  cases e1 : m1 env with
  | bad => rw [e1] at k; cases k
  | exc x env1 => rw [e1] at k; cases k
  | ok da env1 =>
    rw [e1] at k
    simp only [Rt.bind_ok, mUn2, fin, Bool.false_and, Bool.false_eq_true, if_false] at k
    have q1 := h1 z _ _ _ e1
    split at k
    · cases k; exact q1
    · cases k
/-- a scalar of one value -/
theorem v_unS {ex : Expr} {g : D → Option D} {r : V → Hp → VK → Prop} (hp : ∀ {t : TE}, PE X a t → PE X ex (fun σ H Q => t σ H fun x H1 => r x H1 Q))
    (hs : ∀ H v d n d' (Q : VK), Rp (gx X xv) H d v n → g d = some d' → (∀ w, Rp (gx X xv) H d' w [] → Q w H) → r v H Q) (h : PEV X xv μ W a ro1 md1 m1) {md : Md} : PEV X xv μ W ex ro1 md (mUn g m1) := by
  refine ⟨PE.imp (hp h.pe) fun σ H Q ⟨env, N, R0, q⟩ => ⟨env, N, R0, ?_⟩, mUn_ro h.rok⟩
  unfold mUn at q
  cases e1 : m1 env with
  | bad => rw [e1] at q; exact q
  | exc x env1 => rw [e1] at q; exact q
  | ok da env1 =>
    rw [e1] at q
    simp only [Rt.bind_ok, mUn2, fin, Bool.false_and, Bool.false_eq_true, if_false] at q
    intro v1 H1 N1 n1 R1 S1 r1 V1
    cases eg : g da with
    | none => rw [eg] at q; exact q.elim
    | some d =>
      rw [eg] at q
      exact hs H1 v1 da n1 d Q r1 eg fun w rw' => q w H1 N1 [] R1 S1 rw' .nil
def pyNeg : D → Option D
  | .int i => some (.int (-i))
  | _ => none
def mNeg (m : EM) : EM := mUn pyNeg m
theorem v_neg (h : PEV X xv μ W a ro1 md1 m1) {md : Md} : PEV X xv μ W (.UnaryOp .USub a pos) ro1 md (mNeg m1) :=
  v_unS (r := rU fun i => .int (-i)) (fun h => pe_un un_neg h) (fun H v d n d' Q r e q => by
    unfold pyNeg at e
    split at e
    · cases e
      simp only [Rp] at r
      exact ⟨_, r.1, q _ (by simp [Rp])⟩
    · cases e) h
def pyNotB : D → Option D
  | .bl b => some (.bl (!b))
  | _ => none
def mNotV (m : EM) : EM := mUn pyNotB m
theorem v_not (h : PEV X xv μ W a ro1 md1 m1) {md : Md} : PEV X xv μ W (.UnaryOp .Not a pos) ro1 md (mNotV m1) :=
  v_unS (r := fun x H Q => ∃ c, x = .bl c ∧ Q (.bl (!c)) H) (fun h => pe_not h) (fun H v d n d' Q r e q => by
    unfold pyNotB at e
    split at e
    · cases e
      simp only [Rp] at r
      exact ⟨_, r.1, q _ (by simp [Rp])⟩
    · cases e) h
/-! ### and, or of bools as values -/
def mAnd3 (m2 : EM) (d : D) (e : En) : Rt D := match d with
  | .bl true => m2 e
  | .bl false => .ok (.bl false) e
  | _ => .bad
def mAnd (m1 m2 : EM) : EM := fun env => (m1 env).bind (mAnd3 m2)
def mOr3 (m2 : EM) (d : D) (e : En) : Rt D := match d with
  | .bl true => .ok (.bl true) e
  | .bl false => m2 e
  | _ => .bad
def mOr (m1 m2 : EM) : EM := fun env => (m1 env).bind (mOr3 m2)
variable {rest : List Expr}
theorem EQ.mono {G : Gt} {ro ro' : Bool} {md : Md} {env env' : En} {N N' : Nat → List Addr} {σ : L2.St} {H H' : Hp} {Q : VK} {r : Rt D} (S : Stp μ ro env H N env' H' N') (q : EQ G μ W (ro && ro') md env N σ H Q r) : EQ G μ W ro' md env' N' σ H' Q r := by
  cases r with
  | bad => exact q
  | exc x e => exact XQ.pre S q
  | ok d e =>
    intro v H2 N2 n R2 S2 r2 V2
    refine q v H2 N2 n R2 (S.trans S2) r2 ⟨fun a ha => (V2.sub a ha).elim (S.all a) fun z => .inr (S.dom a z), V2.nown, V2.uq, fun a o => (V2.osub a o).elim (S.wr a) fun z => .inr (S.dom a z)⟩
theorem v_one {op : BoolOp} (h : PEV X xv μ W a ro1 md1 m1) : PEV X xv μ W (.BoolOp op [a] pos) ro1 md1 m1 := ⟨pe_one h.pe, h.rok⟩
theorem v_and (h1 : PEV X xv μ W a ro1 md1 m1) (h2 : PEV X xv μ W (.BoolOp .And (b :: rest) pos) ro2 md2 m2) : PEV X xv μ W (.BoolOp .And (a :: b :: rest) pos) (ro1 && ro2) md2 (mAnd m1 m2) := by
  refine ⟨PE.imp (pe_and h1.pe h2.pe) fun σ H Q ⟨env, N, R0, q⟩ => ⟨env, N, R0, ?_⟩, fun z env d e' k => ?_⟩
  · unfold mAnd at q
    cases e1 : m1 env with
    | bad => rw [e1] at q; exact q
    | exc x env1 => rw [e1] at q; exact q
    | ok da env1 =>
      rw [e1] at q
      intro v1 H1 N1 n1 R1 S1 r1 V1
      simp only [Rt.bind_ok, mAnd3] at q
      split at q
      · simp only [Rp] at r1
        refine ⟨true, r1.1, ?_⟩
        rw [if_pos rfl]
        exact ⟨env1, N1, R1, EQ.mono S1 q⟩
      · simp only [Rp] at r1
        refine ⟨false, r1.1, ?_⟩
        rw [if_neg Bool.false_ne_true]
        exact (EQ.mono (ro' := ro2) S1 q) (.bl false) H1 N1 [] R1 .refl (by simp [Rp]) .nil
      · exact q.elim
  · rw [Bool.and_eq_true] at z
    unfold mAnd at k
    cases e1 : m1 env with
    | bad => rw [e1] at k; cases k
    | exc x env1 => rw [e1] at k; cases k
    | ok da env1 =>
      rw [e1] at k
      simp only [Rt.bind_ok, mAnd3] at k
      have q1 := h1.rok z.1 _ _ _ e1
      split at k
      · exact (h2.rok z.2 _ _ _ k).trans q1
      · cases k; exact q1
      · cases k
theorem v_or (h1 : PEV X xv μ W a ro1 md1 m1) (h2 : PEV X xv μ W (.BoolOp .Or (b :: rest) pos) ro2 md2 m2) : PEV X xv μ W (.BoolOp .Or (a :: b :: rest) pos) (ro1 && ro2) md2 (mOr m1 m2) := by
  refine ⟨PE.imp (pe_or h1.pe h2.pe) fun σ H Q ⟨env, N, R0, q⟩ => ⟨env, N, R0, ?_⟩, fun z env d e' k => ?_⟩
  · unfold mOr at q
    cases e1 : m1 env with
    | bad => rw [e1] at q; exact q
    | exc x env1 => rw [e1] at q; exact q
    | ok da env1 =>
      rw [e1] at q
      intro v1 H1 N1 n1 R1 S1 r1 V1
      simp only [Rt.bind_ok, mOr3] at q
      split at q
      · simp only [Rp] at r1
        refine ⟨true, r1.1, ?_⟩
        rw [if_pos rfl]
        exact (EQ.mono (ro' := ro2) S1 q) (.bl true) H1 N1 [] R1 .refl (by simp [Rp]) .nil
      · simp only [Rp] at r1
        refine ⟨false, r1.1, ?_⟩
        rw [if_neg Bool.false_ne_true]
        exact ⟨env1, N1, R1, EQ.mono S1 q⟩
      · exact q.elim
  · rw [Bool.and_eq_true] at z
    unfold mOr at k
    cases e1 : m1 env with
    | bad => rw [e1] at k; cases k
    | exc x env1 => rw [e1] at k; cases k
    | ok da env1 =>
      rw [e1] at k
      simp only [Rt.bind_ok, mOr3] at k
      have q1 := h1.rok z.1 _ _ _ e1
      split at k
      · cases k; exact q1
      · exact (h2.rok z.2 _ _ _ k).trans q1
      · cases k
end
/-! ### tests -/
def D.truth : D → Option Bool
  | .non => some false
  | .bl b => some b
  | .int i => some (i != 0)
  | .str s => if s.length ≤ LIM then some ((s.length : Int) != 0) else none
  | .tup xs | .lst xs => some (!xs.isEmpty)
  | .scr xs => some (!xs.isEmpty)
  | _ => none
def bT2 (d : D) (e : En) : Rt Bool := match d.truth with
  | some b => .ok b e
  | none => .bad
def bT (m : EM) : BM := fun env => (m env).bind bT2
section
variable {X : Cx} {xv : XV} {μ : List Md} {W : WX} {pos : Pos} {a b c : Expr} {ro1 ro2 ro3 : Bool} {md1 md2 md3 : Md} {m1 m2 m3 : EM} {t1 t2 : BM}
theorem Rp.tru {H : Hp} {d : D} {v : V} {n : List Addr} {k : Bool} (h : Rp (gx X xv) H d v n) (e : d.truth = some k) : TruV X.K v H k := by
  cases d <;> simp only [D.truth] at e <;> (try cases e) <;> simp only [Rp] at h
  · rw [h.1]; exact rfl
  · rw [h.1]; exact rfl
  · rw [h.1]; exact rfl
  · split at e
    · rename_i hl
      cases e
      rw [h.1]
      exact ⟨by rw [LIM_eq]; exact hl, rfl⟩
    · cases e
  · obtain ⟨p, vs, rfl, h1, h2⟩ := h
    refine .inr (.inl ⟨vs, (SqT.of h1), ?_⟩)
    have := h2.len
    cases vs <;> cases ‹List D› <;> simp_all
  · obtain ⟨p, vs, m, rfl, h1, h2, _⟩ := h
    refine .inl ⟨vs, SqL.of h1, ?_⟩
    have := h2.len
    cases vs <;> cases ‹List D› <;> simp_all
  · obtain ⟨p, rfl, h1, _⟩ := h
    refine .inl ⟨_, scr_sq (G := gx X xv) h1, ?_⟩
    simp
theorem bT_ro (h1 : ro1 = true → ∀ env d e', m1 env = .ok d e' → e' = env) : ro1 = true → ∀ env d e', bT m1 env = .ok d e' → e' = env := fun z env d e' k => by
  unfold bT at k
  cases e1 : m1 env with
  | bad => rw [e1] at k; cases k
  | exc x env1 => rw [e1] at k; cases k
  | ok da env1 =>
    rw [e1] at k
    simp only [Rt.bind_ok, bT2] at k
    have q1 := h1 z _ _ _ e1
    split at k
    · cases k; exact q1
    · cases k
theorem bT_core {P : V → Hp → Bool → Prop} {σ : L2.St} {H : Hp} {Q : Bool → Hp → Prop} {md : Md} (hP : ∀ H d v n k, Rp (gx X xv) H d v n → d.truth = some k → P v H k) (h : tB (gx X xv) μ W ro1 (bT m1) σ H Q) : tE (gx X xv) μ W ro1 md m1 σ H fun x H' => ∃ k, P x H' k ∧ Q k H' := by
  obtain ⟨env, N, R0, q⟩ := h
  refine ⟨env, N, R0, ?_⟩
  unfold bT at q
  cases e1 : m1 env with
  | bad => rw [e1] at q; exact q
  | exc x env1 => rw [e1] at q; exact q
  | ok da env1 =>
    rw [e1] at q
    simp only [Rt.bind_ok, bT2] at q
    intro v1 H1 N1 n1 R1 S1 r1 V1
    cases et : da.truth with
    | none => rw [et] at q; exact q.elim
    | some k =>
      rw [et] at q
      exact ⟨k, hP _ _ _ _ _ r1 et, q H1 N1 R1 S1⟩
/-- a name, a call, an item, a field as a test -/
theorem t_val (h : PEV X xv μ W a ro1 md1 m1) (he : ∀ whole, isTrue a X.env whole = (do let v ← whole; standAt a.pos; holding [v] (truthy v)) := by intro _; rfl) : PTV X xv μ W a ro1 (bT m1) :=
  ⟨PT.imp (pt_truth h.pe he) fun σ H Q q => bT_core (fun H d v n k r e => r.tru e) q, bT_ro h.rok⟩
theorem t_cmp {op : CmpOp} {r : R2} {g : D → D → Option D} (ho : OpR X (compareOp op) r) (hs : OpS (gx X xv) r g) (h1 : PEV X xv μ W a ro1 md1 m1) (h2 : PEV X xv μ W b ro2 md2 m2) (hm : behindInMarks op b = false) (p : ∀ a b d, g a b = some d → ∃ k, d = .bl k)
    (al : md1 = .al → ro2 = true := by decide) : PTV X xv μ W (.Compare a [op] [b] pos) (ro1 && ro2) (bT (mBin false g m1 m2)) := by
  have pp : ∀ a b d, g a b = some d → d.pure = true := fun a b d e => by obtain ⟨k, rfl⟩ := p a b d e; rfl
  refine ⟨PT.imp (pt_cmpR ho h1.pe h2.pe hm) fun σ H Q q => ?_, bT_ro (mBin_ro h1.rok h2.rok)⟩
  refine bin_core (chk := true) (Q := fun x H' => ∃ k, x = .bl k ∧ Q k H') hs h1.rok al (fun _ => rfl) ?_
  rw [fin_true pp]
  obtain ⟨env, N, R0, q⟩ := q
  refine ⟨env, N, R0, ?_⟩
  unfold bT at q
  cases e1 : mBin false g m1 m2 env with
  | bad => rw [e1] at q; exact q
  | exc x env1 => rw [e1] at q; exact q
  | ok da env1 =>
    rw [e1] at q
    simp only [Rt.bind_ok, bT2] at q
    intro v1 H1 N1 n1 R1 S1 r1 V1
    have hb : ∃ k, da = .bl k := by
      unfold mBin at e1
      cases e2 : m1 env with
      | bad => rw [e2] at e1; cases e1
      | exc x e => rw [e2] at e1; cases e1
      | ok d1 e3 =>
        rw [e2] at e1
        simp only [Rt.bind_ok, mBin2] at e1
        cases e4 : m2 e3 with
        | bad => rw [e4] at e1; cases e1
        | exc x e => rw [e4] at e1; cases e1
        | ok d2 e5 =>
          rw [e4] at e1
          simp only [Rt.bind_ok, mBin3, fin, Bool.false_and, Bool.false_eq_true, if_false] at e1
          cases eg : g d1 d2 with
          | none => rw [eg] at e1; cases e1
          | some d => rw [eg] at e1; cases e1; exact p _ _ _ eg
    obtain ⟨k, rfl⟩ := hb
    simp only [D.truth] at q
    simp only [Rp] at r1
    exact ⟨k, r1.1, q H1 N1 R1 S1⟩
theorem bl_lt : ∀ a b d, pyLt a b = some d → ∃ k, d = .bl k := fun a b d e => by unfold pyLt at e; split at e <;> cases e; exact ⟨_, rfl⟩
theorem bl_le : ∀ a b d, pyLe a b = some d → ∃ k, d = .bl k := fun a b d e => by unfold pyLe at e; split at e <;> cases e; exact ⟨_, rfl⟩
theorem bl_gt : ∀ a b d, pyGt a b = some d → ∃ k, d = .bl k := fun a b d e => by unfold pyGt at e; split at e <;> cases e; exact ⟨_, rfl⟩
theorem bl_ge : ∀ a b d, pyGe a b = some d → ∃ k, d = .bl k := fun a b d e => by unfold pyGe at e; split at e <;> cases e; exact ⟨_, rfl⟩
theorem bl_eq : ∀ a b d, pyEq a b = some d → ∃ k, d = .bl k := fun a b d e => ⟨_, (pyEq_some e).2.2.2.2⟩
theorem bl_ne : ∀ a b d, pyNe a b = some d → ∃ k, d = .bl k := fun a b d e => ⟨_, (pyNe_some e).2.2.2.2⟩
theorem bl_isN : ∀ a b d, pyIsN a b = some d → ∃ k, d = .bl k := fun a b d e => by unfold pyIsN at e; split at e <;> cases e; exact ⟨_, rfl⟩
theorem bl_notN : ∀ a b d, pyNotN a b = some d → ∃ k, d = .bl k := fun a b d e => by unfold pyNotN at e; split at e <;> cases e; exact ⟨_, rfl⟩
theorem bl_in : ∀ a b d, pyIn a b = some d → ∃ k, d = .bl k := fun a b d e => by unfold pyIn at e; split at e <;> (first | (split at e <;> cases e <;> exact ⟨_, rfl⟩) | cases e)
theorem bl_notIn : ∀ a b d, pyNotIn a b = some d → ∃ k, d = .bl k := fun a b d e => by unfold pyNotIn at e; split at e <;> (first | (split at e <;> cases e <;> exact ⟨_, rfl⟩) | cases e)
section
variable (h1 : PEV X xv μ W a ro1 md1 m1) (h2 : PEV X xv μ W b ro2 md2 m2) (al : md1 = .al → ro2 = true := by decide)
include h1 h2 al
theorem t_lt : PTV X xv μ W (.Compare a [.Lt] [b] pos) (ro1 && ro2) (bT (mLt m1 m2)) := t_cmp op_lt ops_lt h1 h2 (nomark _) bl_lt al
theorem t_le : PTV X xv μ W (.Compare a [.LtE] [b] pos) (ro1 && ro2) (bT (mLe m1 m2)) := t_cmp op_le ops_le h1 h2 (nomark _) bl_le al
theorem t_gt : PTV X xv μ W (.Compare a [.Gt] [b] pos) (ro1 && ro2) (bT (mGt m1 m2)) := t_cmp op_gt ops_gt h1 h2 (nomark _) bl_gt al
theorem t_ge : PTV X xv μ W (.Compare a [.GtE] [b] pos) (ro1 && ro2) (bT (mGe m1 m2)) := t_cmp op_ge ops_ge h1 h2 (nomark _) bl_ge al
theorem t_eq {k : Nat} (hr : Room k X.A) : PTV X xv μ W (.Compare a [.Eq] [b] pos) (ro1 && ro2) (bT (mEq m1 m2)) := t_cmp (op_eqD hr.units) ops_eq h1 h2 (nomark _) bl_eq al
theorem t_ne {k : Nat} (hr : Room k X.A) : PTV X xv μ W (.Compare a [.NotEq] [b] pos) (ro1 && ro2) (bT (mNe m1 m2)) := t_cmp (op_neD hr.units) ops_ne h1 h2 (nomark _) bl_ne al
theorem t_in {k : Nat} (hr : Room k X.A) (hm : behindInMarks .In b = false) : PTV X xv μ W (.Compare a [.In] [b] pos) (ro1 && ro2) (bT (mIn m1 m2)) := t_cmp (opv_in (by have := hr.un; omega)) ops_in h1 h2 hm bl_in al
theorem t_notIn {k : Nat} (hr : Room k X.A) (hm : behindInMarks .NotIn b = false) : PTV X xv μ W (.Compare a [.NotIn] [b] pos) (ro1 && ro2) (bT (mNotIn m1 m2)) := t_cmp (opv_notIn (by have := hr.un; omega)) ops_notIn h1 h2 hm bl_notIn al
theorem t_isN : PTV X xv μ W (.Compare a [.Is] [b] pos) (ro1 && ro2) (bT (mIsN m1 m2)) := t_cmp op_isN ops_isN h1 h2 (nomark _) bl_isN al
theorem t_notN : PTV X xv μ W (.Compare a [.IsNot] [b] pos) (ro1 && ro2) (bT (mNotN m1 m2)) := t_cmp op_notN ops_notN h1 h2 (nomark _) bl_notN al
end
/-! and, or, not -/
structure PWV (X : Cx) (xv : XV) (μ : List Md) (W : WX) (e : Expr) (ro : Bool) (m : BM) : Prop where
  pw : PW X e (tB (gx X xv) μ W ro m)
  rok : ro = true → ∀ env d e', m env = .ok d e' → e' = env
variable {rest : List Expr}
theorem PW.imp' {e : Expr} {t t' : TT} (h : PW X e t) (i : ∀ σ H Q, t' σ H Q → t σ H Q) : PW X e t' := ⟨fun wh pins s σ H Q I q => h.run wh pins s σ H Q I (i σ H Q q)⟩
def bAnd2 (t2 : BM) (b : Bool) (e : En) : Rt Bool := if b = true then t2 e else .ok false e
def bAnd (t1 t2 : BM) : BM := fun env => (t1 env).bind (bAnd2 t2)
def bOr2 (t2 : BM) (b : Bool) (e : En) : Rt Bool := if b = true then .ok true e else t2 e
def bOr (t1 t2 : BM) : BM := fun env => (t1 env).bind (bOr2 t2)
def bNot2 (b : Bool) (e : En) : Rt Bool := .ok (!b) e
def bNot (t1 : BM) : BM := fun env => (t1 env).bind bNot2
theorem BQ.mono {G : Gt} {ro ro' : Bool} {env env' : En} {N N' : Nat → List Addr} {σ : L2.St} {H H' : Hp} {Q : Bool → Hp → Prop} {r : Rt Bool} (S : Stp μ ro env H N env' H' N') (q : BQ G μ W (ro && ro') env N σ H Q r) : BQ G μ W ro' env' N' σ H' Q r := by
  cases r with
  | bad => exact q
  | exc x e => exact XQ.pre S q
  | ok d e =>
    intro H2 N2 R2 S2
    exact q H2 N2 R2 (S.trans S2)
theorem t_pw (h : PWV X xv μ W a ro1 t1) : PTV X xv μ W a ro1 t1 := ⟨h.pw.pt, h.rok⟩
theorem t_and1 (h : PTV X xv μ W a ro1 t1) : PWV X xv μ W (.BoolOp .And [a] pos) ro1 t1 := ⟨pw_and1 h.pt, h.rok⟩
theorem t_or1 (h : PTV X xv μ W a ro1 t1) : PWV X xv μ W (.BoolOp .Or [a] pos) ro1 t1 := ⟨pw_or1 h.pt, h.rok⟩
theorem t_and (h1 : PTV X xv μ W a ro1 t1) (h2 : PWV X xv μ W (.BoolOp .And (b :: rest) pos) ro2 t2) : PWV X xv μ W (.BoolOp .And (a :: b :: rest) pos) (ro1 && ro2) (bAnd t1 t2) := by
  refine ⟨PW.imp' (pw_and h1.pt h2.pw) fun σ H Q ⟨env, N, R0, q⟩ => ⟨env, N, R0, ?_⟩, fun z env d e' k => ?_⟩
  · unfold bAnd at q
    cases e1 : t1 env with
    | bad => rw [e1] at q; exact q
    | exc x env1 => rw [e1] at q; exact q
    | ok bb env1 =>
      rw [e1] at q
      simp only [Rt.bind_ok, bAnd2] at q
      intro H1 N1 R1 S1
      cases bb with
      | true =>
        rw [if_pos rfl] at q ⊢
        exact ⟨env1, N1, R1, BQ.mono S1 q⟩
      | false =>
        rw [if_neg Bool.false_ne_true] at q ⊢
        exact (BQ.mono (ro' := ro2) S1 q) H1 N1 R1 .refl
  · rw [Bool.and_eq_true] at z
    unfold bAnd at k
    cases e1 : t1 env with
    | bad => rw [e1] at k; cases k
    | exc x env1 => rw [e1] at k; cases k
    | ok bb env1 =>
      rw [e1] at k
      simp only [Rt.bind_ok, bAnd2] at k
      have q1 := h1.rok z.1 _ _ _ e1
      split at k
      · exact (h2.rok z.2 _ _ _ k).trans q1
      · cases k; exact q1
theorem t_or (h1 : PTV X xv μ W a ro1 t1) (h2 : PWV X xv μ W (.BoolOp .Or (b :: rest) pos) ro2 t2) : PWV X xv μ W (.BoolOp .Or (a :: b :: rest) pos) (ro1 && ro2) (bOr t1 t2) := by
  refine ⟨PW.imp' (pw_or h1.pt h2.pw) fun σ H Q ⟨env, N, R0, q⟩ => ⟨env, N, R0, ?_⟩, fun z env d e' k => ?_⟩
  · unfold bOr at q
    cases e1 : t1 env with
    | bad => rw [e1] at q; exact q
    | exc x env1 => rw [e1] at q; exact q
    | ok bb env1 =>
      rw [e1] at q
      simp only [Rt.bind_ok, bOr2] at q
      intro H1 N1 R1 S1
      cases bb with
      | true =>
        rw [if_pos rfl] at q ⊢
        exact (BQ.mono (ro' := ro2) S1 q) H1 N1 R1 .refl
      | false =>
        rw [if_neg Bool.false_ne_true] at q ⊢
        exact ⟨env1, N1, R1, BQ.mono S1 q⟩
  · rw [Bool.and_eq_true] at z
    unfold bOr at k
    cases e1 : t1 env with
    | bad => rw [e1] at k; cases k
    | exc x env1 => rw [e1] at k; cases k
    | ok bb env1 =>
      rw [e1] at k
      simp only [Rt.bind_ok, bOr2] at k
      have q1 := h1.rok z.1 _ _ _ e1
      split at k
      · cases k; exact q1
      · exact (h2.rok z.2 _ _ _ k).trans q1
theorem t_not (h : PTV X xv μ W a ro1 t1) : PTV X xv μ W (.UnaryOp .Not a pos) ro1 (bNot t1) := by
  refine ⟨PT.imp (pt_not h.pt) fun σ H Q ⟨env, N, R0, q⟩ => ⟨env, N, R0, ?_⟩, fun z env d e' k => ?_⟩
  · unfold bNot at q
    cases e1 : t1 env with
    | bad => rw [e1] at q; exact q
    | exc x env1 => rw [e1] at q; exact q
    | ok bb env1 =>
      rw [e1] at q
      exact fun H1 N1 R1 S1 => q H1 N1 R1 S1
  · unfold bNot at k
    cases e1 : t1 env with
    | bad => rw [e1] at k; cases k
    | exc x env1 => rw [e1] at k; cases k
    | ok bb env1 =>
      rw [e1] at k
      simp only [Rt.bind_ok, bNot2] at k
      cases k
      exact h.rok z _ _ _ e1
/-- a if t else b -/
def mIf2 (m1 m2 : EM) (b : Bool) (e : En) : Rt D := if b = true then m1 e else m2 e
def mIf (t : BM) (m1 m2 : EM) : EM := fun env => (t env).bind (mIf2 m1 m2)
theorem v_if (ht : PTV X xv μ W c ro3 t1) (h1 : PEV X xv μ W a ro1 md1 m1) (h2 : PEV X xv μ W b ro2 md1 m2) : PEV X xv μ W (.IfExp c a b pos) (ro3 && (ro1 && ro2)) md1 (mIf t1 m1 m2) := by
  refine ⟨PE.imp (pe_ifExp ht.pt h1.pe h2.pe) fun σ H Q ⟨env, N, R0, q⟩ => ⟨env, N, R0, ?_⟩, fun z env d e' k => ?_⟩
  · unfold mIf at q
    cases e1 : t1 env with
    | bad => rw [e1] at q; exact q
    | exc x env1 => rw [e1] at q; exact q
    | ok bb env1 =>
      rw [e1] at q
      simp only [Rt.bind_ok, mIf2] at q
      intro H1 N1 R1 S1
      have q' := EQ.mono S1 q
      cases bb with
      | true =>
        rw [if_pos rfl] at q' ⊢
        refine ⟨env1, N1, R1, ?_⟩
        cases e2 : m1 env1 with
        | bad => rw [e2] at q'; exact q'
        | exc x e => rw [e2] at q'; exact q'
        | ok d e => rw [e2] at q'; exact fun v H2 N2 n R2 S2 r V => q' v H2 N2 n R2 (S2.mono (by simp; intro z _; exact z)) r V
      | false =>
        rw [if_neg Bool.false_ne_true] at q' ⊢
        refine ⟨env1, N1, R1, ?_⟩
        cases e2 : m2 env1 with
        | bad => rw [e2] at q'; exact q'
        | exc x e => rw [e2] at q'; exact q'
        | ok d e => rw [e2] at q'; exact fun v H2 N2 n R2 S2 r V => q' v H2 N2 n R2 (S2.mono (by simp)) r V
  · rw [Bool.and_eq_true, Bool.and_eq_true] at z
    unfold mIf at k
    cases e1 : t1 env with
    | bad => rw [e1] at k; cases k
    | exc x env1 => rw [e1] at k; cases k
    | ok bb env1 =>
      rw [e1] at k
      simp only [Rt.bind_ok, mIf2] at k
      have q1 := ht.rok z.1 _ _ _ e1
      split at k
      · exact (h1.rok z.2.1 _ _ _ k).trans q1
      · exact (h2.rok z.2.2 _ _ _ k).trans q1
end
end VS
/-! VS: statements. -/
namespace VS
open PySem PySem.Spec PyProof.Rows L2
inductive Sr where
  | nx (e : En) | rt (d : D) (e : En) | bk (e : En) | ct (e : En) | exc (x : Exn) (e : En) | bad
abbrev SM := En → Sr
def Sr.bind (r : Sr) (f : SM) : Sr := match r with
  | .nx e => f e
  | r => r
@[simp] theorem Sr.bind_nx (e : En) (f : SM) : (Sr.nx e).bind f = f e := rfl
@[simp] theorem Sr.bind_rt (d : D) (e : En) (f : SM) : (Sr.rt d e).bind f = .rt d e := rfl
@[simp] theorem Sr.bind_bk (e : En) (f : SM) : (Sr.bk e).bind f = .bk e := rfl
@[simp] theorem Sr.bind_ct (e : En) (f : SM) : (Sr.ct e).bind f = .ct e := rfl
@[simp] theorem Sr.bind_exc (x : Exn) (e : En) (f : SM) : (Sr.exc x e).bind f = .exc x e := rfl
@[simp] theorem Sr.bind_bad (f : SM) : Sr.bad.bind f = .bad := rfl
/-- an expression's result, then a statement -/
def Rt.st {α : Type} (r : Rt α) (f : α → En → Sr) : Sr := match r with
  | .ok a e => f a e
  | .exc x e => .exc x e
  | .bad => .bad
@[simp] theorem Rt.st_ok {α : Type} (a : α) (e : En) (f : α → En → Sr) : (Rt.ok a e).st f = f a e := rfl
@[simp] theorem Rt.st_exc {α : Type} (x : Exn) (e : En) (f : α → En → Sr) : (Rt.exc x e : Rt α).st f = .exc x e := rfl
@[simp] theorem Rt.st_bad {α : Type} (f : α → En → Sr) : (Rt.bad : Rt α).st f = .bad := rfl
def Fx (μ : List Md) (σ σ' : L2.St) : Prop := ∀ i, (mdAt μ i).fix = true → σ'[i]? = σ[i]?
theorem Fx.refl {μ : List Md} {σ : L2.St} : Fx μ σ σ := fun _ _ => rfl
theorem Fx.trans {μ : List Md} {σ σ' σ'' : L2.St} (a : Fx μ σ σ') (b : Fx μ σ' σ'') : Fx μ σ σ'' := fun i h => (b i h).trans (a i h)
def SXQ (G : Gt) (μ : List Md) (W : WX) (env : En) (N : Nat → List Addr) (σ : L2.St) (H : Hp) (x : Exn) (env' : En) : Prop :=
  ∀ cls dx σ' H' N' n, Rep G μ env' σ' H' N' → Stp μ false env H N env' H' N' → Fx μ σ σ' → ExR G H' x cls dx n → (∀ a ∈ n, ¬ ownS μ env' N' a) → (∀ a ∈ n, allS N a ∨ H a = none) → W cls dx σ' H'
def SQ (G : Gt) (μ : List Md) (W : WX) (rmd : Md) (env : En) (N : Nat → List Addr) (σ : L2.St) (H : Hp) (E : Ends) : Sr → Prop
  | .nx env' => ∀ σ' H' N', Rep G μ env' σ' H' N' → Stp μ false env H N env' H' N' → Fx μ σ σ' → E.nx σ' H'
  | .bk env' => ∀ σ' H' N', Rep G μ env' σ' H' N' → Stp μ false env H N env' H' N' → Fx μ σ σ' → E.bk σ' H'
  | .ct env' => ∀ σ' H' N', Rep G μ env' σ' H' N' → Stp μ false env H N env' H' N' → Fx μ σ σ' → E.ct σ' H'
  | .rt d env' => ∀ v σ' H' N' n, Rep G μ env' σ' H' N' → Stp μ false env H N env' H' N' → Fx μ σ σ' → Rp G H' d v n → VOk μ rmd d n env N H env' N' → E.rt v H'
  | .exc x env' => SXQ G μ W env N σ H x env'
  | .bad => False
def tS (G : Gt) (μ : List Md) (W : WX) (rmd : Md) (m : SM) : TS := fun E σ H => ∃ env N, Rep G μ env σ H N ∧ SQ G μ W rmd env N σ H E (m env)
section
variable {G : Gt} {μ : List Md} {W : WX} {rmd : Md} {env env' : En} {N N' : Nat → List Addr} {σ σ' : L2.St} {H H' : Hp} {E : Ends} {ro : Bool}
theorem SXQ.pre {x : Exn} {e2 : En} (S : Stp μ ro env H N env' H' N') (F : Fx μ σ σ') (q : SXQ G μ W env N σ H x e2) : SXQ G μ W env' N' σ' H' x e2 := fun cls dx σ2 H2 N2 n R2 S2 F2 ex hn hs =>
  q cls dx σ2 H2 N2 n R2 ((S.trans S2).mono (by simp)) (F.trans F2) ex hn fun a ha => (hs a ha).elim (S.all a) fun z => .inr (S.dom a z)
theorem SXQ.toX {x : Exn} {e2 : En} (q : SXQ G μ W env N σ H x e2) : XQ G μ W env N σ H x e2 := fun cls dx H2 N2 n R2 S2 ex hn hs => q cls dx σ H2 N2 n R2 S2 .refl ex hn hs
theorem VOk.pre {md : Md} {d : D} {n : List Addr} {env2 : En} {N2 : Nat → List Addr} (S : Stp μ ro env H N env' H' N') (V : VOk μ md d n env' N' H' env2 N2) : VOk μ md d n env N H env2 N2 :=
  ⟨fun a ha => (V.sub a ha).elim (S.all a) fun z => .inr (S.dom a z), V.nown, V.uq, fun a o => (V.osub a o).elim (S.wr a) fun z => .inr (S.dom a z)⟩
theorem SQ.pre {r : Sr} (S : Stp μ ro env H N env' H' N') (F : Fx μ σ σ') (q : SQ G μ W rmd env N σ H E r) : SQ G μ W rmd env' N' σ' H' E r := by
  cases r with
  | bad => exact q
  | exc x e => exact SXQ.pre S F q
  | nx e => exact fun σ2 H2 N2 R2 S2 F2 => q σ2 H2 N2 R2 ((S.trans S2).mono (by simp)) (F.trans F2)
  | bk e => exact fun σ2 H2 N2 R2 S2 F2 => q σ2 H2 N2 R2 ((S.trans S2).mono (by simp)) (F.trans F2)
  | ct e => exact fun σ2 H2 N2 R2 S2 F2 => q σ2 H2 N2 R2 ((S.trans S2).mono (by simp)) (F.trans F2)
  | rt d e => exact fun v σ2 H2 N2 n R2 S2 F2 r V => q v σ2 H2 N2 n R2 ((S.trans S2).mono (by simp)) (F.trans F2) r (V.pre S)
end
structure PSV (X : Cx) (xv : XV) (μ : List Md) (W : WX) (rmd : Md) (st : Stmt) (m : SM) : Prop where
  ps : PS X st (tS (gx X xv) μ W rmd m)
structure PSsV (X : Cx) (xv : XV) (μ : List Md) (W : WX) (rmd : Md) (sts : List Stmt) (m : SM) : Prop where
  ps : PSs X sts (tS (gx X xv) μ W rmd m)
end VS
namespace L2
open PySem PySem.Spec PyProof.Rows
theorem PS.imp {X : Cx} {st : Stmt} {t t' : TS} (h : PS X st t) (i : ∀ D σ H, t' D σ H → t D σ H) : PS X st t' := ⟨fun pins s σ H D I q => h.run pins s σ H D I (i D σ H q)⟩
theorem PSs.imp {X : Cx} {st : List Stmt} {t t' : TS} (h : PSs X st t) (i : ∀ D σ H, t' D σ H → t D σ H) : PSs X st t' := ⟨fun pins s σ H D I q => h.run pins s σ H D I (i D σ H q)⟩
end L2
namespace VS
open PySem PySem.Spec PyProof.Rows L2
/-! ### a slot bound anew -/
def updN (N : Nat → List Addr) (i : Nat) (n : List Addr) : Nat → List Addr := fun j => if j = i then n else N j
theorem updN_same {N : Nat → List Addr} {i : Nat} {n : List Addr} : updN N i n i = n := if_pos rfl
theorem updN_ne {N : Nat → List Addr} {i j : Nat} {n : List Addr} (h : j ≠ i) : updN N i n j = N j := if_neg h
theorem mem_updN {N : Nat → List Addr} {i j : Nat} {n : List Addr} {a : Addr} (h : a ∈ updN N i n j) : (j = i ∧ a ∈ n) ∨ (j ≠ i ∧ a ∈ N j) := by
  unfold updN at h
  split at h
  · exact .inl ⟨‹_›, h⟩
  · exact .inr ⟨‹_›, h⟩
theorem get_set {env : En} {i j : Nat} {o : Option D} {d : D} (h : (env.set i o)[j]? = some (some d)) : (j = i ∧ o = some d) ∨ (j ≠ i ∧ env[j]? = some (some d)) := by
  by_cases e : i = j
  · subst e
    rw [List.getElem?_set] at h
    simp only [if_true] at h
    split at h
    · cases h; exact .inl ⟨rfl, rfl⟩
    · cases h
  · rw [List.getElem?_set_ne e] at h
    exact .inr ⟨fun z => e z.symm, h⟩
section
variable {G : Gt} {μ : List Md} {env : En} {N : Nat → List Addr} {σ : L2.St} {H : Hp}
/-- slot i takes a value of its mode -/
theorem Rep.set {i : Nat} {d : D} {v : V} {n : List Addr} (R : Rep G μ env σ H N) (hx : NoX G i) (hi : i < env.length) (r : Rp G H d v n) (hn : ∀ a ∈ n, ¬ ownS μ env N a ∨ ∃ d', env[i]? = some (some d') ∧ Own (mdAt μ i) d' (N i) a)
    (hu : ∀ a, Own (mdAt μ i) d n a → n.count a = 1 ∧ ∀ j, j ≠ i → a ∉ N j) : Rep G μ (env.set i (some d)) (σ.set i (some v)) H (updN N i n) := by
  have hσ : i < σ.length := by rw [← R.len]; exact hi
  refine ⟨by rw [List.length_set, List.length_set]; exact R.len, fun j d' e => ?_, fun j e => ?_, fun j d' a e o => ?_, fun x hx1 => R.exK (Wp := fun _ => False) (fun a o e _ => e) (fun a w => w.elim) (fun y hy => List.getElem?_set_ne (Ne.symm (hx y hy))) x hx1⟩
  · rcases get_set e with ⟨rfl, e1⟩ | ⟨ne, e1⟩
    · cases e1
      exact ⟨v, by rw [List.getElem?_set_self hσ], by rw [updN_same]; exact r⟩
    · obtain ⟨v', h1, h2⟩ := R.rep j d' e1
      exact ⟨v', by rw [List.getElem?_set_ne (Ne.symm ne)]; exact h1, by rw [updN_ne ne]; exact h2⟩
  · by_cases ne : j = i
    · subst ne
      exact absurd (List.getElem?_set_self hi) (e d)
    · rw [updN_ne ne]
      exact R.emp j fun d' z => e d' (by rw [List.getElem?_set_ne (Ne.symm ne)]; exact z)
  · rcases get_set e with ⟨rfl, e1⟩ | ⟨ne, e1⟩
    · cases e1
      rw [updN_same] at o ⊢
      refine ⟨(hu a o).1, fun k hk => ?_⟩
      rw [updN_ne hk]
      exact (hu a o).2 k hk
    · rw [updN_ne ne] at o ⊢
      refine ⟨(R.uq j d' a e1 o).1, fun k hk w => ?_⟩
      rcases mem_updN w with ⟨rfl, w1⟩ | ⟨_, w1⟩
      · rcases hn a w1 with z | ⟨d'', e'', o''⟩
        · exact z ⟨j, d', e1, o⟩
        · exact (R.uq j d' a e1 o).2 k hk o''.mem
      · exact (R.uq j d' a e1 o).2 k hk w1
/-- slot i is given up -/
theorem Rep.drop {i : Nat} {o : Option V} (R : Rep G μ env σ H N) (hx : NoX G i) : Rep G μ (env.set i none) (σ.set i o) H (updN N i []) := by
  refine ⟨by rw [List.length_set, List.length_set]; exact R.len, fun j d' e => ?_, fun j e => ?_, fun j d' a e o => ?_, fun x hx1 => R.exK (Wp := fun _ => False) (fun a o e _ => e) (fun a w => w.elim) (fun y hy => List.getElem?_set_ne (Ne.symm (hx y hy))) x hx1⟩
  · rcases get_set e with ⟨rfl, e1⟩ | ⟨ne, e1⟩
    · cases e1
    · obtain ⟨v', h1, h2⟩ := R.rep j d' e1
      exact ⟨v', by rw [List.getElem?_set_ne (Ne.symm ne)]; exact h1, by rw [updN_ne ne]; exact h2⟩
  · by_cases ne : j = i
    · subst ne
      rw [updN_same]
    · rw [updN_ne ne]
      exact R.emp j fun d' z => e d' (by rw [List.getElem?_set_ne (Ne.symm ne)]; exact z)
  · rcases get_set e with ⟨rfl, e1⟩ | ⟨ne, e1⟩
    · cases e1
    · rw [updN_ne ne] at o ⊢
      refine ⟨(R.uq j d' a e1 o).1, fun k hk w => ?_⟩
      rcases mem_updN w with ⟨rfl, w1⟩ | ⟨_, w1⟩
      · cases w1
      · exact (R.uq j d' a e1 o).2 k hk w1
theorem Rep.drop' {i : Nat} (R : Rep G μ env σ H N) : Rep G μ (env.set i none) σ H (updN N i []) := by
  refine ⟨by rw [List.length_set]; exact R.len, fun j d' e => ?_, fun j e => ?_, fun j d' a e o => ?_, R.ex⟩
  · rcases get_set e with ⟨rfl, e1⟩ | ⟨ne, e1⟩
    · cases e1
    · obtain ⟨v', h1, h2⟩ := R.rep j d' e1
      exact ⟨v', h1, by rw [updN_ne ne]; exact h2⟩
  · by_cases ne : j = i
    · subst ne
      rw [updN_same]
    · rw [updN_ne ne]
      exact R.emp j fun d' z => e d' (by rw [List.getElem?_set_ne (Ne.symm ne)]; exact z)
  · rcases get_set e with ⟨rfl, e1⟩ | ⟨ne, e1⟩
    · cases e1
    · rw [updN_ne ne] at o ⊢
      refine ⟨(R.uq j d' a e1 o).1, fun k hk w => ?_⟩
      rcases mem_updN w with ⟨rfl, w1⟩ | ⟨_, w1⟩
      · cases w1
      · exact (R.uq j d' a e1 o).2 k hk w1
/-- the step that a binding is -/
theorem Stp.set {i : Nat} {o : Option D} {n : List Addr} {env0 : En} {N0 : Nat → List Addr} {H0 : Hp} {ro : Bool} (S : Stp μ ro env0 H0 N0 env H N) (hl : (mdAt μ i).lock = false) (hs : ∀ a ∈ n, allS N0 a ∨ H0 a = none)
    (ho : ∀ d a, o = some d → Own (mdAt μ i) d n a → ownS μ env0 N0 a ∨ H0 a = none) (hw : ∀ d a, o = some d → Own (mdAt μ i) d n a → wrS μ env0 N0 a ∨ H0 a = none) : Stp μ false env0 H0 N0 (env.set i o) H (updN N i n) where
  keep := S.keep
  dom := S.dom
  own := fun a ⟨j, d, e, w⟩ => by
    rcases get_set e with ⟨rfl, e1⟩ | ⟨ne, e1⟩
    · rw [updN_same] at w; exact ho d a e1 w
    · rw [updN_ne ne] at w; exact S.own a ⟨j, d, e1, w⟩
  wr := fun a ⟨j, d, e, w⟩ => by
    rcases get_set e with ⟨rfl, e1⟩ | ⟨ne, e1⟩
    · rw [updN_same] at w; exact hw d a e1 w.2
    · rw [updN_ne ne] at w; exact S.wr a ⟨j, d, e1, w⟩
  all := fun a ⟨j, w⟩ => by
    rcases mem_updN w with ⟨_, w⟩ | ⟨_, w⟩
    · exact hs a w
    · exact S.all a ⟨j, w⟩
  lock := fun j hj => by
    have ne : i ≠ j := fun z => by rw [z, hj] at hl; cases hl
    rw [List.getElem?_set_ne ne, updN_ne (Ne.symm ne)]
    exact S.lock j hj
  ro := fun z => by cases z
end
section
variable {X : Cx} {xv : XV} {μ : List Md} {W : WX} {rmd : Md} {pos : Pos} {e : Expr} {st : Stmt} {rest sts sts2 : List Stmt} {ro : Bool} {md : Md} {m : EM} {s1 s2 : SM} {t : BM}
def sNil : SM := fun env => .nx env
def sSeq (a b : SM) : SM := fun env => (a env).bind b
theorem s_nil : PSsV X xv μ W rmd [] sNil := ⟨PSs.imp pss_nil fun E σ H ⟨env, N, R, q⟩ => q σ H N R .refl .refl⟩
theorem seq_core {σ : L2.St} {H : Hp} {E : Ends} (h : tS (gx X xv) μ W rmd (sSeq s1 s2) E σ H) : tSeq (tS (gx X xv) μ W rmd s1) (tS (gx X xv) μ W rmd s2) E σ H := by
  obtain ⟨env, N, R0, q⟩ := h
  refine ⟨env, N, R0, ?_⟩
  unfold sSeq at q
  cases e1 : s1 env with
  | nx env1 => rw [e1] at q; exact fun σ1 H1 N1 R1 S1 F1 => ⟨env1, N1, R1, SQ.pre S1 F1 q⟩
  | rt d env1 => rw [e1] at q; exact q
  | bk env1 => rw [e1] at q; exact q
  | ct env1 => rw [e1] at q; exact q
  | exc x env1 => rw [e1] at q; exact q
  | bad => rw [e1] at q; exact q
theorem s_cons (h1 : PSV X xv μ W rmd st s1) (h2 : PSsV X xv μ W rmd rest s2) : PSsV X xv μ W rmd (st :: rest) (sSeq s1 s2) := ⟨PSs.imp (pss_cons h1.ps h2.ps) fun E σ H q => seq_core q⟩
theorem s_one (h1 : PSV X xv μ W rmd st s1) : PSsV X xv μ W rmd [st] s1 := ⟨pss_one h1.ps⟩
theorem s_pass : PSV X xv μ W rmd (.Pass pos) sNil := ⟨PS.imp ps_pass fun E σ H ⟨env, N, R, q⟩ => q σ H N R .refl .refl⟩
def sBk : SM := fun env => .bk env
def sCt : SM := fun env => .ct env
theorem s_break : PSV X xv μ W rmd (.Break pos) sBk := ⟨PS.imp ps_break fun E σ H ⟨env, N, R, q⟩ => q σ H N R .refl .refl⟩
theorem s_continue : PSV X xv μ W rmd (.Continue pos) sCt := ⟨PS.imp ps_continue fun E σ H ⟨env, N, R, q⟩ => q σ H N R .refl .refl⟩
/-- an expression's statement, from its core -/
theorem ex_core {f : D → En → Sr} {σ : L2.St} {H : Hp} {E : Ends} {Q : VK} (h : tS (gx X xv) μ W rmd (fun env => (m env).st f) E σ H)
    (hQ : ∀ env N d env' v H' N' n, Rep (gx X xv) μ env σ H N → Rep (gx X xv) μ env' σ H' N' → Stp μ ro env H N env' H' N' → Rp (gx X xv) H' d v n → VOk μ md d n env N H env' N' → SQ (gx X xv) μ W rmd env N σ H E (f d env') → Q v H') : tE (gx X xv) μ W ro md m σ H Q := by
  obtain ⟨env, N, R0, q⟩ := h
  refine ⟨env, N, R0, ?_⟩
  cases e1 : m env with
  | bad => simp only [e1] at q; exact q
  | exc x env1 => simp only [e1] at q; exact SXQ.toX q
  | ok d env1 =>
    simp only [e1] at q
    exact fun v H1 N1 n R1 S1 r V => hQ env N d env1 v H1 N1 n R0 R1 S1 r V q
def sEx2 (_ : D) (e : En) : Sr := .nx e
def sEx (m : EM) : SM := fun env => (m env).st sEx2
theorem s_expr (h : PEV X xv μ W e ro md m) (hs : swapsWith e none pos.line X.env = pure false := by rfl) : PSV X xv μ W rmd (.Expr e pos) (sEx m) :=
  ⟨PS.imp (ps_expr h.pe hs) fun E σ H q => ex_core q fun env N d env' v H' N' n R0 R1 S r V q => q σ H' N' R1 (S.mono (by simp)) .refl⟩
def sRet2 (d : D) (e : En) : Sr := .rt d e
def sRet (m : EM) : SM := fun env => (m env).st sRet2
theorem s_ret (h : PEV X xv μ W e ro rmd m) : PSV X xv μ W rmd (.Return (some e) pos) (sRet m) :=
  ⟨PS.imp (ps_ret h.pe) fun E σ H q => ex_core q fun env N d env' v H' N' n R0 R1 S r V q => q v σ H' N' n R1 (S.mono (by simp)) .refl r V⟩
def sRetN : SM := fun env => .rt .non env
theorem s_retN : PSV X xv μ W rmd (.Return none pos) sRetN := ⟨PS.imp ps_retN fun E σ H ⟨env, N, R, q⟩ => q .non σ H N [] R .refl .refl (by simp [Rp]) .nil⟩
def sIf2 (a b : SM) (k : Bool) (e : En) : Sr := if k = true then a e else b e
def sIf (t : BM) (a b : SM) : SM := fun env => (t env).st (sIf2 a b)
theorem s_if {c : Expr} (ht : PTV X xv μ W c ro t) (h1 : PSsV X xv μ W rmd sts s1) (h2 : PSsV X xv μ W rmd sts2 s2) : PSV X xv μ W rmd (.If c sts sts2 pos) (sIf t s1 s2) := by
  refine ⟨PS.imp (ps_if ht.pt h1.ps h2.ps) fun E σ H ⟨env, N, R0, q⟩ => ⟨env, N, R0, ?_⟩⟩
  unfold sIf at q
  cases e1 : t env with
  | bad => rw [e1] at q; exact q
  | exc x env1 => rw [e1] at q; exact SXQ.toX q
  | ok bb env1 =>
    rw [e1] at q
    simp only [Rt.st_ok, sIf2] at q
    intro H1 N1 R1 S1
    cases bb with
    | true => rw [if_pos rfl] at q ⊢; exact ⟨env1, N1, R1, SQ.pre S1 .refl q⟩
    | false => rw [if_neg Bool.false_ne_true] at q ⊢; exact ⟨env1, N1, R1, SQ.pre S1 .refl q⟩
/-! ### name = e -/
def sSet2 (i : Nat) (d : D) (e : En) : Sr := if i < e.length then .nx (e.set i (some d)) else .bad
def sSet (i : Nat) (m : EM) : SM := fun env => (m env).st (sSet2 i)
/-- what mode of a value a slot takes -/
def Md.tk : Md → Md → Bool
  | .s, .s | .s, .r | .s, .d => true
  | .r, .r | .r, .d => true
  | .d, .d => true
  | _, _ => false
theorem Md.tk_le {a b : Md} (h : a.tk b = true) : a.le b = true ∧ a.fix = false ∧ a.lock = false ∧ b ≠ .al := by cases a <;> cases b <;> simp [Md.tk] at h <;> simp [Md.le, Md.fix, Md.lock]
theorem Own.wr {md : Md} {d : D} {n : List Addr} {a : Addr} (h : md.lock = false) (o : Own md d n a) : Wr md d n a := ⟨h, o⟩
theorem set_core {i : Nat} {env env' : En} {N N' : Nat → List Addr} {σ : L2.St} {H H' : Hp} {d : D} {v : V} {n : List Addr} (ht : (mdAt μ i).tk md = true) (R1 : Rep (gx X xv) μ env' σ H' N') (S : Stp μ ro env H N env' H' N') (r : Rp (gx X xv) H' d v n) (V : VOk μ md d n env N H env' N')
    (hi : i < env'.length) (hx : NoX (gx X xv) i) : Rep (gx X xv) μ (env'.set i (some d)) (σ.set i (some v)) H' (updN N' i n) ∧ Stp μ false env H N (env'.set i (some d)) H' (updN N' i n) ∧ Fx μ σ (σ.set i (some v)) := by
  obtain ⟨l1, l2, l3, l4⟩ := Md.tk_le ht
  refine ⟨R1.set hx hi r (fun a ha => .inl (V.nown l4 a ha)) fun a o => ?_, S.set l3 V.sub (fun d' a e o => ?_) fun d' a e o => ?_, fun j hj => ?_⟩
  · obtain ⟨w1, w2⟩ := V.uq a (o.low l1)
    exact ⟨w1, fun j _ w => w2 ⟨j, w⟩⟩
  · cases e; exact (V.osub a (o.low l1)).imp wrS.own id
  · cases e; exact V.osub a (o.low l1)
  · rw [List.getElem?_set_ne fun z => by rw [z, hj] at l2; cases l2]
theorem s_set {i : Nat} {x : Str} {pos' : Pos} (hN : X.N.Nodup) (hi : X.N[i]? = some x) (hx : Loc X.env.scope x) (h : PEV X xv μ W e ro md m) (ht : (mdAt μ i).tk md = true := by decide) (hs : swapsWith e (some (.Name x pos')) pos.line X.env = pure false := by rfl)
    (hf : X.fn x = true ∨ X.env.scope.names.lookup x = some .local := by first | exact .inl rfl | exact .inr rfl | assumption) (hX : NoX (gx X xv) i := by (intro x h; first | (cases h; done) | (cases h; simp))) : PSV X xv μ W rmd (.Assign [.Name x pos'] e pos) (sSet i m) := by
  refine ⟨PS.imp (ps_set hN hi hx h.pe hs hf) fun E σ H q => ex_core q fun env N d env' v H' N' n R0 R1 S r V q => ?_⟩
  unfold sSet2 at q
  split at q
  · rename_i hl
    obtain ⟨R2, S2, F2⟩ := set_core ht R1 S r V hl hX
    exact q _ H' _ R2 S2 F2
  · exact q.elim
/-- a name that owns, given away -/
def mMove (i : Nat) : EM := fun env => match env[i]? with
  | some (some d) => .ok d (env.set i none)
  | _ => .bad
theorem v_move {i : Nat} {x : Str} (h : PE X (.Name x pos) (tVar i)) (hm : (mdAt μ i).fix = false := by decide) : PEV X xv μ W (.Name x pos) false (mdAt μ i) (mMove i) := by
  refine ⟨h.imp fun σ H Q ⟨env, N, R, q⟩ => ?_, fun z => by cases z⟩
  unfold mMove at q
  split at q
  · rename_i d e1
    obtain ⟨v, h1, h2⟩ := R.rep i d e1
    have hl : (mdAt μ i).lock = false := by cases z : mdAt μ i <;> simp [z, Md.fix] at hm <;> rfl
    have S : Stp μ false env H N (env.set i none) H (updN N i []) := Stp.set (ro := false) .refl hl (fun a ha => by cases ha) (fun d a e => by cases e) fun d a e => by cases e
    refine ⟨v, h1, q v H (updN N i []) (N i) R.drop' S h2 ⟨fun a ha => .inl ⟨i, ha⟩, fun _ a ha w => ?_, fun a o => ?_, fun a o => .inl ⟨i, d, e1, hl, o⟩⟩⟩
    · obtain ⟨j, d', e', o⟩ := w
      rcases get_set e' with ⟨rfl, e2⟩ | ⟨ne, e2⟩
      · cases e2
      · rw [updN_ne ne] at o
        exact (R.uq j d' a e2 o).2 i (Ne.symm ne) ha
    · obtain ⟨w1, w2⟩ := R.uq i d a e1 o
      refine ⟨w1, fun ⟨j, w⟩ => ?_⟩
      rcases mem_updN w with ⟨_, w⟩ | ⟨ne, w⟩
      · cases w
      · exact w2 j ne w
  · exact q.elim
end
end VS
/-! VS: loops. -/
namespace VS
open PySem PySem.Spec PyProof.Rows L2
/-- the iterator J gives what the trees ds are, as long as P holds of the heap -/
structure Walk (G : Gt) (J : It) (ds : List D) (n n' : List Addr) (P : Hp → Prop) : Prop where
  go : ∀ H i d, P H → ds[i]? = some d → J.go i H ∧ ∀ x H3, J.yld i H x H3 → (∀ a o, H a = some o → H3 a = some o) ∧ P H3 ∧ ∃ m, Rp G H3 d x m ∧ ∀ a ∈ m, a ∈ n
  stop : ∀ H i, P H → ds.length ≤ i → J.stop i H
  stay : ∀ H1 H2 Wp, P H1 → Keeps H1 H2 Wp → (∀ a, Wp a → MutO (H1 a)) → (∀ a ∈ n', ¬ Wp a) → P H2
  there : ∀ H, P H → ∀ a ∈ n', MutO (H a)
  sub : ∀ a ∈ n, a ∈ n'
/-- an iterable: what it is to give -/
def IQ (G : Gt) (μ : List Md) (W : WX) (env : En) (N : Nat → List Addr) (σ : L2.St) (H : Hp) (Rr : It → Hp → Prop) : Rt (List D) → Prop
  | .ok ds env' => ∀ J H' N' n n' P, Rep G μ env' σ H' N' → Stp μ false env H N env' H' N' → Walk G J ds n n' P → P H' → (∀ a ∈ n', ¬ wrS μ env' N' a) → (∀ a ∈ n, ¬ ownS μ env' N' a) → (∀ a ∈ n, allS N a ∨ H a = none) → Rr J H'
  | .exc x env' => XQ G μ W env N σ H x env'
  | .bad => False
def tI (G : Gt) (μ : List Md) (W : WX) (m : AM) : TI := fun σ H Rr => ∃ env N, Rep G μ env σ H N ∧ IQ G μ W env N σ H Rr (m env)
structure PIV (X : Cx) (xv : XV) (μ : List Md) (W : WX) (tg e : Expr) (m : AM) : Prop where
  pi : PI X tg e (tI (gx X xv) μ W m)
end VS
namespace L2
open PySem PySem.Spec PyProof.Rows
theorem PI.imp {X : Cx} {tg e : Expr} {t t' : TI} (h : PI X tg e t) (i : ∀ σ H R, t' σ H R → t σ H R) : PI X tg e t' := ⟨fun pins s σ H R I q => h.run pins s σ H R I (i σ H R q)⟩
/-- over a list or a tuple -/
def iSeq (K : PySem.W.Frag) (tl : TE) : TI := fun σ H R => tl σ H fun x H1 => ∃ a, x = .ref a ∧ (((∃ xs, SqL K H1 a xs) ∧ R (Itl K a) H1) ∨ ((∃ xs, SqT K H1 a xs) ∧ R (Itt K a) H1))
theorem pi_seq {X : Cx} {tg l : Expr} {tl : TE} (hl : PE X l tl) : PI X tg l (iSeq X.K tl) := by
  refine ⟨fun pins s σ H R I h => ?_⟩
  refine thn (hl.run pins s σ H _ I h) fun v s1 ⟨x, H1, I1, r1, q1⟩ => ?_
  obtain ⟨a, e, q⟩ := q1
  subst e
  cases r1
  rcases q with ⟨⟨xs, hq⟩, q⟩ | ⟨⟨xs, hq⟩, q⟩
  · obtain ⟨its, rv, p, hz⟩ := I1.list hq
    refine wpAny_pyIter_list p.isList ?_
    refine ⟨s1.heap.objs.size, [s1.heap.objs.size], _, _, H1, rfl, I1.kept (t' := s1.toks) fun b o e => Heap.get?_push_of_some _ e, turn_list a _, ⟨_, Heap.get?_push_size _ rfl, rfl, rfl⟩, fun b hb => ?_, q⟩
    have e : b = s1.heap.objs.size := by simpa using hb
    subst e
    exact I1.fpOk (Nat.le_refl _) (I1.hok.fresh (Nat.le_refl _))
  · obtain ⟨its, rv, p, hz⟩ := I1.tuple hq
    refine wpAny_pyIter_tuple (show s1.heap.IsTuple a its.toArray from p) ?_
    refine ⟨s1.heap.objs.size, [s1.heap.objs.size], _, _, H1, rfl, I1.kept (t' := s1.toks) fun b o e => Heap.get?_push_of_some _ e, turn_tuple a _, ⟨_, Heap.get?_push_size _ rfl, rfl, rfl⟩, fun b hb => ?_, q⟩
    have e : b = s1.heap.objs.size := by simpa using hb
    subst e
    exact I1.fpOk (Nat.le_refl _) (I1.hok.fresh (Nat.le_refl _))
end L2
namespace VS
open PySem PySem.Spec PyProof.Rows L2
section
variable {X : Cx} {xv : XV} {G : Gt}
/-- a list that stands -/
theorem walk_lst {a : Addr} {vs : List V} {ds : List D} {n : List Addr} : Walk G (Itl G.K a) ds n (a :: n) (fun H => H a = some (.lst vs) ∧ RpL G H ds vs n) where
  go := fun H i d ⟨p1, p2⟩ e => by
    obtain ⟨v, m, e1, r, hm⟩ := p2.get e
    refine ⟨⟨vs, v, SqL.of p1, e1⟩, fun x H3 y => ?_⟩
    obtain ⟨rfl, y⟩ := y
    have hx := y vs (SqL.of p1)
    rw [e1] at hx
    cases hx
    exact ⟨fun _ _ k => k, ⟨p1, p2⟩, m, r, hm⟩
  stop := fun H i ⟨p1, p2⟩ e => ⟨vs, SqL.of p1, by rw [← p2.len]; exact e⟩
  stay := fun H1 H2 Wp ⟨p1, p2⟩ k m nw => ⟨k _ _ p1 (nw a (by simp)), p2.keep k m fun b hb => nw b (by simp [hb])⟩
  there := fun H ⟨p1, p2⟩ b hb => by
    rcases List.mem_cons.mp hb with rfl | hb
    · rw [p1]; trivial
    · exact p2.mut b hb
  sub := fun b hb => by simp [hb]
theorem walk_tup {a : Addr} {vs : List V} {ds : List D} {n : List Addr} : Walk G (Itt G.K a) ds n n (fun H => H a = some (.tup vs) ∧ RpL G H ds vs n) where
  go := fun H i d ⟨p1, p2⟩ e => by
    obtain ⟨v, m, e1, r, hm⟩ := p2.get e
    refine ⟨⟨vs, v, SqT.of p1, e1⟩, fun x H3 y => ?_⟩
    obtain ⟨rfl, y⟩ := y
    have hx := y vs (SqT.of p1)
    rw [e1] at hx
    cases hx
    exact ⟨fun _ _ k => k, ⟨p1, p2⟩, m, r, hm⟩
  stop := fun H i ⟨p1, p2⟩ e => ⟨vs, SqT.of p1, by rw [← p2.len]; exact e⟩
  stay := fun H1 H2 Wp ⟨p1, p2⟩ k m nw => ⟨k _ _ p1 (fun w => by have := m a w; rw [p1] at this; exact this), p2.keep k m fun b hb => nw b hb⟩
  there := fun H ⟨p1, p2⟩ b hb => p2.mut b hb
  sub := fun b hb => hb
theorem walk_scr {a : Addr} {ns : List Int} : Walk G (Itl G.K a) (ns.map .int) [] [] (fun H => (∃ o, H a = some (.frz o (.lst (ns.map V.int)))) ∨ ∀ H' : Hp, SqL G.K H' a (ns.map V.int)) where
  go := fun H i d p e => by
    rw [List.getElem?_map] at e
    cases e1 : ns[i]? with
    | none => rw [e1] at e; cases e
    | some k =>
      rw [e1] at e
      cases e
      have e2 : (ns.map V.int)[i]? = some (.int k) := by rw [List.getElem?_map, e1]; rfl
      refine ⟨⟨_, _, scr_sq p, e2⟩, fun x H3 y => ?_⟩
      obtain ⟨rfl, y⟩ := y
      have hx := y _ (scr_sq p)
      rw [e2] at hx
      cases hx
      exact ⟨fun _ _ k => k, p, [], by simp [Rp], by simp⟩
  stop := fun H i p e => ⟨_, scr_sq p, by simpa using e⟩
  stay := fun H1 H2 Wp p k m nw => by
    rcases p with ⟨o, h1⟩ | h1
    · exact .inl ⟨o, k _ _ h1 fun w => by have := m a w; rw [h1] at this; exact this⟩
    · exact .inr h1
  there := fun H p b hb => by cases hb
  sub := fun b hb => hb
def rngL (lo : Int) (n : Nat) : List D := (List.range n).map fun i : Nat => D.int (lo + (i : Int))
theorem walk_rng {lo : Int} {k : Nat} : Walk G (Itr lo k) (rngL lo k) [] [] (fun _ => True) where
  go := fun H i d p e => by
    unfold rngL at e
    rw [List.getElem?_map] at e
    by_cases hi : i < k
    · rw [List.getElem?_range hi] at e
      cases e
      refine ⟨hi, fun x H3 y => ?_⟩
      obtain ⟨rfl, rfl⟩ := y
      exact ⟨fun _ _ k => k, trivial, [], by simp [Rp], by simp⟩
    · rw [List.getElem?_eq_none (by simpa using hi)] at e; cases e
  stop := fun H i p e => by show k ≤ i; simpa [rngL] using e
  stay := fun H1 H2 Wp p k m nw => trivial
  there := fun H p b hb => by cases hb
  sub := fun b hb => hb
end
/-! ### iterables -/
def itemsOf (d : D) (e : En) : Rt (List D) := match d with
  | .lst xs | .tup xs => .ok xs e
  | .scr ns => .ok (ns.map .int) e
  | _ => .bad
def iVal (m : EM) : AM := fun env => (m env).bind itemsOf
section
variable {X : Cx} {xv : XV} {μ : List Md} {W : WX} {pos p : Pos} {e tg a b : Expr} {ro ro1 ro2 al dp : Bool} {md : Md} {m : EM} {ms : AM}
/-- a value walked -/
theorem i_val (h : PEV X xv μ W e ro md m) (hm : md ≠ .al := by decide) : PIV X xv μ W tg e (iVal m) := by
  refine ⟨PI.imp (pi_seq h.pe) fun σ H Rr ⟨env, N, R0, q⟩ => ⟨env, N, R0, ?_⟩⟩
  unfold iVal at q
  cases e1 : m env with
  | bad => rw [e1] at q; exact q
  | exc x env1 => rw [e1] at q; exact q
  | ok d env1 =>
    rw [e1] at q
    intro v H1 N1 n R1 S1 r V
    have nw : ∀ x ∈ n, ¬ wrS μ env1 N1 x := fun x hx w => V.nown hm x hx w.own
    simp only [Rt.bind_ok] at q
    cases d <;> simp only [itemsOf] at q <;> try exact q.elim
    · simp only [Rp] at r
      obtain ⟨p, vs, rfl, h1, h2⟩ := r
      exact ⟨p, rfl, .inr ⟨⟨vs, SqT.of h1⟩, q _ H1 N1 n n _ R1 (S1.mono (by simp)) walk_tup ⟨h1, h2⟩ nw (V.nown hm) V.sub⟩⟩
    · simp only [Rp] at r
      obtain ⟨p, vs, n', rfl, h1, h2, rfl⟩ := r
      exact ⟨p, rfl, .inl ⟨⟨vs, SqL.of h1⟩, q _ H1 N1 n' (p :: n') _ R1 (S1.mono (by simp)) walk_lst ⟨h1, h2⟩ nw (fun x hx => V.nown hm x (by simp [hx])) fun x hx => V.sub x (by simp [hx])⟩⟩
    · simp only [Rp] at r
      obtain ⟨p, rfl, h1, rfl⟩ := r
      exact ⟨p, rfl, .inl ⟨⟨_, scr_sq (G := gx X xv) h1⟩, q _ H1 N1 [] [] _ R1 (S1.mono (by simp)) walk_scr h1 (by simp) (by simp) (by simp)⟩⟩
/-- a name that owns its list, which the loop leaves (its mode is a locked one) -/
theorem i_own {i : Nat} {x : Str} (h : PE X (.Name x pos) (tVar i)) (hm : (mdAt μ i) = .lr := by decide) : PIV X xv μ W tg (.Name x pos) (iVal (mVar i)) := by
  refine ⟨PI.imp (pi_seq h) fun σ H Rr ⟨env, N, R0, q⟩ => ?_⟩
  unfold iVal mVar at q
  split at q
  · rename_i d e1
    obtain ⟨v, h1, r⟩ := R0.rep i d e1
    simp only [Rt.bind_ok] at q
    refine ⟨v, h1, ?_⟩
    have own : ∀ x, Own (mdAt μ i) d (N i) x → ¬ wrS μ env N x := fun x o ⟨j, d', e', w⟩ => by
      by_cases hj : j = i
      · subst hj
        rw [hm] at w
        cases w.1
      · exact (R0.uq i d x e1 o).2 j hj w.2.mem
    have oth : ∀ x ∈ N i, ∀ j, j ≠ i → ∀ d', env[j]? = some (some d') → ¬ Own (mdAt μ j) d' (N j) x := fun x hx j hj d' e' o => (R0.uq j d' x e' o).2 i (Ne.symm hj) hx
    cases d <;> simp only [itemsOf] at q <;> try exact q.elim
    · simp only [Rp] at r
      obtain ⟨p, vs, rfl, h2, h3⟩ := r
      have no : ∀ x ∈ N i, ¬ ownS μ env N x := fun x hx ⟨j, d', e', o⟩ => by
        by_cases hj : j = i
        · subst hj
          rw [e1] at e'
          cases e'
          rw [hm] at o
          rcases o with o | ⟨_, o, _⟩ <;> first | cases o.1 | cases o
        · exact oth x hx j hj d' e' o
      exact ⟨p, rfl, .inr ⟨⟨vs, SqT.of h2⟩, q _ H N (N i) (N i) _ R0 .refl walk_tup ⟨h2, h3⟩ (fun x hx w => no x hx w.own) no fun x hx => .inl ⟨i, hx⟩⟩⟩
    · have r0 := r
      simp only [Rp] at r
      obtain ⟨p, vs, n', rfl, h2, h3, hn⟩ := r
      have op : Own (mdAt μ i) (.lst ‹List D›) (N i) p := .inr ⟨by rw [hm]; rfl, rfl, by rw [hn]; rfl⟩
      have c1 := (R0.uq i _ p e1 op).1
      have np : p ∉ n' := fun z => by
        rw [hn, List.count_cons_self] at c1
        have := List.count_pos_iff.mpr z
        omega
      have no : ∀ x ∈ n', ¬ ownS μ env N x := fun x hx ⟨j, d', e', o⟩ => by
        by_cases hj : j = i
        · subst hj
          rw [e1] at e'
          cases e'
          rw [hm] at o
          rcases o with o | ⟨_, _, o⟩
          · cases o.1
          · rw [hn] at o
            simp at o
            subst o
            exact np hx
        · exact oth x (by rw [hn]; simp [hx]) j hj d' e' o
      refine ⟨p, rfl, .inl ⟨⟨vs, SqL.of h2⟩, q _ H N n' (p :: n') _ R0 .refl walk_lst ⟨h2, h3⟩ (fun x hx => ?_) no fun x hx => .inl ⟨i, by rw [hn]; simp [hx]⟩⟩⟩
      rcases List.mem_cons.mp hx with rfl | hx
      · exact own _ op
      · exact fun w => no x hx w.own
    · simp only [Rp] at r
      obtain ⟨p, rfl, h2, hn⟩ := r
      exact ⟨p, rfl, .inl ⟨⟨_, scr_sq (G := gx X xv) h2⟩, q _ H N [] [] _ R0 .refl walk_scr h2 (by simp) (by simp) (by simp)⟩⟩
  · exact q.elim
/-- range -/
def okR (i : Int) : Bool := decide (i.natAbs < 2 ^ 62)
def rngOf1 (ds : List D) (e : En) : Rt (List D) := match ds with
  | [.int j] => if okR j then .ok (rngL 0 j.toNat) e else .bad
  | _ => .bad
def rngOf2 (ds : List D) (e : En) : Rt (List D) := match ds with
  | [.int i, .int j] => if okR i && okR j then .ok (rngL i (j - i).toNat) e else .bad
  | _ => .bad
def iRng1 (ms : AM) : AM := fun env => (ms env).bind rngOf1
def iRng2 (ms : AM) : AM := fun env => (ms env).bind rngOf2
theorem i_rng1 (hg : Gl X "range") (hm : X.mg "range" = none) (h : PLV X xv μ W [a] ro al dp ms) (hs : starEach [a] X.env = [(false, eval a X.env)] := by rfl) : PIV X xv μ W tg (.Call (.Name "range" p) [a] [] pos) (iRng1 ms) := by
  refine ⟨PI.imp (pi_range1 hg hm h.pa hs) fun σ H Rr ⟨env, N, R0, q⟩ => ⟨env, N, R0, ?_⟩⟩
  unfold iRng1 at q
  cases e1 : ms env with
  | bad => rw [e1] at q; exact q
  | exc x env1 => rw [e1] at q; exact q
  | ok ds env1 =>
    rw [e1] at q
    intro vs H1 N1 n R1 S1 rl A _
    simp only [Rt.bind_ok, rngOf1] at q
    split at q
    · split at q
      · rename_i j hj
        obtain ⟨v, rfl, r⟩ := rl.one
        simp only [Rp] at r
        unfold okR at hj
        rw [decide_eq_true_eq] at hj
        exact ⟨j, by rw [r.1], by omega, by omega, q _ H1 N1 [] [] _ R1 (S1.mono (by simp)) walk_rng trivial (by simp) (by simp) (by simp)⟩
      · exact q.elim
    · exact q.elim
theorem i_rng2 (hg : Gl X "range") (hm : X.mg "range" = none) (h : PLV X xv μ W [a, b] ro al dp ms) (hs : starEach [a, b] X.env = [(false, eval a X.env), (false, eval b X.env)] := by rfl) (hs2 : starEach [b] X.env = [(false, eval b X.env)] := by rfl) : PIV X xv μ W tg (.Call (.Name "range" p) [a, b] [] pos) (iRng2 ms) := by
  refine ⟨PI.imp (pi_range2 hg hm h.pa hs hs2) fun σ H Rr ⟨env, N, R0, q⟩ => ⟨env, N, R0, ?_⟩⟩
  unfold iRng2 at q
  cases e1 : ms env with
  | bad => rw [e1] at q; exact q
  | exc x env1 => rw [e1] at q; exact q
  | ok ds env1 =>
    rw [e1] at q
    intro vs H1 N1 n R1 S1 rl A _
    simp only [Rt.bind_ok, rngOf2] at q
    split at q
    · split at q
      · rename_i i j hj
        obtain ⟨v, w, n1, n2, rfl, r1, r2, _⟩ := rl.two
        simp only [Rp] at r1 r2
        unfold okR at hj
        rw [Bool.and_eq_true, decide_eq_true_eq, decide_eq_true_eq] at hj
        exact ⟨i, j, by rw [r1.1, r2.1], ⟨by omega, by omega, by omega, by omega⟩, q _ H1 N1 [] [] _ R1 (S1.mono (by simp)) walk_rng trivial (by simp) (by simp) (by simp)⟩
      · exact q.elim
    · exact q.elim
end
/-! ### targets: what a loop's or an assignment's target does with a value -/
/-- slot i, which owns nothing -/
def Sl (sl : List Nat) (σ σ' : L2.St) (N N' : Nat → List Addr) : Prop := σ'.length = σ.length ∧ ∀ j, j ∉ sl → σ'[j]? = σ[j]? ∧ N' j = N j
structure TGV (X : Cx) (xv : XV) (μ : List Md) (tg : Expr) (sl : List Nat) (g : TG) (f : D → En → Option En) : Prop where
  pg : PG X tg g
  law : ∀ (σ : L2.St) (H : Hp) (env env' : En) (N : Nat → List Addr) (d : D) (v : V) (n : List Addr) (Q : L2.St → Hp → Prop), Rep (gx X xv) μ env σ H N → Rp (gx X xv) H d v n → (∀ a ∈ n, ¬ ownS μ env N a) → f d env = some env' →
    (∀ σ' N', Rep (gx X xv) μ env' σ' H N' → (∀ a, ownS μ env' N' a → ownS μ env N a) → (∀ a, wrS μ env' N' a → wrS μ env N a) → (∀ a, allS N' a → allS N a ∨ a ∈ n) → (∀ i, (mdAt μ i).lock = true → env'[i]? = env[i]? ∧ N' i = N i) → Fx μ σ σ' → Sl sl σ σ' N N' → Q σ' H) → g v σ H Q
def gSet (i : Nat) (d : D) (e : En) : Option En := if i < e.length then some (e.set i (some d)) else none
section
variable {X : Cx} {xv : XV} {μ : List Md} {pos : Pos}
theorem g_name {i : Nat} {x : Str} (hN : X.N.Nodup) (hi : X.N[i]? = some x) (hx : Loc X.env.scope x) (hm : mdAt μ i = .s := by decide) (hf : X.fn x = true ∨ X.env.scope.names.lookup x = some .local := by first | exact .inl rfl | exact .inr rfl | assumption) (hX : NoX (gx X xv) i := by (intro x h; first | (cases h; done) | (cases h; simp))) :
    TGV X xv μ (.Name x pos) [i] (gName i) (gSet i) := by
  refine ⟨pg_name hN hi hx hf, fun σ H env env' N d v n Q R r hn e q => ?_⟩
  unfold gSet at e
  split at e
  · rename_i hl
    cases e
    have no : ∀ a, ¬ Own (mdAt μ i) d n a := fun a o => by rw [hm] at o; exact Own.noS o
    refine q _ _ (R.set hX hl r (fun a ha => .inl (hn a ha)) fun a o => absurd o (no a)) (fun a ⟨j, d', e', w⟩ => ?_) (fun a ⟨j, d', e', w⟩ => ?_) (fun a ⟨j, w⟩ => ?_) (fun j hj => ?_) (fun j hj => ?_) ⟨List.length_set, fun j hj => ⟨List.getElem?_set_ne fun z => hj (by simp [z]), updN_ne fun z => hj (by simp [z])⟩⟩
    · rcases get_set e' with ⟨rfl, e1⟩ | ⟨ne, e1⟩
      · cases e1; rw [updN_same] at w; exact absurd w (no a)
      · rw [updN_ne ne] at w; exact ⟨j, d', e1, w⟩
    · rcases get_set e' with ⟨rfl, e1⟩ | ⟨ne, e1⟩
      · cases e1; rw [updN_same] at w; exact absurd w.2 (no a)
      · rw [updN_ne ne] at w; exact ⟨j, d', e1, w⟩
    · rcases mem_updN w with ⟨_, w⟩ | ⟨_, w⟩
      · exact .inr w
      · exact .inl ⟨j, w⟩
    · have ne : i ≠ j := fun z => by rw [← z, hm] at hj; cases hj
      rw [List.getElem?_set_ne ne, updN_ne (Ne.symm ne)]
      exact ⟨rfl, rfl⟩
    · have ne : i ≠ j := fun z => by rw [← z, hm] at hj; cases hj
      exact List.getElem?_set_ne ne
  · cases e
end
/-! ### for -/
/-- what a turn leaves, then the next ones -/
def Sr.loop (r : Sr) (k : SM) : Sr := match r with
  | .nx e => k e
  | .ct e => k e
  | .bk e => .nx e
  | r => r
@[simp] theorem Sr.loop_nx (e : En) (k : SM) : (Sr.nx e).loop k = k e := rfl
@[simp] theorem Sr.loop_ct (e : En) (k : SM) : (Sr.ct e).loop k = k e := rfl
@[simp] theorem Sr.loop_bk (e : En) (k : SM) : (Sr.bk e).loop k = .nx e := rfl
@[simp] theorem Sr.loop_rt (d : D) (e : En) (k : SM) : (Sr.rt d e).loop k = .rt d e := rfl
@[simp] theorem Sr.loop_exc (x : Exn) (e : En) (k : SM) : (Sr.exc x e).loop k = .exc x e := rfl
@[simp] theorem Sr.loop_bad (k : SM) : Sr.bad.loop k = .bad := rfl
def turn (b : SM) (o : Option En) : Sr := match o with
  | some e => b e
  | none => .bad
def forL (f : D → En → Option En) (b : SM) : List D → SM
  | [], e => .nx e
  | d :: r, e => (turn b (f d e)).loop (forL f b r)
def sFor2 (f : D → En → Option En) (b : SM) (ds : List D) (e : En) : Sr := forL f b ds e
def sFor (ms : AM) (f : D → En → Option En) (b : SM) : SM := fun env => (ms env).st (sFor2 f b)
section
variable {X : Cx} {xv : XV} {μ : List Md} {W : WX} {rmd : Md} {pos : Pos} {tg iter : Expr} {body : List Stmt} {ms : AM} {f : D → En → Option En} {b : SM} {sl : List Nat}
theorem for_core {g : TG} {J : It} {ds : List D} {n n' : List Addr} {P : Hp → Prop} {E : Ends}
    (hg : ∀ (σ : L2.St) (H : Hp) (env env' : En) (N : Nat → List Addr) (d : D) (v : V) (n : List Addr) (Q : L2.St → Hp → Prop), Rep (gx X xv) μ env σ H N → Rp (gx X xv) H d v n → (∀ a ∈ n, ¬ ownS μ env N a) → f d env = some env' →
      (∀ σ' N', Rep (gx X xv) μ env' σ' H N' → (∀ a, ownS μ env' N' a → ownS μ env N a) → (∀ a, wrS μ env' N' a → wrS μ env N a) → (∀ a, allS N' a → allS N a ∨ a ∈ n) → (∀ i, (mdAt μ i).lock = true → env'[i]? = env[i]? ∧ N' i = N i) → Fx μ σ σ' → Sl sl σ σ' N N' → Q σ' H) → g v σ H Q)
    (wk : Walk (gx X xv) J ds n n' P) {env0 : En} {N0 : Nat → List Addr} {σ0 : L2.St} {H0 : Hp} (hn0 : ∀ a ∈ n, allS N0 a ∨ H0 a = none) {env : En} {N : Nat → List Addr} {σ : L2.St} {H : Hp}
    (R : Rep (gx X xv) μ env σ H N) (S0 : Stp μ false env0 H0 N0 env H N) (F0 : Fx μ σ0 σ) (hp : P H) (hw : ∀ a ∈ n', ¬ wrS μ env N a) (ho : ∀ a ∈ n, ¬ ownS μ env N a) (q : SQ (gx X xv) μ W rmd env0 N0 σ0 H0 E (forL f b ds env)) :
    ∃ Wi : Nat → Nat → L2.St → Hp → Prop, (∃ m, Wi 0 m σ H) ∧ ∀ i m σ H, Wi i m σ H → (J.stop i H ∧ E.nx σ H) ∨ (J.go i H ∧ ∃ Nn : L2.St → Hp → Prop, (∀ σ' H', Nn σ' H' → ∃ m', m' < m ∧ Wi (i + 1) m' σ' H') ∧
      ∀ x H', J.yld i H x H' → g x σ H' fun σ2 H2 => tS (gx X xv) μ W rmd b { E with nx := Nn, ct := Nn, bk := E.nx } σ2 H2) := by
  -- what holds between two turns
  let Pv : Nat → L2.St → Hp → Prop := fun i σ1 H1 => ∃ env1 N1, Rep (gx X xv) μ env1 σ1 H1 N1 ∧ Stp μ false env0 H0 N0 env1 H1 N1 ∧ Fx μ σ0 σ1 ∧ P H1 ∧ (∀ a ∈ n', ¬ wrS μ env1 N1 a) ∧ (∀ a ∈ n, ¬ ownS μ env1 N1 a) ∧ SQ (gx X xv) μ W rmd env0 N0 σ0 H0 E (forL f b (ds.drop i) env1)
  refine ⟨fun i m σ1 H1 => m = ds.length - i ∧ i ≤ ds.length ∧ Pv i σ1 H1, ⟨_, rfl, Nat.zero_le _, env, N, R, S0, F0, hp, hw, ho, by simpa using q⟩, ?_⟩
  rintro i m σ1 H1 ⟨rfl, hi, env1, N1, R1, S1, F1, p1, w1, o1, q1⟩
  by_cases hlt : i < ds.length
  · have hd : ds[i]? = some ds[i] := by simp [hlt]
    obtain ⟨jg, jy⟩ := wk.go H1 i ds[i] p1 hd
    refine .inr ⟨jg, Pv (i + 1), fun σ' H' p => ⟨ds.length - (i + 1), by omega, rfl, hlt, p⟩, fun x H' y => ?_⟩
    obtain ⟨k, p2, m, r, hm⟩ := jy x H' y
    have e1 : ds.drop i = ds[i] :: ds.drop (i + 1) := (List.drop_eq_getElem_cons hlt)
    rw [e1] at q1
    unfold forL at q1
    cases ef : f ds[i] env1 with
    | none => rw [ef] at q1; exact q1.elim
    | some env2 =>
      rw [ef] at q1
      simp only [turn] at q1
      have R1' := R1.ext k
      have S1' : Stp μ false env0 H0 N0 env1 H' N1 := (S1.trans (Stp.new (ro := true) k)).mono (by simp)
      refine hg σ1 H' env1 env2 N1 ds[i] x m _ R1' r (fun a ha => o1 a (hm a ha)) ef fun σ2 N2 R2 ow wr al lk F2 _ => ?_
      have there : ∀ a ∈ n', H' a ≠ none := fun a ha z => by
        have := wk.there H' p2 a ha
        rw [z] at this
        exact this
      have S2 : Stp μ false env0 H0 N0 env2 H' N2 := {
        keep := S1'.keep
        dom := S1'.dom
        own := fun a h => S1'.own a (ow a h)
        wr := fun a h => S1'.wr a (wr a h)
        all := fun a h => (al a h).elim (S1'.all a) fun z => hn0 a (hm a z)
        lock := fun j hj => ⟨(lk j hj).1.trans (S1'.lock j hj).1, (lk j hj).2.trans (S1'.lock j hj).2⟩
        ro := fun z => by cases z }
      refine ⟨env2, N2, R2, ?_⟩
      -- the body's end
      have nxt : ∀ env3 σ3 H3 N3, Rep (gx X xv) μ env3 σ3 H3 N3 → Stp μ false env2 H' N2 env3 H3 N3 → Fx μ σ2 σ3 → SQ (gx X xv) μ W rmd env0 N0 σ0 H0 E (forL f b (ds.drop (i + 1)) env3) → Pv (i + 1) σ3 H3 := fun env3 σ3 H3 N3 R3 S3 F3 q3 => by
        refine ⟨env3, N3, R3, (S2.trans S3).mono (by simp), F1.trans (F2.trans F3), ?_, fun a ha w => ?_, fun a ha w => ?_, q3⟩
        · exact wk.stay H' H3 _ p2 S3.keep (fun a w => R2.mut w.own.all) fun a ha w => w1 a ha (wr a w)
        · rcases S3.wr a w with z | z
          · exact w1 a ha (wr a z)
          · exact there a ha z
        · rcases S3.own a w with z | z
          · exact o1 a ha (ow a z)
          · exact there a (wk.sub a ha) z
      cases eb : b env2 with
      | nx env3 => rw [eb] at q1; exact fun σ3 H3 N3 R3 S3 F3 => nxt env3 σ3 H3 N3 R3 S3 F3 q1
      | ct env3 => rw [eb] at q1; exact fun σ3 H3 N3 R3 S3 F3 => nxt env3 σ3 H3 N3 R3 S3 F3 q1
      | bk env3 => rw [eb] at q1; exact fun σ3 H3 N3 R3 S3 F3 => q1 σ3 H3 N3 R3 ((S2.trans S3).mono (by simp)) (F1.trans (F2.trans F3))
      | rt d env3 => rw [eb] at q1; exact fun v σ3 H3 N3 n3 R3 S3 F3 r3 V3 => q1 v σ3 H3 N3 n3 R3 ((S2.trans S3).mono (by simp)) (F1.trans (F2.trans F3)) r3 (V3.pre S2)
      | exc x env3 => rw [eb] at q1; exact SXQ.pre S2 (F1.trans F2) q1
      | bad => rw [eb] at q1; exact q1
  · have e : i = ds.length := by omega
    subst e
    refine .inl ⟨wk.stop H1 _ p1 (Nat.le_refl _), ?_⟩
    rw [List.drop_length] at q1
    exact q1 σ1 H1 N1 R1 S1 F1
theorem s_for (hp : PassesOwn (model X.prog X.w) X.A X.env X.xe) (hc : X.calm = true) (hi : PIV X xv μ W tg iter ms) {g : TG} (hg : TGV X xv μ tg sl g f) (hb : PSsV X xv μ W rmd body b) (hs : ∀ x, foldedSetIterable iter X.env x = pure x := by intro _; rfl) :
    PSV X xv μ W rmd (.For tg iter body [] pos) (sFor ms f b) := by
  refine ⟨PS.imp (ps_for hp hc hi.pi hg.pg hb.ps hs) fun E σ H ⟨env, N, R0, q⟩ => ⟨env, N, R0, ?_⟩⟩
  unfold sFor at q
  cases e1 : ms env with
  | bad => rw [e1] at q; exact q
  | exc x env1 => rw [e1] at q; exact SXQ.toX q
  | ok ds env1 =>
    rw [e1] at q
    intro J H1 N1 n n' P R1 S1 wk hP hw ho hn
    exact for_core hg.law wk hn R1 S1 .refl hP hw ho q
/-! ### while -/
def whB (b : SM) (k : SM) (t : Bool) (e : En) : Sr := if t = true then (b e).loop k else .nx e
def whN (c : BM) (b : SM) : Nat → SM
  | 0, _ => .bad
  | k + 1, e => (c e).st (whB b (whN c b k))
/-- while, at most k turns -/
def sWhile (k : Nat) (c : BM) (b : SM) : SM := whN c b k
theorem s_while {c : Expr} {t : BM} {ro : Bool} (k : Nat) (hp : PassesOwn (model X.prog X.w) X.A X.env X.xe) (ht : PTV X xv μ W c ro t) (hb : PSsV X xv μ W rmd body b) : PSV X xv μ W rmd (.While c body [] pos) (sWhile k t b) := by
  refine ⟨PS.imp (ps_while hp ht.pt hb.ps) fun E σ H ⟨env, N, R0, q⟩ => ?_⟩
  refine ⟨fun m σ1 H1 => ∃ env1 N1, Rep (gx X xv) μ env1 σ1 H1 N1 ∧ Stp μ false env H N env1 H1 N1 ∧ Fx μ σ σ1 ∧ SQ (gx X xv) μ W rmd env N σ H E (whN t b m env1), ⟨k, env, N, R0, .refl, .refl, q⟩, ?_⟩
  rintro m σ1 H1 ⟨env1, N1, R1, S1, F1, q1⟩
  cases m with
  | zero => exact q1.elim
  | succ m =>
    unfold whN at q1
    refine ⟨env1, N1, R1, ?_⟩
    cases e1 : t env1 with
    | bad => rw [e1] at q1; exact q1
    | exc x env2 => rw [e1] at q1; exact SXQ.toX (SXQ.pre S1 F1 q1)
    | ok bb env2 =>
      rw [e1] at q1
      simp only [Rt.st_ok, whB] at q1
      intro H2 N2 R2 S2
      have S12 : Stp μ false env H N env2 H2 N2 := (S1.trans S2).mono (by simp)
      cases bb with
      | false =>
        rw [if_neg Bool.false_ne_true] at q1 ⊢
        exact q1 σ1 H2 N2 R2 S12 F1
      | true =>
        rw [if_pos rfl] at q1 ⊢
        refine ⟨fun σ3 H3 => ∃ env3 N3, Rep (gx X xv) μ env3 σ3 H3 N3 ∧ Stp μ false env H N env3 H3 N3 ∧ Fx μ σ σ3 ∧ SQ (gx X xv) μ W rmd env N σ H E (whN t b m env3), fun σ' H' h => ⟨m, Nat.lt_succ_self m, h⟩, env2, N2, R2, ?_⟩
        cases eb : b env2 with
        | nx env3 => rw [eb] at q1; exact fun σ3 H3 N3 R3 S3 F3 => ⟨env3, N3, R3, (S12.trans S3).mono (by simp), F1.trans F3, q1⟩
        | ct env3 => rw [eb] at q1; exact fun σ3 H3 N3 R3 S3 F3 => ⟨env3, N3, R3, (S12.trans S3).mono (by simp), F1.trans F3, q1⟩
        | bk env3 => rw [eb] at q1; exact fun σ3 H3 N3 R3 S3 F3 => q1 σ3 H3 N3 R3 ((S12.trans S3).mono (by simp)) (F1.trans F3)
        | rt d env3 => rw [eb] at q1; exact fun v σ3 H3 N3 n3 R3 S3 F3 r3 V3 => q1 v σ3 H3 N3 n3 R3 ((S12.trans S3).mono (by simp)) (F1.trans F3) r3 (V3.pre S12)
        | exc x env3 => rw [eb] at q1; exact SXQ.pre S12 F1 q1
        | bad => rw [eb] at q1; exact q1
end
end VS
/-! VS: changes in place. -/
namespace VS
open PySem PySem.Spec PyProof.Rows L2
/-! ### locks -/
def Md.lk : Md → Md
  | .r | .fr => .lr
  | .d | .fd => .ld
  | x => x
def lockAt (μ : List Md) (i : Nat) : List Md := μ.set i (mdAt μ i).lk
theorem mdAt_lock (μ : List Md) (i j : Nat) : mdAt (lockAt μ i) j = if j = i then (mdAt μ i).lk else mdAt μ j := by
  unfold lockAt mdAt
  by_cases h : j = i
  · subst h
    rw [if_pos rfl]
    by_cases hl : j < μ.length
    · simp [hl]
    · simp [Nat.not_lt.mp hl, Md.lk]
  · rw [if_neg h]
    simp [List.getElem?_set, Ne.symm h]
theorem Md.lk_R (m : Md) : m.lk.isR = m.isR := by cases m <;> rfl
theorem Md.lk_D (m : Md) : m.lk.isD = m.isD := by cases m <;> rfl
theorem own_lk {m : Md} {d : D} {n : List Addr} {a : Addr} : Own m.lk d n a ↔ Own m d n a := by unfold Own; rw [Md.lk_R, Md.lk_D]
theorem own_lock {μ : List Md} {i j : Nat} {d : D} {n : List Addr} {a : Addr} : Own (mdAt (lockAt μ i) j) d n a ↔ Own (mdAt μ j) d n a := by
  rw [mdAt_lock]
  split
  · rename_i h; subst h; exact own_lk
  · rfl
theorem lock_of {μ : List Md} {i j : Nat} (h : (mdAt μ j).lock = true) : (mdAt (lockAt μ i) j).lock = true := by
  rw [mdAt_lock]
  split
  · rename_i e; subst e; cases z : mdAt μ j <;> simp [z, Md.lock] at h <;> rfl
  · exact h
theorem fix_of {μ : List Md} {i j : Nat} (h : (mdAt μ j).fix = true) : (mdAt (lockAt μ i) j).fix = true := by
  rw [mdAt_lock]
  split
  · rename_i e; subst e; cases z : mdAt μ j <;> simp [z, Md.fix] at h <;> rfl
  · exact h
theorem ownS_lock {μ : List Md} {i : Nat} {env : En} {N : Nat → List Addr} {a : Addr} : ownS (lockAt μ i) env N a ↔ ownS μ env N a :=
  ⟨fun ⟨j, d, e, w⟩ => ⟨j, d, e, own_lock.mp w⟩, fun ⟨j, d, e, w⟩ => ⟨j, d, e, own_lock.mpr w⟩⟩
theorem wrS_lock {μ : List Md} {i : Nat} {env : En} {N : Nat → List Addr} {a : Addr} (h : wrS (lockAt μ i) env N a) : wrS μ env N a := by
  obtain ⟨j, d, e, w⟩ := h
  refine ⟨j, d, e, ?_, own_lock.mp w.2⟩
  cases z : (mdAt μ j).lock with
  | false => rfl
  | true => have w1 := w.1; rw [lock_of z] at w1; cases w1
section
variable {G : Gt} {μ : List Md} {i : Nat} {env env' : En} {σ σ' : L2.St} {H H' : Hp} {N N' : Nat → List Addr} {W : WX} {rmd : Md} {E : Ends} {ro : Bool}
theorem Rep.unlock (R : Rep G (lockAt μ i) env σ H N) : Rep G μ env σ H N := ⟨R.len, R.rep, R.emp, fun j d a e o => R.uq j d a e (own_lock.mpr o), R.ex⟩
theorem Rep.dolock (R : Rep G μ env σ H N) : Rep G (lockAt μ i) env σ H N := ⟨R.len, R.rep, R.emp, fun j d a e o => R.uq j d a e (own_lock.mp o), R.ex⟩
theorem Stp.unlock (S : Stp (lockAt μ i) ro env H N env' H' N') (hR : (mdAt μ i).isR = true ∨ (mdAt μ i).isD = true) : Stp μ ro env H N env' H' N' where
  keep := fun a o h w => S.keep a o h fun w' => w (wrS_lock w')
  dom := S.dom
  own := fun a h => (S.own a (ownS_lock.mpr h)).imp ownS_lock.mp id
  wr := fun a ⟨j, d, e, w⟩ => by
    by_cases hj : j = i
    · subst hj
      have hl : (mdAt (lockAt μ j) j).lock = true := by
        rw [mdAt_lock, if_pos rfl]
        cases z : mdAt μ j <;> simp [z, Md.isR, Md.isD] at hR <;> rfl
      obtain ⟨e1, e2⟩ := S.lock j hl
      rw [e1] at e
      rw [e2] at w
      exact .inl ⟨j, d, e, w⟩
    · rcases S.wr a ⟨j, d, e, by rw [mdAt_lock, if_neg hj]; exact w⟩ with z | z
      · exact .inl (wrS_lock z)
      · exact .inr z
  all := S.all
  lock := fun j h => S.lock j (lock_of h)
  ro := S.ro
theorem Fx.unlock (F : Fx (lockAt μ i) σ σ') : Fx μ σ σ' := fun j h => F j (fix_of h)
theorem XQ.unlock {x : Exn} (hR : (mdAt μ i).isR = true ∨ (mdAt μ i).isD = true) (q : XQ G μ W env N σ H x env') : XQ G (lockAt μ i) W env N σ H x env' := fun cls dx H' N' n R S ex hn hs =>
  q cls dx H' N' n R.unlock (S.unlock hR) ex (fun a ha w => hn a ha (ownS_lock.mpr w)) hs
theorem SXQ.unlock {x : Exn} (hR : (mdAt μ i).isR = true ∨ (mdAt μ i).isD = true) (q : SXQ G μ W env N σ H x env') : SXQ G (lockAt μ i) W env N σ H x env' := fun cls dx σ' H' N' n R S F ex hn hs =>
  q cls dx σ' H' N' n R.unlock (S.unlock hR) F.unlock ex (fun a ha w => hn a ha (ownS_lock.mpr w)) hs
theorem VOk.unlock {d : D} {n : List Addr} {md : Md} (V : VOk (lockAt μ i) md d n env N H env' N') : VOk μ md d n env N H env' N' :=
  ⟨V.sub, fun z a ha w => V.nown z a ha (ownS_lock.mpr w), V.uq, fun a o => (V.osub a o).imp wrS_lock id⟩
theorem SQ.unlock {r : Sr} (hR : (mdAt μ i).isR = true ∨ (mdAt μ i).isD = true) (q : SQ G μ W rmd env N σ H E r) : SQ G (lockAt μ i) W rmd env N σ H E r := by
  cases r with
  | nx e => exact fun σ' H' N' R S F => q σ' H' N' R.unlock (S.unlock hR) F.unlock
  | bk e => exact fun σ' H' N' R S F => q σ' H' N' R.unlock (S.unlock hR) F.unlock
  | ct e => exact fun σ' H' N' R S F => q σ' H' N' R.unlock (S.unlock hR) F.unlock
  | rt d e => exact fun v σ' H' N' n R S F r V => q v σ' H' N' n R.unlock (S.unlock hR) F.unlock r V.unlock
  | exc x e => exact SXQ.unlock hR q
  | bad => exact q
/-- a statement under a lock -/
theorem s_unlock {X : Cx} {xv : XV} {st : Stmt} {m : SM} (i : Nat) (h : PSV X xv (lockAt μ i) W rmd st m) (hR : (mdAt μ i).isR = true ∨ (mdAt μ i).isD = true := by decide) : PSV X xv μ W rmd st m :=
  ⟨PS.imp h.ps fun E σ H ⟨env, N, R, q⟩ => ⟨env, N, R.dolock, SQ.unlock hR q⟩⟩
theorem v_unlock {X : Cx} {xv : XV} {e : Expr} {m : EM} {md : Md} (i : Nat) (h : PEV X xv (lockAt μ i) W e ro md m) (hR : (mdAt μ i).isR = true ∨ (mdAt μ i).isD = true := by decide) : PEV X xv μ W e ro md m :=
  ⟨PE.imp h.pe fun σ H Q ⟨env, N, R, q⟩ => ⟨env, N, R.dolock, by
    cases e1 : m env with
    | ok d env1 => rw [e1] at q; exact fun v H' N' n R S r V => q v H' N' n R.unlock (S.unlock hR) r V.unlock
    | exc x env1 => rw [e1] at q; exact XQ.unlock hR q
    | bad => rw [e1] at q; exact q⟩, h.rok⟩
end
/-! ### places -/
/-- d at v is a part of D0; rb puts another in its stead -/
def Foc (G : Gt) (H : Hp) (v0 : V) (n : List Addr) (root : Bool) (d : D) (v : V) (rb : D → D) : Prop :=
  ∃ n1 m n2, Rp G H d v m ∧ n = n1 ++ m ++ n2 ∧ (root = true → n1 = [] ∧ n2 = []) ∧
    ∀ H' d' m' Wp, Keeps H H' Wp → (∀ a, Wp a → MutO (H a)) → (∀ a, a ∈ n1 ∨ a ∈ n2 → ¬ Wp a) → Rp G H' d' v m' → Rp G H' (rb d') v0 (n1 ++ m' ++ n2)
abbrev Plc := D × (D → D)
abbrev PM := En → Rt Plc
def PQ (G : Gt) (μ : List Md) (W : WX) (ro : Bool) (i : Nat) (root : Bool) (env : En) (N : Nat → List Addr) (σ : L2.St) (H : Hp) (Q : VK) : Rt Plc → Prop
  | .ok p env' => ∀ v H' N', Rep G μ env' σ H' N' → Stp μ ro env H N env' H' N' → (∃ D0 v0, env'[i]? = some (some D0) ∧ σ[i]? = some (some v0) ∧ (root = true → D0 = p.1) ∧ Foc G H' v0 (N' i) root p.1 v p.2) → Q v H'
  | .exc x env' => XQ G μ W env N σ H x env'
  | .bad => False
def tP (G : Gt) (μ : List Md) (W : WX) (ro : Bool) (i : Nat) (root : Bool) (m : PM) : TE := fun σ H Q => ∃ env N, Rep G μ env σ H N ∧ PQ G μ W ro i root env N σ H Q (m env)
/-- a place in slot i, which is locked -/
structure PPV (X : Cx) (xv : XV) (μ : List Md) (W : WX) (e : Expr) (ro : Bool) (i : Nat) (root : Bool) (m : PM) : Prop where
  pe : PE X e (tP (gx X xv) μ W ro i root m)
  rok : ro = true → ∀ env p e', m env = .ok p e' → e' = env
def pVar (i : Nat) : PM := fun env => match env[i]? with
  | some (some d) => .ok (d, id) env
  | _ => .bad
def setK (xs : List D) (k : Int) (c : D) : List D := match ixN xs.length k with
  | some j => xs.set j c
  | none => xs
def pIdx3 (p : Plc) (k : D) (e : En) : Rt Plc := match p.1, k with
  | .lst xs, .int k => match atI xs k with
    | some c => .ok (c, fun c' => p.2 (.lst (setK xs k c'))) e
    | none => .bad
  | .tup xs, .int k => match atI xs k with
    | some c => .ok (c, fun c' => p.2 (.tup (setK xs k c'))) e
    | none => .bad
  | _, _ => .bad
def pIdx2 (m : EM) (p : Plc) (e : En) : Rt Plc := (m e).bind (pIdx3 p)
def pIdx (pm : PM) (m : EM) : PM := fun env => (pm env).bind (pIdx2 m)
theorem RpL.focus {G : Gt} {H : Hp} : ∀ {xs : List D} {vs : List V} {n : List Addr} {j : Nat} {d : D}, RpL G H xs vs n → xs[j]? = some d →
    ∃ v n1 m n2, vs[j]? = some v ∧ Rp G H d v m ∧ n = n1 ++ m ++ n2 ∧ ∀ H' d' m' Wp, Keeps H H' Wp → (∀ a, Wp a → MutO (H a)) → (∀ a, a ∈ n1 ∨ a ∈ n2 → ¬ Wp a) → Rp G H' d' v m' → RpL G H' (xs.set j d') vs (n1 ++ m' ++ n2)
  | [], _, _, _, _, _, e => by simp at e
  | c :: r, vs, n, 0, d, h, e => by
    simp only [RpL] at h
    obtain ⟨v, vs', n1, n2, rfl, h1, h2, rfl⟩ := h
    simp only [List.getElem?_cons_zero, Option.some.injEq] at e
    subst e
    refine ⟨v, [], n1, n2, rfl, h1, by simp, fun H' d' m' Wp k mu nw r => ?_⟩
    simp only [List.set_cons_zero, RpL]
    exact ⟨v, vs', m', n2, rfl, r, h2.keep k mu fun a ha => nw a (.inr ha), by simp⟩
  | c :: r, vs, n, j + 1, d, h, e => by
    simp only [RpL] at h
    obtain ⟨v, vs', n1, n2, rfl, h1, h2, rfl⟩ := h
    simp only [List.getElem?_cons_succ] at e
    obtain ⟨w, k1, m, k2, e1, r1, rfl, hf⟩ := h2.focus e
    refine ⟨w, n1 ++ k1, m, k2, by simpa using e1, r1, by simp, fun H' d' m' Wp k mu nw r => ?_⟩
    simp only [List.set_cons_succ, RpL]
    exact ⟨v, vs', n1, k1 ++ m' ++ k2, rfl, h1.keep k mu fun a ha => nw a (.inl (by simp [ha])), hf H' d' m' Wp k mu (fun a ha => nw a (by rcases ha with h | h <;> simp [h])) r, by simp⟩
section
variable {X : Cx} {xv : XV} {μ : List Md} {W : WX} {pos : Pos} {i : Nat} {o b e : Expr} {ro ro1 ro2 root al dp : Bool} {md : Md} {m : EM} {pm : PM}
theorem Foc.keep {G : Gt} {H H' : Hp} {v0 v : V} {n : List Addr} {root : Bool} {d : D} {rb : D → D} {Wp : Addr → Prop} (F : Foc G H v0 n root d v rb) (k : Keeps H H' Wp) (mu : ∀ a, Wp a → MutO (H a)) (nw : ∀ a ∈ n, ¬ Wp a) : Foc G H' v0 n root d v rb := by
  obtain ⟨n1, m, n2, r, rfl, hr, hf⟩ := F
  refine ⟨n1, m, n2, r.keep k mu fun a ha => nw a (by simp [ha]), rfl, hr, fun H2 d' m' Wq k2 mu2 nw2 r2 => ?_⟩
  refine hf H2 d' m' (fun a => Wp a ∨ (Wq a ∧ H a ≠ none)) (fun a o h w => k2 a o (k a o h fun z => w (.inl z)) fun z => w (.inr ⟨z, by rw [h]; simp⟩)) (fun a w => ?_) (fun a ha w => ?_) r2
  · rcases w with w | ⟨w, z⟩
    · exact mu a w
    · by_cases hw : Wp a
      · exact mu a hw
      · have q := mu2 a w
        cases e : H a with
        | none => exact absurd e z
        | some o => rw [k a o e hw] at q; exact q
  · rcases w with w | w
    · exact nw a (by rcases ha with h | h <;> simp [h]) w
    · exact nw2 a ha w.1
theorem p_name {x : Str} (h : PE X (.Name x pos) (tVar i)) : PPV X xv μ W (.Name x pos) true i true (pVar i) := by
  refine ⟨h.imp fun σ H Q ⟨env, N, R, q⟩ => ?_, fun _ env p e' k => ?_⟩
  · unfold pVar at q
    split at q
    · rename_i d e
      obtain ⟨v, h1, h2⟩ := R.rep i d e
      exact ⟨v, h1, q v H N R .refl ⟨d, v, e, h1, fun _ => rfl, [], N i, [], h2, by simp, fun _ => ⟨rfl, rfl⟩, fun H' d' m' Wp _ _ _ r => by simpa using r⟩⟩
    · exact q.elim
  · unfold pVar at k
    split at k
    · cases k; rfl
    · cases k
/-- slot i is left by a step under its lock -/
theorem Stp.foc {ro : Bool} {i : Nat} {G : Gt} {env env' : En} {σ : L2.St} {H H' : Hp} {N N' : Nat → List Addr} {v : V} {p : Plc} {root : Bool} (S : Stp μ ro env H N env' H' N') (R : Rep G μ env σ H N) (hl : (mdAt μ i).lock = true)
    (F : ∃ D0 v0, env[i]? = some (some D0) ∧ σ[i]? = some (some v0) ∧ (root = true → D0 = p.1) ∧ Foc G H v0 (N i) root p.1 v p.2) (hd : (mdAt μ i).isD = true ∨ ro = true ∨ ∀ a ∈ N i, ¬ wrS μ env N a) : ∃ D0 v0, env'[i]? = some (some D0) ∧ σ[i]? = some (some v0) ∧ (root = true → D0 = p.1) ∧ Foc G H' v0 (N' i) root p.1 v p.2 := by
  obtain ⟨D0, v0, e1, e2, fr, f⟩ := F
  obtain ⟨l1, l2⟩ := S.lock i hl
  refine ⟨D0, v0, l1.trans e1, e2, fr, ?_⟩
  rw [l2]
  rcases hd with hd | hd | hd
  · refine f.keep S.keep (fun a w => R.mut w.own.all) fun a ha ⟨j, d', e', w⟩ => ?_
    have o : Own (mdAt μ i) D0 (N i) a := .inl ⟨hd, ha⟩
    by_cases hj : j = i
    · subst hj
      have w1 := w.1
      rw [hl] at w1
      cases w1
    · exact (R.uq i D0 a e1 o).2 j hj w.2.mem
  · subst hd
    exact f.keep (Wp := fun _ => False) (fun a o h _ => (S.ro rfl).2.2 a o h) (fun a w => w.elim) fun a ha w => w.elim
  · exact f.keep S.keep (fun a w => R.mut w.own.all) hd
/-- nodes of a slot whose own object it owns alone, none is written under its lock -/
theorem Rep.nowr {G : Gt} {env : En} {σ : L2.St} {H : Hp} {N : Nat → List Addr} (R : Rep G μ env σ H N) (hl : (mdAt μ i).lock = true) : ∀ a ∈ N i, ¬ wrS μ env N a := fun a ha ⟨j, d', e', w⟩ => by
  by_cases hj : j = i
  · subst hj
    have w1 := w.1
    rw [hl] at w1
    cases w1
  · exact (R.uq j d' a e' w.2).2 i (Ne.symm hj) ha
theorem ixN_lt {n : Nat} {k : Int} {j : Nat} (h : ixN n k = some j) : j < n := (ixN_seq h).2.1
theorem p_idx (h1 : PPV X xv μ W o ro1 i root pm) (h2 : PEV X xv μ W b ro2 md m) (hl : (mdAt μ i).lock = true := by decide) (hs : PlainIx b := by intro _ _; rfl) : PPV X xv μ W (.Subscript o b pos) (ro1 && ro2) i false (pIdx pm m) := by
  refine ⟨PE.imp (pe_ix ix_seq h1.pe h2.pe hs) fun σ H Q ⟨env, N, R0, q⟩ => ⟨env, N, R0, ?_⟩, fun z env p e' k => ?_⟩
  · unfold pIdx at q
    cases e1 : pm env with
    | bad => rw [e1] at q; exact q
    | exc x env1 => rw [e1] at q; exact q
    | ok p env1 =>
      rw [e1] at q
      simp only [Rt.bind_ok, pIdx2] at q
      intro v1 H1 N1 R1 S1 F1
      refine ⟨env1, N1, R1, ?_⟩
      cases e2 : m env1 with
      | bad => rw [e2] at q; exact q
      | exc x env2 => rw [e2] at q; exact XQ.pre S1 q
      | ok dk env2 =>
        rw [e2] at q
        simp only [Rt.bind_ok] at q
        intro v2 H2 N2 n2 R2 S2 r2 V2
        obtain ⟨D0, v0, E1, E2, FR, F2⟩ := S2.foc R1 hl F1 (.inr (.inr (R1.nowr hl)))
        have S12 := S1.trans S2
        obtain ⟨c, rb⟩ := p
        unfold pIdx3 at q
        dsimp only at q
        obtain ⟨n1, mm, n3, r, hn, hr, hf⟩ := F2
        split at q
        · rename_i xs k
          split at q
          · rename_i c' hc
            simp only [Rp] at r r2
            obtain ⟨a, vs, m', rfl, g1, g2, rfl⟩ := r
            obtain ⟨rfl, _⟩ := r2
            unfold L2.atI at hc
            cases ej : ixN xs.length k with
            | none => rw [ej] at hc; cases hc
            | some j =>
              rw [ej] at hc
              simp only [Option.bind_some] at hc
              obtain ⟨w, k1, m2, k2, w1, w2, rfl, w3⟩ := g2.focus hc
              refine .inl ⟨a, vs, k, w, rfl, rfl, SqL.of g1, by unfold L2.atI; rw [← g2.len, ej]; exact w1, q w H2 N2 R2 S12 ⟨D0, v0, E1, E2, Bool.noConfusion, n1 ++ a :: k1, m2, k2 ++ n3, w2, by rw [hn]; simp, Bool.noConfusion, fun H' d' m' Wp kk mu nw rr => ?_⟩⟩
              have := hf H' (.lst (setK xs k d')) (a :: (k1 ++ m' ++ k2)) Wp kk mu (fun x hx => nw x (by rcases hx with h | h <;> simp [h])) (by
                simp only [Rp]
                refine ⟨a, vs, _, rfl, kk _ _ g1 (nw a (by simp)), ?_, rfl⟩
                unfold setK
                rw [ej]
                exact w3 H' d' m' Wp kk mu (fun x hx => nw x (by rcases hx with h | h <;> simp [h])) rr)
              simpa using this
          · exact q.elim
        · rename_i xs k
          split at q
          · rename_i c' hc
            simp only [Rp] at r r2
            obtain ⟨a, vs, rfl, g1, g2⟩ := r
            obtain ⟨rfl, _⟩ := r2
            unfold L2.atI at hc
            cases ej : ixN xs.length k with
            | none => rw [ej] at hc; cases hc
            | some j =>
              rw [ej] at hc
              simp only [Option.bind_some] at hc
              obtain ⟨w, k1, m2, k2, w1, w2, rfl, w3⟩ := g2.focus hc
              refine .inr (.inl ⟨a, vs, k, w, rfl, rfl, SqT.of g1, by unfold L2.atI; rw [← g2.len, ej]; exact w1, q w H2 N2 R2 S12 ⟨D0, v0, E1, E2, Bool.noConfusion, n1 ++ k1, m2, k2 ++ n3, w2, by rw [hn]; simp, Bool.noConfusion, fun H' d' m' Wp kk mu nw rr => ?_⟩⟩)
              have := hf H' (.tup (setK xs k d')) (k1 ++ m' ++ k2) Wp kk mu (fun x hx => nw x (by rcases hx with h | h <;> simp [h])) (by
                simp only [Rp]
                refine ⟨a, vs, rfl, kk _ _ g1 (fun w => by have := mu a w; rw [g1] at this; exact this), ?_⟩
                unfold setK
                rw [ej]
                exact w3 H' d' m' Wp kk mu (fun x hx => nw x (by rcases hx with h | h <;> simp [h])) rr)
              simpa using this
          · exact q.elim
        · exact q.elim
  · rw [Bool.and_eq_true] at z
    unfold pIdx at k
    cases e1 : pm env with
    | bad => rw [e1] at k; cases k
    | exc x env1 => rw [e1] at k; cases k
    | ok d1 env1 =>
      rw [e1] at k
      simp only [Rt.bind_ok, pIdx2] at k
      cases e2 : m env1 with
      | bad => rw [e2] at k; cases k
      | exc x env2 => rw [e2] at k; cases k
      | ok ds env2 =>
        rw [e2] at k
        simp only [Rt.bind_ok, pIdx3] at k
        have w := (h2.rok z.2 _ _ _ e2).trans (h1.rok z.1 _ _ _ e1)
        split at k
        · split at k
          · cases k; exact w
          · cases k
        · split at k
          · cases k; exact w
          · cases k
        · cases k
/-! ### a change -/
/-- the object at a is changed as g says -/
def MutR (G : Gt) (r : V → List V → Hp → VK → Prop) (g : D → List D → Option (D × D)) : Prop := ∀ H a k d ds vs m d' ret (Q : VK), Rp G H d (.ref a) (a :: k) → RpL G H ds vs m → a ∉ k → a ∉ m → g d ds = some (d', ret) →
  (∀ v H' k' nr, Rp G H' d' (.ref a) (a :: k') → Rp G H' ret v nr → Keeps H H' (· = a) → (∀ x, k'.count x + nr.count x ≤ k.count x + m.count x) → Q v H') → r (.ref a) vs H Q
def rtMd (md : Md) : Md := if md.isD = true then .d else .s
theorem mut_core {G : Gt} {r : V → List V → Hp → VK → Prop} {g : D → List D → Option (D × D)} (hs : MutR G r g) {env env1 : En} {σ : L2.St} {H H1 : Hp} {N N1 : Nat → List Addr} {ds : List D} {vs : List V} {mm : List Addr} {p : Plc} {v : V} {d' ret : D} {Q : VK}
    (hl : (mdAt μ i).lock = false) (hd : (mdAt μ i).isD = true ∨ ((mdAt μ i).isR = true ∧ root = true)) (R1 : Rep G μ env1 σ H1 N1) (S1 : Stp μ ro env H N env1 H1 N1) (hm : p.1.isMut = true)
    (F : ∃ D0 v0, env1[i]? = some (some D0) ∧ σ[i]? = some (some v0) ∧ (root = true → D0 = p.1) ∧ Foc G H1 v0 (N1 i) root p.1 v p.2) (rl : RpL G H1 ds vs mm) (A : AOk μ false mm env N H env1 N1) (Dq1 : (mdAt μ i).isD = true → Dq μ true mm env N H N1) (hg : g p.1 ds = some (d', ret))
    (q : ∀ w H2 N2 nr, Rep G μ (env1.set i (some (p.2 d'))) σ H2 N2 → Stp μ false env H N (env1.set i (some (p.2 d'))) H2 N2 → Rp G H2 ret w nr → VOk μ (rtMd (mdAt μ i)) ret nr env N H (env1.set i (some (p.2 d'))) N2 → Q w H2) : r v vs H1 Q := by
  obtain ⟨D0, v0, E1, E2, M0, n1, m, n2, r0, hn, hr, hf⟩ := F
  have hi : i < env1.length := by
    rcases Nat.lt_or_ge i env1.length with h | h
    · exact h
    · rw [List.getElem?_eq_none h] at E1; cases E1
  -- the object
  have ⟨a, k, ev, em⟩ : ∃ a k, v = .ref a ∧ m = a :: k := by
    cases e : p.1 with
    | lst xs => rw [e] at r0; simp only [Rp] at r0; obtain ⟨a, _, k, ev, _, _, em⟩ := r0; exact ⟨a, k, ev, em⟩
    | dct t xs => rw [e] at r0; simp only [Rp] at r0; obtain ⟨a, _, k, ev, _, _, em⟩ := r0; exact ⟨a, k, ev, em⟩
    | obj c fs => rw [e] at r0; simp only [Rp] at r0; obtain ⟨_, a, _, _, k, ev, _, _, _, em⟩ := r0; exact ⟨a, k, ev, em⟩
    | _ => rw [e] at hm; cases hm
  subst ev em
  have oa : Own (mdAt μ i) D0 (N1 i) a := by
    rcases hd with hd | ⟨hd, hroot⟩
    · exact .inl ⟨hd, by rw [hn]; simp⟩
    · obtain ⟨z1, z2⟩ := hr hroot
      exact .inr ⟨hd, by rw [M0 hroot]; exact hm, by rw [hn, z1]; rfl⟩
  obtain ⟨ca, na⟩ := R1.uq i D0 a E1 oa
  have cn : ∀ x, (N1 i).count x = n1.count x + ((a :: k).count x + n2.count x) := fun x => by rw [hn, List.count_append, List.count_append, Nat.add_assoc]
  have ca' := cn a
  rw [ca, List.count_cons_self] at ca'
  have ak : a ∉ k := fun z => by have := List.count_pos_iff.mpr z; omega
  have a1 : a ∉ n1 := fun z => by have := List.count_pos_iff.mpr z; omega
  have a2 : a ∉ n2 := fun z => by have := List.count_pos_iff.mpr z; omega
  have am : a ∉ mm := fun z => A.nown rfl a z ⟨i, D0, E1, oa⟩
  refine hs H1 a k p.1 ds vs mm d' ret Q r0 rl ak am hg fun w H2 k' nr r1 r2 kp cnt => ?_
  have mua : ∀ x, x = a → MutO (H1 x) := fun x e => by rw [e]; exact r0.mut a (by simp)
  have dom2 : ∀ x, H2 x = none → H1 x = none := fun x z => by
    by_cases e : x = a
    · subst e
      exact absurd z (r1.there (by simp))
    · cases e1 : H1 x with
      | none => rfl
      | some o => rw [kp x o e1 e] at z; cases z
  have mk : ∀ x, x ∈ k' → x ∈ k ∨ x ∈ mm := fun x hx => by
    have h1 := cnt x
    have h2 := List.count_pos_iff.mpr hx
    by_cases z : 0 < k.count x
    · exact .inl (List.count_pos_iff.mp z)
    · exact .inr (List.count_pos_iff.mp (by omega))
  have mr : ∀ x, x ∈ nr → x ∈ k ∨ x ∈ mm := fun x hx => by
    have h1 := cnt x
    have h2 := List.count_pos_iff.mpr hx
    by_cases z : 0 < k.count x
    · exact .inl (List.count_pos_iff.mp z)
    · exact .inr (List.count_pos_iff.mp (by omega))
  have kN : ∀ x, x ∈ k → x ∈ N1 i := fun x hx => by rw [hn]; simp [hx]
  have inN : ∀ x, x ∈ n1 ++ (a :: k') ++ n2 → x ∈ N1 i ∨ x ∈ mm := fun x hx => by
    rw [List.mem_append, List.mem_append] at hx
    rcases hx with (hx | hx) | hx
    · exact .inl (by rw [hn]; simp [hx])
    · rcases List.mem_cons.mp hx with rfl | hx
      · exact .inl (by rw [hn]; simp)
      · exact (mk x hx).imp (kN x) id
    · exact .inl (by rw [hn]; simp [hx])
  have cnt2 : ∀ x, (n1 ++ (a :: k') ++ n2).count x + nr.count x ≤ (N1 i).count x + mm.count x := fun x => by
    have h1 := cnt x
    have h2 := cn x
    rw [List.count_append, List.count_append]
    rw [List.count_cons] at h2 ⊢
    omega
  -- an address that slot i owns by all of it
  have dcount : (mdAt μ i).isD = true → ∀ x, (N1 i).count x + mm.count x ≤ 1 := fun z x => by
    by_cases hx : x ∈ N1 i
    · have o : Own (mdAt μ i) D0 (N1 i) x := .inl ⟨z, hx⟩
      have := (R1.uq i D0 x E1 o).1
      have : mm.count x = 0 := List.count_eq_zero.mpr fun y => A.nown rfl x y ⟨i, D0, E1, o⟩
      omega
    · have h0 : (N1 i).count x = 0 := List.count_eq_zero.mpr hx
      by_cases hy : x ∈ mm
      · have := (Dq1 z rfl x hy).1
        omega
      · have : mm.count x = 0 := List.count_eq_zero.mpr hy
        omega
  have R2 : Rep G μ (env1.set i (some (p.2 d'))) σ H2 (updN N1 i (n1 ++ (a :: k') ++ n2)) := by
    refine ⟨by rw [List.length_set]; exact R1.len, fun j dd e => ?_, fun j e => ?_, fun j dd x e o => ?_, R1.exK kp mua fun _ _ => rfl⟩
    · rcases get_set e with ⟨rfl, e1⟩ | ⟨ne, e1⟩
      · cases e1
        refine ⟨v0, E2, ?_⟩
        rw [updN_same]
        exact hf H2 d' (a :: k') (· = a) kp mua (fun x hx z => by subst z; exact hx.elim a1 a2) r1
      · obtain ⟨u, h1, h2⟩ := R1.rep j dd e1
        refine ⟨u, h1, ?_⟩
        rw [updN_ne ne]
        exact h2.keep kp mua fun x hx z => by subst z; exact na j ne hx
    · by_cases ne : j = i
      · subst ne
        exact absurd (List.getElem?_set_self hi) (e _)
      · rw [updN_ne ne]
        exact R1.emp j fun dd z => e dd (by rw [List.getElem?_set_ne (Ne.symm ne)]; exact z)
    · rcases get_set e with ⟨rfl, e1⟩ | ⟨ne, e1⟩
      · cases e1
        rw [updN_same] at o ⊢
        have oth : ∀ y, y ∈ N1 j ∨ y ∈ mm → Own (mdAt μ j) (p.2 d') (n1 ++ (a :: k') ++ n2) y → ∀ j', j' ≠ j → y ∉ N1 j' := fun y hy oy j' hj' w => by
          rcases oy with ⟨z, _⟩ | ⟨z, _, z2⟩
          · rcases hy with hy | hy
            · exact (R1.uq j D0 y E1 (.inl ⟨z, hy⟩)).2 j' hj' w
            · exact (Dq1 z rfl y hy).2.1 ⟨j', w⟩
          · rcases hd with hd | ⟨_, hroot⟩
            · cases hz : mdAt μ j <;> simp [hz, Md.isR, Md.isD] at z hd
            · obtain ⟨z3, z4⟩ := hr hroot
              rw [z3] at z2
              simp at z2
              subst z2
              exact na j' hj' w
        refine ⟨?_, fun j' hj' => by rw [updN_ne hj']; exact oth x (inN x o.mem) o j' hj'⟩
        have hpos := List.count_pos_iff.mpr o.mem
        rcases o with ⟨z, _⟩ | ⟨z, _, z2⟩
        · have h1 := cnt2 x
          have h2 := dcount z x
          omega
        · rcases hd with hd | ⟨_, hroot⟩
          · cases hz : mdAt μ j <;> simp [hz, Md.isR, Md.isD] at z hd
          · obtain ⟨z3, z4⟩ := hr hroot
            rw [z3] at z2
            simp at z2
            subst z2
            have h1 := cnt2 a
            rw [ca, List.count_eq_zero.mpr am] at h1
            omega
      · rw [updN_ne ne] at o ⊢
        refine ⟨(R1.uq j dd x e1 o).1, fun j' hj' w => ?_⟩
        rcases mem_updN w with ⟨rfl, w1⟩ | ⟨_, w1⟩
        · rcases inN x w1 with z | z
          · exact (R1.uq j dd x e1 o).2 j' hj' z
          · exact A.nown rfl x z ⟨j, dd, e1, o⟩
        · exact (R1.uq j dd x e1 o).2 j' hj' w1
  -- what slot i owns then was its own, or came with the arguments
  have own2 : ∀ x, Own (mdAt μ i) (p.2 d') (n1 ++ (a :: k') ++ n2) x → wrS μ env N x ∨ H x = none := fun x o => by
    have byN : Own (mdAt μ i) D0 (N1 i) x → wrS μ env N x ∨ H x = none := fun o1 => S1.wr x ⟨i, D0, E1, hl, o1⟩
    rcases o with ⟨z, hx⟩ | ⟨z, _, z2⟩
    · rcases inN x hx with y | y
      · exact byN (.inl ⟨z, y⟩)
      · exact (Dq1 z rfl x y).2.2
    · rcases hd with hd | ⟨_, hroot⟩
      · cases hz : mdAt μ i <;> simp [hz, Md.isR, Md.isD] at z hd
      · obtain ⟨z3, z4⟩ := hr hroot
        rw [z3] at z2
        simp at z2
        subst z2
        exact byN oa
  refine q w H2 _ nr R2 ?_ r2 ?_
  · refine ⟨fun x o h hw => ?_, fun x z => S1.dom x (dom2 x z), fun x ⟨j, dd, e, o⟩ => ?_, fun x ⟨j, dd, e, o⟩ => ?_, fun x ⟨j, hx⟩ => ?_, fun j hj => ?_, fun z => by cases z⟩
    · have h1 := S1.keep x o h hw
      refine kp x o h1 fun z => ?_
      subst z
      rcases S1.wr x ⟨i, D0, E1, hl, oa⟩ with y | y
      · exact hw y
      · rw [y] at h; cases h
    · rcases get_set e with ⟨rfl, e1⟩ | ⟨ne, e1⟩
      · cases e1
        rw [updN_same] at o
        exact (own2 x o).imp wrS.own id
      · rw [updN_ne ne] at o
        exact S1.own x ⟨j, dd, e1, o⟩
    · rcases get_set e with ⟨rfl, e1⟩ | ⟨ne, e1⟩
      · cases e1
        rw [updN_same] at o
        exact own2 x o.2
      · rw [updN_ne ne] at o
        exact S1.wr x ⟨j, dd, e1, o⟩
    · rcases mem_updN hx with ⟨rfl, w1⟩ | ⟨_, w1⟩
      · rcases inN x w1 with z | z
        · exact S1.all x ⟨j, z⟩
        · exact A.sub x z
      · exact S1.all x ⟨j, w1⟩
    · have ne : i ≠ j := fun z => by rw [z, hj] at hl; cases hl
      rw [List.getElem?_set_ne ne, updN_ne (Ne.symm ne)]
      exact S1.lock j hj
  · refine ⟨fun x hx => ?_, fun _ x hx ⟨j, dd, e, o⟩ => ?_, fun x o => ?_, fun x o => ?_⟩
    · rcases mr x hx with z | z
      · exact S1.all x ⟨i, kN x z⟩
      · exact A.sub x z
    · have hp := List.count_pos_iff.mpr hx
      rcases get_set e with ⟨rfl, e1⟩ | ⟨ne, e1⟩
      · cases e1
        rw [updN_same] at o
        have hp2 := List.count_pos_iff.mpr o.mem
        have h1 := cnt2 x
        rcases o with ⟨z, _⟩ | ⟨z, _, z2⟩
        · have h2 := dcount z x
          omega
        · rcases hd with hd | ⟨_, hroot⟩
          · cases hz : mdAt μ j <;> simp [hz, Md.isR, Md.isD] at z hd
          · obtain ⟨z3, z4⟩ := hr hroot
            rw [z3] at z2
            simp at z2
            subst z2
            rw [ca, List.count_eq_zero.mpr am] at h1
            omega
      · rw [updN_ne ne] at o
        rcases mr x hx with z | z
        · exact (R1.uq j dd x e1 o).2 i (Ne.symm ne) (kN x z)
        · exact A.nown rfl x z ⟨j, dd, e1, o⟩
    · unfold rtMd at o
      split at o
      · rename_i z
        have hx := o.mem
        have hp := List.count_pos_iff.mpr hx
        have h1 := cnt2 x
        have h2 := dcount z x
        refine ⟨by omega, fun ⟨j, w⟩ => ?_⟩
        rcases mem_updN w with ⟨rfl, w1⟩ | ⟨ne, w1⟩
        · have := List.count_pos_iff.mpr w1
          omega
        · rcases mr x hx with y | y
          · exact (R1.uq i D0 x E1 (.inl ⟨z, kN x y⟩)).2 j ne w1
          · exact (Dq1 z rfl x y).2.1 ⟨j, w1⟩
      · exact absurd o Own.noS
    · unfold rtMd at o
      split at o
      · rename_i z
        rcases mr x o.mem with y | y
        · exact S1.wr x ⟨i, D0, E1, hl, .inl ⟨z, kN x y⟩⟩
        · exact (Dq1 z rfl x y).2.2
      · exact absurd o Own.noS
end
end VS
/-! VS: methods that change their object; o[i] = e. -/
namespace VS
open PySem PySem.Spec PyProof.Rows L2
def D.isL : D → Bool
  | .lst _ => true
  | _ => false
def mMut4 (i : Nat) (g : D → List D → Option (D × D)) (p : Plc) (ds : List D) (e : En) : Rt D := match g p.1 ds with
  | some (d', r) => .ok r (e.set i (some (p.2 d')))
  | none => .bad
def mMut3 (T : D → Bool) (i : Nat) (g : D → List D → Option (D × D)) (ms : AM) (p : Plc) (e : En) : Rt D := if T p.1 = true then (ms e).bind (mMut4 i g p) else .bad
/-- place.method(args) -/
def mMut (T : D → Bool) (i : Nat) (g : D → List D → Option (D × D)) (pm : PM) (ms : AM) : EM := fun env => (pm env).bind (mMut3 T i g ms)
section
variable {X : Cx} {xv : XV} {μ : List Md} {W : WX} {pos apos : Pos} {i : Nat} {o b e : Expr} {es : List Expr} {ro ro1 ro2 root al dp : Bool} {md : Md} {m : EM} {pm : PM} {ms : AM} {T : D → Bool} {Tn id : String} {name : Str} {r : V → List V → Hp → VK → Prop} {g : D → List D → Option (D × D)}
theorem mdR {μ : List Md} {i : Nat} (hd : (mdAt μ i).isD = true ∨ ((mdAt μ i).isR = true ∧ root = true)) : (mdAt μ i).isR = true ∨ (mdAt μ i).isD = true := by rcases hd with h | h; exact .inr h; exact .inl h.1
theorem lk_of {μ : List Md} {i : Nat} (h : (mdAt μ i).isR = true ∨ (mdAt μ i).isD = true) : (mdAt (lockAt μ i) i).lock = true := by
  rw [mdAt_lock, if_pos rfl]
  cases z : mdAt μ i <;> simp [z, Md.isR, Md.isD] at h <;> rfl
/-- a method that changes its object -/
theorem v_mut (pa : PlainAttrs Tn) (slot : Slot Tn name id) (hty : typeOf (.builtin id) = pure (.type "method_descriptor")) (hm : MtR X id r) (hT : ∀ H d a k, Rp (gx X xv) H d (.ref a) (a :: k) → T d = true → tyV X.K Tn (.ref a) H) (hTm : ∀ d, T d = true → d.isMut = true) (hs : MutR (gx X xv) r g)
    (hl : (mdAt μ i).lock = false) (hd : (mdAt μ i).isD = true ∨ ((mdAt μ i).isR = true ∧ root = true)) (h1 : PPV X xv (lockAt μ i) W o ro1 i root pm) (h2 : PLV X xv (lockAt μ i) W (e :: es) ro2 false dp ms) (hdp : (mdAt μ i).isD = true → dp = true)
    (hbase : attributeBase o name X.env (eval o X.env) = eval o X.env := by rfl)
    (hfew : ((backTo pos (starEach (e :: es) X.env)).all (fun x => !x.1) && (backToKw pos (keywordEach [] X.env)).all (fun x => x.1.isSome)
      && decide ((e :: es).length + ([] : List Keyword).length + (if ([] : List Keyword).isEmpty then 0 else 1) < 30)) = true := by rfl)
    (hline : (apos.endLine == pos.line) = true := by rfl) (hst : starEach (e :: es) X.env = (false, eval e X.env) :: starEach es X.env := by rfl) (hplain : (backTo pos (starEach es X.env)).any (·.1) = false := by rfl) :
    PEV X xv μ W (.Call (.Attribute o name apos) (e :: es) [] pos) false (rtMd (mdAt μ i)) (mMut T i g pm ms) := by
  have hR := mdR hd
  have hlk := lk_of hR
  refine ⟨PE.imp (pe_bm pa slot hty hm h1.pe h2.pa hbase hfew hline hst hplain) fun σ H Q ⟨env, N, R0, q⟩ => ⟨env, N, R0.dolock, ?_⟩, fun z => by cases z⟩
  unfold mMut at q
  cases e1 : pm env with
  | bad => rw [e1] at q; exact q
  | exc x env1 => rw [e1] at q; exact XQ.unlock hR q
  | ok p env1 =>
    rw [e1] at q
    simp only [Rt.bind_ok, mMut3] at q
    split at q
    · rename_i hTp
      intro v H1 N1 R1 S1 F1
      have F0 := F1
      obtain ⟨D0, v0, E1, E2, M0, n1, m, n2, r0, hn, hr, hf⟩ := F0
      have ⟨a, k, ev, em⟩ : ∃ a k, v = .ref a ∧ m = a :: k := by
        have hm := hTm _ hTp
        cases e : p.1 with
        | lst xs => rw [e] at r0; simp only [Rp] at r0; obtain ⟨a, _, k, ev, _, _, em⟩ := r0; exact ⟨a, k, ev, em⟩
        | dct t xs => rw [e] at r0; simp only [Rp] at r0; obtain ⟨a, _, k, ev, _, _, em⟩ := r0; exact ⟨a, k, ev, em⟩
        | obj c fs => rw [e] at r0; simp only [Rp] at r0; obtain ⟨_, a, _, _, k, ev, _, _, _, em⟩ := r0; exact ⟨a, k, ev, em⟩
        | _ => rw [e] at hm; cases hm
      subst ev em
      refine ⟨hT H1 _ a k r0 hTp, env1, N1, R1, ?_⟩
      cases e2 : ms env1 with
      | bad => rw [e2] at q; exact q
      | exc x env2 => rw [e2] at q; exact XQ.pre S1 (XQ.unlock hR q)
      | ok ds env2 =>
        rw [e2] at q
        simp only [Rt.bind_ok, mMut4] at q
        intro vs H2 N2 n R2 S2 rl A D2
        have F2 := S2.foc R1 hlk F1 (.inr (.inr (R1.nowr hlk)))
        have S12 : Stp μ false env H N env2 H2 N2 := ((S1.trans S2).unlock hR).mono (by simp)
        cases eg : g p.1 ds with
        | none => rw [eg] at q; exact q.elim
        | some dr =>
          obtain ⟨d', ret⟩ := dr
          rw [eg] at q
          refine mut_core hs hl hd R2.unlock S12 (hTm _ hTp) F2 rl ⟨fun x hx => (A.sub x hx).elim (S1.all x) fun z => .inr (S1.dom x z), fun z x hx w => A.nown z x hx (ownS_lock.mpr w)⟩ (fun z _ x hx => ?_) eg q
          obtain ⟨w1, w2, w3⟩ := D2 (hdp z) x hx
          refine ⟨w1, w2, ?_⟩
          rcases w3 with w3 | w3
          · exact (S1.wr x w3).imp wrS_lock (fun z => z)
          · exact .inr (S1.dom x w3)
    · exact q.elim
/-- .. without arguments -/
theorem v_mut0 (pa : PlainAttrs Tn) (slot : Slot Tn name id) (hty : typeOf (.builtin id) = pure (.type "method_descriptor")) (hm : MtR X id r) (hT : ∀ H d a k, Rp (gx X xv) H d (.ref a) (a :: k) → T d = true → tyV X.K Tn (.ref a) H) (hTm : ∀ d, T d = true → d.isMut = true) (hs : MutR (gx X xv) r g)
    (hl : (mdAt μ i).lock = false) (hd : (mdAt μ i).isD = true ∨ ((mdAt μ i).isR = true ∧ root = true)) (h1 : PPV X xv (lockAt μ i) W o ro1 i root pm)
    (hbase : attributeBase o name X.env (eval o X.env) = eval o X.env := by rfl) (hline : (apos.endLine == pos.line) = true := by rfl) :
    PEV X xv μ W (.Call (.Attribute o name apos) [] [] pos) false (rtMd (mdAt μ i)) (mMut T i g pm aNil) := by
  have hR := mdR hd
  have hlk := lk_of hR
  refine ⟨PE.imp (pe_bm0 pa slot hty hm h1.pe hbase hline) fun σ H Q ⟨env, N, R0, q⟩ => ⟨env, N, R0.dolock, ?_⟩, fun z => by cases z⟩
  unfold mMut at q
  cases e1 : pm env with
  | bad => rw [e1] at q; exact q
  | exc x env1 => rw [e1] at q; exact XQ.unlock hR q
  | ok p env1 =>
    rw [e1] at q
    simp only [Rt.bind_ok, mMut3] at q
    split at q
    · rename_i hTp
      intro v H1 N1 R1 S1 F1
      have F0 := F1
      obtain ⟨D0, v0, E1, E2, M0, n1, m, n2, r0, hn, hr, hf⟩ := F0
      have ⟨a, k, ev, em⟩ : ∃ a k, v = .ref a ∧ m = a :: k := by
        have hm := hTm _ hTp
        cases e : p.1 with
        | lst xs => rw [e] at r0; simp only [Rp] at r0; obtain ⟨a, _, k, ev, _, _, em⟩ := r0; exact ⟨a, k, ev, em⟩
        | dct t xs => rw [e] at r0; simp only [Rp] at r0; obtain ⟨a, _, k, ev, _, _, em⟩ := r0; exact ⟨a, k, ev, em⟩
        | obj c fs => rw [e] at r0; simp only [Rp] at r0; obtain ⟨_, a, _, _, k, ev, _, _, _, em⟩ := r0; exact ⟨a, k, ev, em⟩
        | _ => rw [e] at hm; cases hm
      subst ev em
      refine ⟨hT H1 _ a k r0 hTp, ?_⟩
      simp only [aNil, Rt.bind_ok, mMut4] at q
      cases eg : g p.1 [] with
      | none => rw [eg] at q; exact q.elim
      | some dr =>
        obtain ⟨d', ret⟩ := dr
        rw [eg] at q
        exact mut_core (mm := []) hs hl hd R1.unlock ((S1.unlock hR).mono (r2 := false) (by simp)) (hTm _ hTp) F1 (by simp [RpL]) ⟨by simp, by simp⟩ (fun _ _ x hx => by cases hx) eg q
    · exact q.elim
/-! ### lists -/
theorem isL_ty {H : Hp} {d : D} {a : Addr} {k : List Addr} (r : Rp (gx X xv) H d (.ref a) (a :: k)) (h : d.isL = true) : tyV X.K "list" (.ref a) H := by
  cases d <;> simp [D.isL] at h
  simp only [Rp] at r
  obtain ⟨b, vs, m, e1, h1, _⟩ := r
  cases e1
  exact .inl ⟨rfl, vs, SqL.of h1⟩
theorem isL_mut (d : D) (h : d.isL = true) : d.isMut = true := by cases d <;> simp [D.isL] at h; rfl
theorem RpL.snoc {G : Gt} {H : Hp} {xs : List D} {vs : List V} {n m : List Addr} {d : D} {v : V} (h : RpL G H xs vs n) (r : Rp G H d v m) : RpL G H (xs ++ [d]) (vs ++ [v]) (n ++ m) :=
  h.append (by simp only [RpL]; exact ⟨v, [], m, [], rfl, r, ⟨rfl, rfl⟩, by simp⟩)
theorem Keeps.updL {H : Hp} {a : Addr} {o : HO} : Keeps H (upd H a o) (· = a) := fun b o' e n => by
  rw [upd_ne n]
  exact e
theorem Rp.lstUpd {G : Gt} {H : Hp} {a : Addr} {xs : List D} {vs : List V} {k : List Addr} (h : RpL G H xs vs k) (ha : MutO (H a)) (n : a ∉ k) : Rp G (upd H a (.lst vs)) (.lst xs) (.ref a) (a :: k) := by
  simp only [Rp]
  exact ⟨a, vs, k, rfl, upd_same, h.keep Keeps.updL (fun x e => by subst e; exact ha) fun x hx z => by subst z; exact n hx, rfl⟩
def gAppend (d : D) (ds : List D) : Option (D × D) := match d, ds with
  | .lst xs, [y] => if xs.length < LIM then some (.lst (xs ++ [y]), .non) else none
  | _, _ => none
theorem mu_append : MutR (gx X xv) rAppend gAppend := fun H a k d ds vs m d' ret Q r rl ak am e q => by
  unfold gAppend at e
  split at e
  · split at e
    · rename_i xs y hz
      cases e
      obtain ⟨w, rfl, rw1⟩ := rl.one
      simp only [Rp] at r
      obtain ⟨b, us, k0, e1, h1, h2, e2⟩ := r
      cases e1
      cases e2
      refine ⟨a, us, w, rfl, rfl, h1, by rw [LIM_eq, ← h2.len]; exact hz, q _ _ (k ++ m) [] (Rp.lstUpd (h2.snoc rw1) (by rw [h1]; trivial) ?_) (by simp [Rp]) Keeps.updL fun x => by simp⟩
      rw [List.mem_append]
      exact fun z => z.elim ak am
    · cases e
  · cases e
/-- the last -/
def gPop (d : D) (ds : List D) : Option (D × D) := match d, ds with
  | .lst xs, [] => (xs.getLast?).map fun y => (.lst xs.dropLast, y)
  | _, _ => none
theorem RpL.split {G : Gt} {H : Hp} : ∀ {xs : List D} {vs : List V} {n : List Addr} {j : Nat} {d : D}, RpL G H xs vs n → xs[j]? = some d → ∃ v m k, vs[j]? = some v ∧ Rp G H d v m ∧ RpL G H (xs.eraseIdx j) (vs.eraseIdx j) k ∧ ∀ x, k.count x + m.count x = n.count x
  | [], _, _, _, _, _, e => by simp at e
  | c :: r, vs, n, 0, d, h, e => by
    simp only [RpL] at h
    obtain ⟨v, vs', n1, n2, rfl, h1, h2, rfl⟩ := h
    simp only [List.getElem?_cons_zero, Option.some.injEq] at e
    subst e
    exact ⟨v, n1, n2, rfl, h1, by simpa using h2, fun x => by rw [List.count_append, Nat.add_comm]⟩
  | c :: r, vs, n, j + 1, d, h, e => by
    simp only [RpL] at h
    obtain ⟨v, vs', n1, n2, rfl, h1, h2, rfl⟩ := h
    simp only [List.getElem?_cons_succ] at e
    obtain ⟨w, m, k, e1, r1, r2, hc⟩ := h2.split e
    refine ⟨w, m, n1 ++ k, by simpa using e1, r1, by simp only [List.eraseIdx_cons_succ, RpL]; exact ⟨v, _, n1, k, rfl, h1, r2, rfl⟩, fun x => ?_⟩
    rw [List.count_append, List.count_append, ← hc x]
    omega
theorem eraseLast {α : Type} (xs : List α) : xs.eraseIdx (xs.length - 1) = xs.dropLast := by
  induction xs with
  | nil => rfl
  | cons a r ih =>
    cases r with
    | nil => rfl
    | cons b r' => simp only [List.length_cons, Nat.add_sub_cancel, List.eraseIdx_cons_succ, List.dropLast_cons₂] at ih ⊢; rw [ih]
theorem mu_pop : MutR (gx X xv) rPop gPop := fun H a k d ds vs m d' ret Q r rl ak am e q => by
  unfold gPop at e
  split at e
  · rename_i xs
    cases hy : xs.getLast? with
    | none => rw [hy] at e; cases e
    | some y =>
      rw [hy] at e
      cases e
      simp only [RpL] at rl
      obtain ⟨rfl, rfl⟩ := rl
      simp only [Rp] at r
      obtain ⟨b, us, k0, e1, h1, h2, e2⟩ := r
      cases e1
      cases e2
      rw [List.getLast?_eq_getElem?] at hy
      obtain ⟨v, m1, k1, g1, g2, g3, g4⟩ := h2.split hy
      rw [h2.len] at g1
      have g5 : RpL (gx X xv) H xs.dropLast us.dropLast k1 := by
        rw [eraseLast, h2.len, eraseLast] at g3
        exact g3
      have mem : ∀ x, x ∈ k1 ∨ x ∈ m1 → x ∈ k := fun x hx => by
        have := g4 x
        rcases hx with hx | hx <;> (have := List.count_pos_iff.mpr hx; exact List.count_pos_iff.mp (by omega))
      refine ⟨a, us, v, rfl, rfl, h1, g1, q _ _ k1 m1 (Rp.lstUpd g5 (by rw [h1]; trivial) fun z => ak (mem a (.inl z))) (g2.keep Keeps.updL (fun x z => by subst z; rw [h1]; trivial) fun x hx z => by subst z; exact ak (mem _ (.inr hx))) Keeps.updL fun x => by have := g4 x; omega⟩
  · cases e
def gPopAt (d : D) (ds : List D) : Option (D × D) := match d, ds with
  | .lst xs, [.int i] => if okR i = true then (ixN xs.length i).bind fun j => (xs[j]?).map fun y => (.lst (xs.eraseIdx j), y) else none
  | _, _ => none
theorem mu_popAt : MutR (gx X xv) rPopAt gPopAt := fun H a k d ds vs m d' ret Q r rl ak am e q => by
  unfold gPopAt at e
  split at e
  · rename_i xs i
    split at e
    · rename_i hb
      cases hj : ixN xs.length i with
      | none => rw [hj] at e; cases e
      | some j =>
        rw [hj] at e
        simp only [Option.bind_some] at e
        cases hy : xs[j]? with
        | none => rw [hy] at e; cases e
        | some y =>
          rw [hy] at e
          cases e
          obtain ⟨w, rfl, rw1⟩ := rl.one
          simp only [Rp] at rw1
          obtain ⟨rfl, _⟩ := rw1
          simp only [Rp] at r
          obtain ⟨b, us, k0, e1, h1, h2, e2⟩ := r
          cases e1
          cases e2
          obtain ⟨v, m1, k1, g1, g2, g3, g4⟩ := h2.split hy
          have mem : ∀ x, x ∈ k1 ∨ x ∈ m1 → x ∈ k := fun x hx => by
            have := g4 x
            rcases hx with hx | hx <;> (have := List.count_pos_iff.mpr hx; exact List.count_pos_iff.mp (by omega))
          rw [h2.len] at hj
          obtain ⟨z1, z2, z3, z4⟩ := ixN_seq hj
          unfold okR at hb
          rw [decide_eq_true_eq] at hb
          refine ⟨a, us, i, j, v, rfl, rfl, h1, by omega, by omega, z1, g1, q _ _ k1 m1 (Rp.lstUpd g3 (by rw [h1]; trivial) fun z => ak (mem a (.inl z))) (g2.keep Keeps.updL (fun x z => by subst z; rw [h1]; trivial) fun x hx z => by subst z; exact ak (mem _ (.inr hx))) Keeps.updL fun x => by have := g4 x; omega⟩
    · cases e
  · cases e
def gReverse (d : D) (ds : List D) : Option (D × D) := match d, ds with
  | .lst xs, [] => some (.lst xs.reverse, .non)
  | _, _ => none
theorem RpL.rev {G : Gt} {H : Hp} : ∀ {xs : List D} {vs : List V} {n : List Addr}, RpL G H xs vs n → ∃ m, RpL G H xs.reverse vs.reverse m ∧ ∀ x, m.count x = n.count x
  | [], _, _, h => by simp only [RpL] at h; obtain ⟨rfl, rfl⟩ := h; exact ⟨[], by simp [RpL], fun _ => rfl⟩
  | c :: r, vs, n, h => by
    simp only [RpL] at h
    obtain ⟨v, vs', n1, n2, rfl, h1, h2, rfl⟩ := h
    obtain ⟨m, h3, h4⟩ := h2.rev
    refine ⟨m ++ n1, ?_, fun x => ?_⟩
    · rw [List.reverse_cons, List.reverse_cons]
      exact h3.snoc h1
    · rw [List.count_append, List.count_append, h4]
      omega
theorem mu_reverse : MutR (gx X xv) rReverse gReverse := fun H a k d ds vs m d' ret Q r rl ak am e q => by
  unfold gReverse at e
  split at e
  · rename_i xs
    cases e
    simp only [RpL] at rl
    obtain ⟨rfl, rfl⟩ := rl
    simp only [Rp] at r
    obtain ⟨b, us, k0, e1, h1, h2, e2⟩ := r
    cases e1
    cases e2
    obtain ⟨m2, h3, h4⟩ := h2.rev
    refine ⟨a, us, rfl, rfl, h1, q _ _ m2 [] (Rp.lstUpd h3 (by rw [h1]; trivial) fun z => ?_) (by simp [Rp]) Keeps.updL fun x => by rw [h4]; simp⟩
    have := List.count_pos_iff.mpr z
    rw [h4] at this
    exact ak (List.count_pos_iff.mp this)
  · cases e
def gClear (d : D) (ds : List D) : Option (D × D) := match d, ds with
  | .lst _, [] => some (.lst [], .non)
  | _, _ => none
theorem mu_clear : MutR (gx X xv) rClear gClear := fun H a k d ds vs m d' ret Q r rl ak am e q => by
  unfold gClear at e
  split at e
  · rename_i xs
    cases e
    simp only [RpL] at rl
    obtain ⟨rfl, rfl⟩ := rl
    simp only [Rp] at r
    obtain ⟨b, us, k0, e1, h1, h2, e2⟩ := r
    cases e1
    cases e2
    exact ⟨a, us, rfl, rfl, h1, q _ _ [] [] (Rp.lstUpd (vs := []) (k := []) (by simp [RpL]) (by rw [h1]; trivial) (by simp)) (by simp [Rp]) Keeps.updL fun x => by simp⟩
  · cases e
variable {pl : Sem Bool}
theorem v_append (h1 : PPV X xv (lockAt μ i) W o ro1 i root pm) (h2 : PLV X xv (lockAt μ i) W [e] ro2 false dp ms) (hl : (mdAt μ i).lock = false := by decide) (hd : (mdAt μ i).isD = true ∨ ((mdAt μ i).isR = true ∧ root = true) := by decide) (hdp : (mdAt μ i).isD = true → dp = true := by decide)
    (hbase : attributeBase o "append" X.env (eval o X.env) = eval o X.env := by rfl)
    (hfew : ((backTo pos (starEach [e] X.env)).all (fun x => !x.1) && (backToKw pos (keywordEach [] X.env)).all (fun x => x.1.isSome)
      && decide ([e].length + ([] : List Keyword).length + (if ([] : List Keyword).isEmpty then 0 else 1) < 30)) = true := by rfl)
    (hline : (apos.endLine == pos.line) = true := by rfl) (hst : starEach [e] X.env = (false, eval e X.env) :: starEach [] X.env := by rfl) (hplain : (backTo pos (starEach [] X.env)).any (·.1) = false := by rfl) :
    PEV X xv μ W (.Call (.Attribute o "append" apos) [e] [] pos) false (rtMd (mdAt μ i)) (mMut D.isL i gAppend pm ms) :=
  v_mut PySem.F.plainAttrs_list PySem.F.slot_list_append PySem.F.type_list_append mt_append (fun H d a k => isL_ty) isL_mut mu_append hl hd h1 h2 hdp hbase hfew hline hst hplain
theorem v_popAt (h1 : PPV X xv (lockAt μ i) W o ro1 i root pm) (h2 : PLV X xv (lockAt μ i) W [e] ro2 false dp ms) (hl : (mdAt μ i).lock = false := by decide) (hd : (mdAt μ i).isD = true ∨ ((mdAt μ i).isR = true ∧ root = true) := by decide) (hdp : (mdAt μ i).isD = true → dp = true := by decide)
    (hbase : attributeBase o "pop" X.env (eval o X.env) = eval o X.env := by rfl)
    (hfew : ((backTo pos (starEach [e] X.env)).all (fun x => !x.1) && (backToKw pos (keywordEach [] X.env)).all (fun x => x.1.isSome)
      && decide ([e].length + ([] : List Keyword).length + (if ([] : List Keyword).isEmpty then 0 else 1) < 30)) = true := by rfl)
    (hline : (apos.endLine == pos.line) = true := by rfl) (hst : starEach [e] X.env = (false, eval e X.env) :: starEach [] X.env := by rfl) (hplain : (backTo pos (starEach [] X.env)).any (·.1) = false := by rfl) :
    PEV X xv μ W (.Call (.Attribute o "pop" apos) [e] [] pos) false (rtMd (mdAt μ i)) (mMut D.isL i gPopAt pm ms) :=
  v_mut PySem.F.plainAttrs_list PySem.F.slot_list_pop PySem.F.type_list_pop mt_popAt (fun H d a k => isL_ty) isL_mut mu_popAt hl hd h1 h2 hdp hbase hfew hline hst hplain
theorem v_pop (h1 : PPV X xv (lockAt μ i) W o ro1 i root pm) (hl : (mdAt μ i).lock = false := by decide) (hd : (mdAt μ i).isD = true ∨ ((mdAt μ i).isR = true ∧ root = true) := by decide)
    (hbase : attributeBase o "pop" X.env (eval o X.env) = eval o X.env := by rfl) (hline : (apos.endLine == pos.line) = true := by rfl) :
    PEV X xv μ W (.Call (.Attribute o "pop" apos) [] [] pos) false (rtMd (mdAt μ i)) (mMut D.isL i gPop pm aNil) :=
  v_mut0 PySem.F.plainAttrs_list PySem.F.slot_list_pop PySem.F.type_list_pop mt_pop (fun H d a k => isL_ty) isL_mut mu_pop hl hd h1 hbase hline
theorem v_reverse (h1 : PPV X xv (lockAt μ i) W o ro1 i root pm) (hl : (mdAt μ i).lock = false := by decide) (hd : (mdAt μ i).isD = true ∨ ((mdAt μ i).isR = true ∧ root = true) := by decide)
    (hbase : attributeBase o "reverse" X.env (eval o X.env) = eval o X.env := by rfl) (hline : (apos.endLine == pos.line) = true := by rfl) :
    PEV X xv μ W (.Call (.Attribute o "reverse" apos) [] [] pos) false (rtMd (mdAt μ i)) (mMut D.isL i gReverse pm aNil) :=
  v_mut0 PySem.F.plainAttrs_list PySem.F.slot_list_reverse PySem.F.type_list_reverse mt_reverse (fun H d a k => isL_ty) isL_mut mu_reverse hl hd h1 hbase hline
/-! ### place[ix] = e -/
def gSetL (d : D) (ds : List D) : Option (D × D) := match d, ds with
  | .lst xs, [.int k, y] => (ixN xs.length k).map fun j => (.lst (xs.set j y), .non)
  | .dct t kvs, [k, y] => if (isKey t.t k && (!t.f && decide (kvs.length < LIM))) = true then some (.dct t (dPut kvs k y), .non) else none
  | _, _ => none
theorem RpL.setC {G : Gt} {H : Hp} : ∀ {xs : List D} {vs : List V} {n m : List Addr} {j : Nat} {d : D} {v : V}, RpL G H xs vs n → Rp G H d v m → ∃ k, RpL G H (xs.set j d) (vs.set j v) k ∧ ∀ x, k.count x ≤ n.count x + m.count x
  | [], _, _, _, _, _, _, h, r => by simp only [RpL] at h; obtain ⟨rfl, rfl⟩ := h; exact ⟨[], by simp [RpL], fun x => by simp⟩
  | c :: r, vs, n, m, 0, d, v, h, r1 => by
    simp only [RpL] at h
    obtain ⟨w, vs', n1, n2, rfl, h1, h2, rfl⟩ := h
    exact ⟨m ++ n2, by simp only [List.set_cons_zero, RpL]; exact ⟨v, vs', m, n2, rfl, r1, h2, rfl⟩, fun x => by rw [List.count_append, List.count_append]; omega⟩
  | c :: r, vs, n, m, j + 1, d, v, h, r1 => by
    simp only [RpL] at h
    obtain ⟨w, vs', n1, n2, rfl, h1, h2, rfl⟩ := h
    obtain ⟨k, h3, h4⟩ := h2.setC (j := j) r1
    refine ⟨n1 ++ k, by simp only [List.set_cons_succ, RpL]; exact ⟨w, _, n1, k, rfl, h1, h3, rfl⟩, fun x => ?_⟩
    have := h4 x
    rw [List.count_append, List.count_append]
    omega
def rSetA : TSet := fun o i v H Q => rSetL o i v H Q ∨ rSetD o i v H Q
theorem set_any {X : Cx} (hu : X.A.units + 1 < cLine) : PSet X rSetA := by
  intro pins s σ H o i v ov iv u Q J ro ri rv h
  rcases h with h | h
  · exact set_list pins s σ H o i v ov iv u Q J ro ri rv h
  · exact set_dict hu pins s σ H o i v ov iv u Q J ro ri rv h
def rSetM : V → List V → Hp → VK → Prop := fun o xs H Q => ∃ i v, xs = [i, v] ∧ rSetA o i v H fun H' => Q .non H'
theorem mu_setL : MutR (gx X xv) rSetM gSetL := fun H a k d ds vs m d' ret Q r rl ak am e q => by
  unfold gSetL at e
  split at e
  · rename_i xs i y
    cases hj : ixN xs.length i with
    | none => rw [hj] at e; cases e
    | some j =>
      rw [hj] at e
      cases e
      obtain ⟨w1, w2, m1, m2, rfl, r1, r2, rfl⟩ := rl.two
      simp only [Rp] at r1
      obtain ⟨rfl, rfl⟩ := r1
      simp only [Rp] at r
      obtain ⟨b, us, k0, e1, h1, h2, e2⟩ := r
      cases e1
      cases e2
      obtain ⟨k', h3, h4⟩ := h2.setC (j := j) r2
      refine ⟨_, _, rfl, .inl ⟨a, us, i, j, rfl, rfl, h1, by rw [← h2.len]; exact hj, q _ _ k' [] (Rp.lstUpd h3 (by rw [h1]; trivial) fun z => ?_) (by simp [Rp]) Keeps.updL fun x => by have := h4 x; simpa using this⟩⟩
      have := h4 a
      have h5 := List.count_pos_iff.mpr z
      rw [List.count_eq_zero.mpr ak, List.count_eq_zero.mpr (show a ∉ m2 from fun y => am (by simp [y]))] at this
      omega
  · split at e
    · rename_i t kvs kd y hc
      cases e
      rw [Bool.and_eq_true, Bool.and_eq_true, decide_eq_true_eq] at hc
      obtain ⟨w1, w2, m1, m2, rfl, r1, r2, rfl⟩ := rl.two
      simp only [Rp] at r
      obtain ⟨b, ws, k0, e1, h1, h2, e2⟩ := r
      cases e1
      cases e2
      obtain ⟨u, ws', m', g1, g2, g3, g4⟩ := dput_at hc.1 (by simpa using hc.2.1) (by rw [LIM_eq]; exact hc.2.2) h1 h2 r1 r2
      have na : a ∉ m' := fun z => by
        have := g4 a
        have h5 := List.count_pos_iff.mpr z
        rw [List.count_eq_zero.mpr ak, List.count_eq_zero.mpr (show a ∉ m2 from fun y => am (by simp [y]))] at this
        omega
      refine ⟨_, _, rfl, .inr ⟨a, _, rfl, g1, q _ _ m' [] ?_ (by simp [Rp]) Keeps.updL fun x => by have := g4 x; simp; omega⟩⟩
      simp only [Rp]
      exact ⟨a, ws', m', rfl, g2, g3.keep (W := (· = a)) Keeps.updL (fun y e => by rw [e]; exact h1.mut) fun y hy z => na (z ▸ hy), rfl⟩
    · cases e
  · cases e
def sPut4 (i : Nat) (g : D → List D → Option (D × D)) (dv : D) (p : Plc) (dk : D) (e : En) : Sr := match g p.1 [dk, dv] with
  | some (d', _) => .nx (e.set i (some (p.2 d')))
  | none => .bad
def sPut3 (i : Nat) (g : D → List D → Option (D × D)) (m : EM) (dv : D) (p : Plc) (e : En) : Sr := if p.1.isMut = true then (m e).st (sPut4 i g dv p) else .bad
def sPut2 (i : Nat) (g : D → List D → Option (D × D)) (pm : PM) (m : EM) (dv : D) (e : En) : Sr := (pm e).st (sPut3 i g m dv)
/-- place[b] = e -/
def sPut (i : Nat) (g : D → List D → Option (D × D)) (pm : PM) (m mv : EM) : SM := fun env => (mv env).st (sPut2 i g pm m)
variable {rmd mdv : Md} {mv : EM} {st : Stmt} {ro3 : Bool} {value : Expr} {tset : TSet}
theorem SXQ.ofX {G : Gt} {env : En} {N : Nat → List Addr} {σ : L2.St} {H : Hp} {x : Exn} {e' : En} (q : SXQ G μ W env N σ H x e') : XQ G μ W env N σ H x e' := q.toX
theorem set_at {r : V → List V → Hp → VK → Prop} {g : D → List D → Option (D × D)} (hs : MutR (gx X xv) r g) (ht : ∀ y z x H (Q : Hp → Prop), r y [z, x] H (fun _ => Q) → tset y z x H Q) (h1 : PPV X xv (lockAt μ i) W o ro1 i root pm) (h2 : PEV X xv (lockAt μ i) W b ro2 md m) (h3 : PEV X xv (lockAt μ i) W value ro3 mdv mv)
    (hl : (mdAt μ i).lock = false) (hd : (mdAt μ i).isD = true ∨ ((mdAt μ i).isR = true ∧ root = true)) (hmv : mdv = .s ∨ mdv = .r ∨ mdv = .d) (hdp : (mdAt μ i).isD = true → mdv = .d) (hmk : md ≠ .al) (hmk2 : (mdAt μ i).isD = true → md = .d)
    {E : Ends} {σ : L2.St} {H : Hp} (q : tS (gx X xv) μ W rmd (sPut i g pm m mv) E σ H) :
    tE (gx X xv) (lockAt μ i) W ro3 mdv mv σ H fun x H1 => tP (gx X xv) (lockAt μ i) W ro1 i root pm σ H1 fun y H2 => tE (gx X xv) (lockAt μ i) W ro2 md m σ H2 fun z H3 => tset y z x H3 fun H4 => E.nx σ H4 := by
  have hR := mdR hd
  have hlk := lk_of hR
  obtain ⟨env, N, R0, q⟩ := q
  refine ⟨env, N, R0.dolock, ?_⟩
  unfold sPut at q
  cases e1 : mv env with
  | bad => rw [e1] at q; exact q
  | exc x env1 => rw [e1] at q; exact XQ.unlock hR q.toX
  | ok dv env1 =>
    rw [e1] at q
    simp only [Rt.st_ok, sPut2] at q
    intro v H1 N1 n1 R1 S1 r1 V1
    refine ⟨env1, N1, R1, ?_⟩
    cases e2 : pm env1 with
    | bad => rw [e2] at q; exact q
    | exc x env2 => rw [e2] at q; exact XQ.pre S1 (XQ.unlock hR q.toX)
    | ok p env2 =>
      rw [e2] at q
      simp only [Rt.st_ok, sPut3] at q
      split at q
      · rename_i hpm
        intro y H2 N2 R2 S2 F2
        refine ⟨env2, N2, R2, ?_⟩
        cases e3 : m env2 with
        | bad => rw [e3] at q; exact q
        | exc x env3 => rw [e3] at q; exact XQ.pre (S1.trans S2) (XQ.unlock hR q.toX)
        | ok dk env3 =>
          rw [e3] at q
          simp only [Rt.st_ok, sPut4] at q
          intro z H3 N3 n3 R3 S3 r3 V3
          have F3 := S3.foc R2 hlk F2 (.inr (.inr (R2.nowr hlk)))
          have S123 : Stp μ false env H N env3 H3 N3 := (((S1.trans S2).trans S3).unlock hR).mono (by simp)
          have nal : mdv ≠ .al := by rcases hmv with h | h | h <;> rw [h] <;> simp
          have S23 := S2.trans S3
          have r1' : Rp (gx X xv) H3 dv v n1 := S23.rp R1 r1 (V1.nown nal)
          cases eg : g p.1 [dk, dv] with
          | none => rw [eg] at q; exact q.elim
          | some dr =>
            obtain ⟨d', ret⟩ := dr
            rw [eg] at q
            have nown : ∀ x ∈ n3 ++ n1, ¬ ownS μ env3 N3 x := fun x hx w => by
              rcases List.mem_append.mp hx with hx | hx
              · exact V3.nown hmk x hx (ownS_lock.mpr w)
              · rcases S23.own x (ownS_lock.mpr w) with t | t
                · exact V1.nown nal x hx t
                · exact r1.there hx t
            refine ht _ _ _ _ _ ?_
            refine mut_core (ro := false) (mm := n3 ++ n1) (ds := [dk, dv]) (vs := [z, v]) hs hl hd R3.unlock S123 hpm F3 (by simp only [RpL]; exact ⟨z, _, n3, n1, rfl, r3, ⟨v, [], n1, [], rfl, r1', ⟨rfl, rfl⟩, by simp⟩, rfl⟩) ⟨fun x hx => ?_, fun _ => nown⟩ (fun zz _ x hx => ?_) eg fun w H4 N4 nr R4 S4 r4 V4 => q σ H4 N4 R4 S4 .refl
            · rcases List.mem_append.mp hx with hx | hx
              · exact (V3.sub x hx).elim ((S1.trans S2).all x) fun t => .inr ((S1.trans S2).dom x t)
              · exact V1.sub x hx
            · have hv := hdp zz
              have hk := hmk2 zz
              subst hv hk
              rw [List.count_append]
              have u1 : ∀ x ∈ n1, n1.count x = 1 ∧ ¬ allS N1 x := fun x hx => V1.uq x (.inl ⟨rfl, hx⟩)
              have ap : ∀ x ∈ n1, x ∉ n3 := fun x hx hx3 => by
                rcases V3.sub x hx3 with t | t
                · rcases S2.all x t with t | t
                  · exact (u1 x hx).2 t
                  · exact r1.there hx t
                · exact r1.there hx (S2.dom x t)
              rcases List.mem_append.mp hx with hx | hx
              · obtain ⟨w1, w2⟩ := V3.uq x (.inl ⟨rfl, hx⟩)
                refine ⟨by rw [w1, List.count_eq_zero.mpr fun t => ap x t hx], w2, ?_⟩
                rcases V3.osub x (.inl ⟨rfl, hx⟩) with t | t
                · rcases (S1.trans S2).wr x t with t | t
                  · exact .inl (wrS_lock t)
                  · exact .inr t
                · exact .inr ((S1.trans S2).dom x t)
              · obtain ⟨w1, w2⟩ := u1 x hx
                refine ⟨by rw [w1, List.count_eq_zero.mpr (ap x hx)], fun t => ?_, (V1.osub x (.inl ⟨rfl, hx⟩)).imp wrS_lock (fun t => t)⟩
                rcases S23.all x t with t | t
                · exact w2 t
                · exact r1.there hx t
      · exact q.elim
theorem s_setL {k : Nat} (hr : Room k X.A) (h1 : PPV X xv (lockAt μ i) W o ro1 i root pm) (h2 : PEV X xv (lockAt μ i) W b ro2 md m) (h3 : PEV X xv (lockAt μ i) W value ro3 mdv mv)
    (hl : (mdAt μ i).lock = false := by decide) (hd : (mdAt μ i).isD = true ∨ ((mdAt μ i).isR = true ∧ root = true) := by decide) (hmv : mdv = .s ∨ mdv = .r ∨ mdv = .d := by decide) (hdp : (mdAt μ i).isD = true → mdv = .d := by decide) (hmk : md ≠ .al := by decide) (hmk2 : (mdAt μ i).isD = true → md = .d := by decide)
    {tpos : Pos} (hs : swapsWithSole [.Subscript o b tpos] value pos.line X.env = pure false := by rfl) (hw : swappedStores [.Subscript o b tpos] value X.env = pure none := by rfl)
    (h5 : (assignEach [.Subscript o b tpos] X.env).map (·.2) = [assign (.Subscript o b tpos) X.env] := by rfl) 
    (ha : ∀ v, assign (.Subscript o b tpos) X.env v = (do
      let ov ← holding [v] (eval o X.env)
      let iv ← holding [v, ov] (eval b X.env)
      standAt tpos
      holding [v, ov, iv] (setItem ov iv v)
      release [v, ov, iv] []) := by intro _; rfl) : PSV X xv μ W rmd (.Assign [.Subscript o b tpos] value pos) (sPut i gSetL pm m mv) :=
  ⟨PS.imp (ps_asg h3.pe (pg_sub h1.pe h2.pe (set_any (by have := hr.un; omega)) ha) hs hw h5) fun E σ H q => set_at mu_setL (fun y z x H Q ⟨i, v, e, h⟩ => by cases e; exact h) h1 h2 h3 hl hd hmv hdp hmk hmk2 q⟩
end
end VS
/-! VS: defs and their calls. -/
namespace VS
open PySem PySem.Spec PyProof.Rows L2
/-! ### trees do not know of caught exceptions -/
mutual
theorem Rp.xv {K : PySem.W.Frag} {mg : Str → Option Value} {x y : Option XI} {H : Hp} : ∀ {d : D} {v : V} {n : List Addr}, Rp ⟨K, mg, x⟩ H d v n → Rp ⟨K, mg, y⟩ H d v n
  | .non, _, _, h | .bl _, _, _, h | .int _, _, _, h | .str _, _, _, h | .ty _, _, _, h => by simp only [Rp] at h ⊢; exact h
  | .cls _, _, _, h => by simp only [Rp] at h ⊢; exact h
  | .scr _, _, _, h => by simp only [Rp] at h ⊢; exact h
  | .tup ds, _, _, h => by
    simp only [Rp] at h ⊢
    obtain ⟨a, vs, e, h1, h2⟩ := h
    exact ⟨a, vs, e, h1, RpL.xv h2⟩
  | .lst ds, _, _, h => by
    simp only [Rp] at h ⊢
    obtain ⟨a, vs, n', e, h1, h2, e2⟩ := h
    exact ⟨a, vs, n', e, h1, RpL.xv h2, e2⟩
  | .dct t kvs, _, _, h => by
    simp only [Rp] at h ⊢
    obtain ⟨a, ws, n', e, h1, h2, e2⟩ := h
    exact ⟨a, ws, n', e, h1, RpP.xv h2, e2⟩
  | .obj c fs, _, _, h => by
    simp only [Rp] at h ⊢
    obtain ⟨C, a, dx, ws, n', e, hc, h1, h2, e2⟩ := h
    exact ⟨C, a, dx, ws, n', e, hc, h1, RpF.xv h2, e2⟩
theorem RpL.xv {K : PySem.W.Frag} {mg : Str → Option Value} {x y : Option XI} {H : Hp} : ∀ {d : List D} {v : List V} {n : List Addr}, RpL ⟨K, mg, x⟩ H d v n → RpL ⟨K, mg, y⟩ H d v n
  | [], _, _, h => by simp only [RpL] at h ⊢; exact h
  | d :: r, _, _, h => by
    simp only [RpL] at h ⊢
    obtain ⟨v, vs', n1, n2, e, h1, h2, e2⟩ := h
    exact ⟨v, vs', n1, n2, e, Rp.xv h1, RpL.xv h2, e2⟩
theorem RpP.xv {K : PySem.W.Frag} {mg : Str → Option Value} {x y : Option XI} {H : Hp} : ∀ {d : List (D × D)} {v : List V} {n : List Addr}, RpP ⟨K, mg, x⟩ H d v n → RpP ⟨K, mg, y⟩ H d v n
  | [], _, _, h => by simp only [RpP] at h ⊢; exact h
  | (_, d) :: r, _, _, h => by
    simp only [RpP] at h ⊢
    obtain ⟨v, vs', n1, n2, e, h1, h2, e2⟩ := h
    exact ⟨v, vs', n1, n2, e, Rp.xv h1, RpP.xv h2, e2⟩
theorem RpF.xv {K : PySem.W.Frag} {mg : Str → Option Value} {x y : Option XI} {H : Hp} : ∀ {d : List (Str × D)} {v : List (Str × V)} {n : List Addr}, RpF ⟨K, mg, x⟩ H d v n → RpF ⟨K, mg, y⟩ H d v n
  | [], _, _, h => by simp only [RpF] at h ⊢; exact h
  | (_, d) :: r, _, _, h => by
    simp only [RpF] at h ⊢
    obtain ⟨v, vs', n1, n2, e, h1, h2, e2⟩ := h
    exact ⟨v, vs', n1, n2, e, Rp.xv h1, RpF.xv h2, e2⟩
end
/-! ### the contract of a def -/
inductive FR where
  | ok (d : D) (ds : List D) | exc (x : Exn) (ds : List D) | bad
abbrev FM := List D → FR
/-- what a def is to find of an exception's end and of a result's -/
def FQ (G : Gt) (π : List Md) (rmd : Md) (ds : List D) (vs : List V) (N : Nat → List Addr) (H : Hp) (Q : VK) (E : XK) : FR → Prop
  | .ok d ds' => ∀ v H' N' n, Rep G π (ds'.map some) (vs.map some) H' N' → Stp π false (ds.map some) H N (ds'.map some) H' N' → Rp G H' d v n → VOk π rmd d n (ds.map some) N H (ds'.map some) N' → Q v H'
  | .exc x ds' => ∀ cls dx H' N' n, Rep G π (ds'.map some) (vs.map some) H' N' → Stp π false (ds.map some) H N (ds'.map some) H' N' → ExR G H' x cls dx n → (∀ a ∈ n, ¬ ownS π (ds'.map some) N' a) → (∀ a ∈ n, allS N a ∨ H a = none) → E cls dx H'
  | .bad => False
def spD (G : Gt) (π : List Md) (rmd : Md) (F : FM) : Sp := fun vs H Q E => ∃ ds N, ds.length = π.length ∧ Rep G π (ds.map some) (vs.map some) H N ∧ FQ G π rmd ds vs N H Q E (F ds)
theorem spD_len {G : Gt} {π : List Md} {rmd : Md} {F : FM} {n : Nat} (hn : π.length = n) : ∀ vs H Q E, spD G π rmd F vs H Q E → vs.length = n := fun vs H Q E ⟨ds, N, hl, R, _⟩ => by
  have := R.len
  simp only [List.length_map] at this
  omega
/-! ### from a body to its def -/
def outD : List Md → List D → En → Option (List D)
  | [], _, _ => some []
  | m :: π, d :: ds, env => if m.fix = true then (match env with
    | some d' :: r => (outD π ds r).map (d' :: ·)
    | _ => none) else (outD π ds env.tail).map (d :: ·)
  | _ :: _, [], _ => none
def outR (π : List Md) (ds : List D) : Sr → FR
  | .nx e => match outD π ds e with
    | some ds' => .ok .non ds'
    | none => .bad
  | .rt d e => match outD π ds e with
    | some ds' => .ok d ds'
    | none => .bad
  | .exc x e => match outD π ds e with
    | some ds' => .exc x ds'
    | none => .bad
  | .bk _ | .ct _ | .bad => .bad
/-- n slots -/
def fnM (π : List Md) (n : Nat) (body : SM) : FM := fun ds => outR π ds (body (ds.map some ++ List.replicate (n - ds.length) none))
theorem outD_len : ∀ {π : List Md} {ds ds' : List D} {env : En}, outD π ds env = some ds' → ds'.length = π.length
  | [], ds, _, env, h => by simp only [outD] at h; cases h; rfl
  | _ :: _, [], _, env, h => by simp only [outD] at h; cases h
  | m :: π, d :: ds, ds', env, h => by
    simp only [outD] at h
    split at h
    · split at h
      · rename_i d' r
        cases e : outD π ds r with
        | none => rw [e] at h; cases h
        | some x => rw [e] at h; cases h; simp [outD_len e]
      · cases h
    · cases e : outD π ds env.tail with
      | none => rw [e] at h; cases h
      | some x => rw [e] at h; cases h; simp [outD_len e]
theorem outD_get : ∀ {π : List Md} {ds ds' : List D} {env : En} {i : Nat} {d' : D}, outD π ds env = some ds' → ds'[i]? = some d' → ((mdAt π i).fix = true → env[i]? = some (some d')) ∧ ((mdAt π i).fix = false → ds[i]? = some d')
  | [], ds, _, env, i, d', h, e => by simp only [outD] at h; cases h; simp at e
  | _ :: _, [], _, env, i, d', h, e => by simp only [outD] at h; cases h
  | m :: π, d :: ds, ds', env, i, d', h, e => by
    simp only [outD] at h
    split at h
    · rename_i hm
      split at h
      · rename_i c r
        cases e1 : outD π ds r with
        | none => rw [e1] at h; cases h
        | some x =>
          rw [e1] at h
          cases h
          cases i with
          | zero =>
            simp only [List.getElem?_cons_zero, Option.some.injEq] at e
            subst e
            exact ⟨fun _ => rfl, fun z => by rw [show mdAt (m :: π) 0 = m from rfl, hm] at z; cases z⟩
          | succ j => exact outD_get (π := π) e1 (by simpa using e)
      · cases h
    · rename_i hm
      cases e1 : outD π ds env.tail with
      | none => rw [e1] at h; cases h
      | some x =>
        rw [e1] at h
        cases h
        cases i with
        | zero =>
          simp only [List.getElem?_cons_zero, Option.some.injEq] at e
          subst e
          exact ⟨fun z => absurd z hm, fun _ => rfl⟩
        | succ j =>
          have := outD_get (π := π) (i := j) e1 (by simpa using e)
          refine ⟨fun z => ?_, fun z => this.2 z⟩
          have h1 := this.1 z
          cases env with
          | nil => simp at h1
          | cons o r => simpa using h1
/-- a parameter's mode -/
def Md.par : Md → Bool
  | .s | .fr | .fd => true
  | _ => false
structure Pm (π μ : List Md) : Prop where
  eq : ∀ i, i < π.length → mdAt μ i = mdAt π i
  par : ∀ i, (mdAt π i).par = true
theorem Pm.of {π μ : List Md} (h1 : (List.range π.length).all (fun i => mdAt μ i == mdAt π i) = true) (h2 : π.all Md.par = true) : Pm π μ := by
  refine ⟨fun i hi => ?_, fun i => ?_⟩
  · rw [List.all_eq_true] at h1
    simpa using h1 i (List.mem_range.mpr hi)
  · rw [List.all_eq_true] at h2
    unfold mdAt
    rw [List.getD_eq_getElem?_getD]
    cases e : π[i]? with
    | none => rfl
    | some m => exact h2 m (List.mem_of_getElem? e)
theorem Md.par_s {m : Md} (h : m.par = true) (hf : m.fix = false) : m = .s := by cases m <;> simp [Md.par, Md.fix] at h hf; rfl
theorem Md.par_l {m : Md} (h : m.par = true) : m.lock = false := by cases m <;> simp [Md.par] at h <;> rfl
section
variable {G : Gt} {π μ : List Md} {ds : List D} {vs : List V} {n : Nat} {N : Nat → List Addr} {H : Hp}
abbrev env0 (ds : List D) (n : Nat) : En := ds.map some ++ List.replicate (n - ds.length) none
theorem env0_get {i : Nat} {d : D} : (env0 ds n)[i]? = some (some d) ↔ (ds.map some)[i]? = some (some d) := by
  by_cases h : i < ds.length
  · rw [List.getElem?_append_left (by simpa using h)]
  · rw [List.getElem?_append_right (by simpa using h), List.getElem?_replicate, List.getElem?_eq_none (l := ds.map some) (by simpa using h)]
    constructor
    · intro z
      split at z <;> cases z
    · intro z; cases z
/-- into the body -/
theorem Rep.enter (P : Pm π μ) (hl : ds.length = π.length) (hn : ds.length ≤ n) (R : Rep G π (ds.map some) (vs.map some) H N) (hx : G.xv = none) : Rep G μ (env0 ds n) (vs.map some ++ List.replicate (n - vs.length) none) H N := by
  have hv : vs.length = ds.length := by have := R.len; simpa using this.symm
  refine ⟨by simp [hv], fun i d e => ?_, fun i e => ?_, fun i d a e o => ?_, fun x h => by rw [hx] at h; cases h⟩
  · obtain ⟨v, h1, h2⟩ := R.rep i d (env0_get.mp e)
    refine ⟨v, ?_, h2⟩
    have hi : i < vs.length := by
      rcases Nat.lt_or_ge i vs.length with h | h
      · exact h
      · rw [List.getElem?_eq_none (by simpa using h)] at h1; cases h1
    rw [List.getElem?_append_left (by simpa using hi)]
    exact h1
  · exact R.emp i fun d z => e d (env0_get.mpr z)
  · have e' := env0_get.mp e
    have hi : i < π.length := by
      rw [← hl]
      rcases Nat.lt_or_ge i ds.length with h | h
      · exact h
      · rw [List.getElem?_eq_none (by simpa using h)] at e'; cases e'
    rw [P.eq i hi] at o
    exact R.uq i d a e' o
def outN (π : List Md) (N N' : Nat → List Addr) : Nat → List Addr := fun i => if (mdAt π i).fix = true then N' i else if i < π.length then N i else []
theorem lt_of_get {ds : List D} {i : Nat} {d : D} (e : (ds.map some)[i]? = some (some d)) : i < ds.length ∧ ds[i]? = some d := by
  rw [List.getElem?_map] at e
  cases e1 : ds[i]? with
  | none => rw [e1] at e; cases e
  | some c =>
    rw [e1] at e
    cases e
    refine ⟨?_, rfl⟩
    rcases Nat.lt_or_ge i ds.length with h | h
    · exact h
    · rw [List.getElem?_eq_none h] at e1; cases e1
theorem fix_lt {π : List Md} {i : Nat} (h : (mdAt π i).fix = true) : i < π.length := by
  rcases Nat.lt_or_ge i π.length with g | g
  · exact g
  · unfold mdAt at h
    rw [List.getD_eq_getElem?_getD, List.getElem?_eq_none g] at h
    cases h
/-- out of the body -/
theorem Rep.leave (P : Pm π μ) (hl : ds.length = π.length) (R : Rep G π (ds.map some) (vs.map some) H N) (hx : G.xv = none) {env' : En} {σ' : L2.St} {H' : Hp} {N' : Nat → List Addr} {ds' : List D} (R' : Rep G μ env' σ' H' N') (S : Stp μ false (env0 ds n) H N env' H' N')
    (F : Fx μ (vs.map some ++ List.replicate (n - vs.length) none) σ') (hf : outD π ds env' = some ds') :
    Rep G π (ds'.map some) (vs.map some) H' (outN π N N') ∧ Stp π false (ds.map some) H N (ds'.map some) H' (outN π N N') ∧
      (∀ a, ownS π (ds'.map some) (outN π N N') a → ownS μ env' N' a) ∧ (∀ a, allS (outN π N N') a → allS N' a ∨ ∃ i d, (ds.map some)[i]? = some (some d) ∧ (mdAt π i).fix = false ∧ a ∈ N i) := by
  have hv : vs.length = ds.length := by have := R.len; simpa using this.symm
  have hl' := outD_len hf
  -- what the def owns at its start
  have own0 : ∀ a, ownS μ (env0 ds n) N a ↔ ownS π (ds.map some) N a := fun a => by
    constructor
    · rintro ⟨i, d, e, o⟩
      have e' := env0_get.mp e
      have hi : i < π.length := by rw [← hl]; exact (lt_of_get e').1
      rw [P.eq i hi] at o
      exact ⟨i, d, e', o⟩
    · rintro ⟨i, d, e, o⟩
      have hi : i < π.length := by rw [← hl]; exact (lt_of_get e).1
      rw [← P.eq i hi] at o
      exact ⟨i, d, env0_get.mpr e, o⟩
  have wr0 : ∀ a, wrS μ (env0 ds n) N a ↔ wrS π (ds.map some) N a := fun a => by
    constructor
    · rintro ⟨i, d, e, o⟩
      have e' := env0_get.mp e
      have hi : i < π.length := by rw [← hl]; exact (lt_of_get e').1
      rw [P.eq i hi] at o
      exact ⟨i, d, e', o⟩
    · rintro ⟨i, d, e, o⟩
      have hi : i < π.length := by rw [← hl]; exact (lt_of_get e).1
      rw [← P.eq i hi] at o
      exact ⟨i, d, env0_get.mpr e, o⟩
  have mutW : ∀ a, wrS μ (env0 ds n) N a → MutO (H a) := fun a w => R.mut ((wr0 a).mp w).own.all
  -- borrowed ones are not owned
  have sNo : ∀ i d, (ds.map some)[i]? = some (some d) → (mdAt π i).fix = false → ∀ a ∈ N i, ¬ ownS π (ds.map some) N a := fun i d e hfx a ha ⟨j, d', e', o⟩ => by
    have hs := Md.par_s (P.par i) hfx
    by_cases h : j = i
    · subst h; rw [hs] at o; exact Own.noS o
    · exact (R.uq j d' a e' o).2 i (Ne.symm h) ha
  have nF : ∀ i, (mdAt π i).fix = true → outN π N N' i = N' i := fun i h => if_pos h
  have nS : ∀ i, (mdAt π i).fix = false → i < π.length → outN π N N' i = N i := fun i h h2 => by unfold outN; rw [h, if_neg Bool.false_ne_true, if_pos h2]
  have nO : ∀ i, π.length ≤ i → outN π N N' i = [] := fun i h => by
    unfold outN
    rw [if_neg fun z => Nat.not_lt.mpr h (fix_lt z), if_neg (Nat.not_lt.mpr h)]
  -- owned then: in the body's frame
  have ownE : ∀ i d a, (ds'.map some)[i]? = some (some d) → Own (mdAt π i) d (outN π N N' i) a → env'[i]? = some (some d) ∧ (mdAt π i).fix = true ∧ Own (mdAt μ i) d (N' i) a := fun i d a e o => by
    obtain ⟨hi, e1⟩ := lt_of_get e
    rw [hl'] at hi
    cases hfx : (mdAt π i).fix with
    | false => rw [Md.par_s (P.par i) hfx] at o; exact absurd o Own.noS
    | true =>
      rw [nF i hfx] at o
      rw [P.eq i hi]
      exact ⟨(outD_get hf e1).1 hfx, rfl, o⟩
  have R2 : Rep G π (ds'.map some) (vs.map some) H' (outN π N N') := by
    refine ⟨by simp [hl', hv, hl], fun i d e => ?_, fun i e => ?_, fun i d a e o => ?_, fun x h => by rw [hx] at h; cases h⟩
    · obtain ⟨hi, e1⟩ := lt_of_get e
      rw [hl'] at hi
      obtain ⟨g1, g2⟩ := outD_get hf e1
      cases hfx : (mdAt π i).fix with
      | true =>
        rw [nF i hfx]
        obtain ⟨v, h1, h2⟩ := R'.rep i d (g1 hfx)
        refine ⟨v, ?_, h2⟩
        have := F i (by rw [P.eq i hi]; exact hfx)
        rw [this, List.getElem?_append_left (by simp; omega)] at h1
        exact h1
      | false =>
        rw [nS i hfx hi]
        have e2 : (ds.map some)[i]? = some (some d) := by rw [List.getElem?_map, g2 hfx]; rfl
        obtain ⟨v, h1, h2⟩ := R.rep i d e2
        exact ⟨v, h1, h2.keep S.keep mutW fun a ha w => sNo i d e2 hfx a ha ((wr0 a).mp w).own⟩
    · rcases Nat.lt_or_ge i π.length with h | h
      · have : i < ds'.length := by omega
        exact absurd (by rw [List.getElem?_map, List.getElem?_eq_getElem this]; rfl) (e ds'[i])
      · exact nO i h
    · obtain ⟨e1, hfx, o1⟩ := ownE i d a e o
      rw [nF i hfx]
      refine ⟨(R'.uq i d a e1 o1).1, fun j hj w => ?_⟩
      cases hfj : (mdAt π j).fix with
      | true => rw [nF j hfj] at w; exact (R'.uq i d a e1 o1).2 j hj w
      | false =>
        rcases Nat.lt_or_ge j π.length with h | h
        · rw [nS j hfj h] at w
          have hj2 : j < ds.length := by omega
          have e2 : (ds.map some)[j]? = some (some ds[j]) := by rw [List.getElem?_map, List.getElem?_eq_getElem hj2]; rfl
          rcases S.own a ⟨i, d, e1, o1⟩ with z | z
          · exact sNo j _ e2 hfj a w ((own0 a).mp z)
          · exact R.there ⟨j, w⟩ z
        · rw [nO j h] at w; cases w
  have own2 : ∀ a, ownS π (ds'.map some) (outN π N N') a → ownS μ env' N' a := fun a ⟨i, d, e, o⟩ => by
    obtain ⟨e1, _, o1⟩ := ownE i d a e o
    exact ⟨i, d, e1, o1⟩
  have all2 : ∀ a, allS (outN π N N') a → allS N' a ∨ ∃ i d, (ds.map some)[i]? = some (some d) ∧ (mdAt π i).fix = false ∧ a ∈ N i := fun a ⟨i, w⟩ => by
    cases hfx : (mdAt π i).fix with
    | true => rw [nF i hfx] at w; exact .inl ⟨i, w⟩
    | false =>
      rcases Nat.lt_or_ge i π.length with h | h
      · rw [nS i hfx h] at w
        have hj2 : i < ds.length := by omega
        exact .inr ⟨i, ds[i], by rw [List.getElem?_map, List.getElem?_eq_getElem hj2]; rfl, hfx, w⟩
      · rw [nO i h] at w; cases w
  refine ⟨R2, ⟨fun a o h w => S.keep a o h fun z => w ((wr0 a).mp z), S.dom, fun a w => ?_, fun a w => ?_, fun a w => ?_, fun i h => ?_, fun z => by cases z⟩, own2, all2⟩
  · exact (S.own a (own2 a w)).imp (own0 a).mp (fun z => z)
  · obtain ⟨i, d, e, w⟩ := w
    obtain ⟨e1, _, o1⟩ := ownE i d a e w.2
    refine (S.wr a ⟨i, d, e1, ?_, o1⟩).imp (wr0 a).mp (fun z => z)
    have hi : i < π.length := by rw [← hl']; exact (lt_of_get e).1
    rw [P.eq i hi]
    exact w.1
  · rcases all2 a w with z | ⟨i, d, _, _, z⟩
    · exact S.all a z
    · exact .inl ⟨i, z⟩
  · rw [Md.par_l (P.par i)] at h; cases h
end
/-- THE RULE for a def: m what its body does -/
theorem def_ok {P : Program} {w : World} {K : PySem.W.Frag} {mg : Str → Option Value} {base : Heap} {x qual : Str} {st : Stmt} {f : Addr} {fd : FuncData} {Ns ps : List Str} {k : Nat} {π μ : List Md} {rmd : Md} {m : SM} (F : Fun K x qual st f fd) (S : FnScope Ns ps (defScope st))
    (Pm1 : Pm π μ) (hπ : π.length = ps.length) (hn : ps.length ≤ Ns.length) (hr0 : rmd ≠ .al)
    (hbody : ∀ (cdv : Value) (A : Around) (outer : List Env) (s : Shared) (H : Hp) (E : XK), Room k (A.deeper (envOfC qual (defScope st) s.heap.objs.size f cdv)) →
      Takes (cxOf (L2.CX P w) P w K mg base Ns qual (defScope st) f cdv A outer s H E) (fun cls d _ H => E cls d H) →
      PassesOwn (model P w) (A.deeper (envOfC qual (defScope st) s.heap.objs.size f cdv)) (envOfC qual (defScope st) s.heap.objs.size f cdv) (cxOf (L2.CX P w) P w K mg base Ns qual (defScope st) f cdv A outer s H E).xe →
      PSsV (cxOf (L2.CX P w) P w K mg base Ns qual (defScope st) f cdv A outer s H E) xv0 μ (fun cls d _ H => E cls d H) rmd (defBody st) m) :
    FnOk P w K mg base (L2.CX P w) (k + 1) f fd ps (spD ⟨K, mg, none⟩ π rmd (fnM π Ns.length m)) := by
  refine F.okX S (spD_len hπ) fun cdv A outer s H vs Q E hr hsp => ?_
  obtain ⟨ds, N, hl, R, q⟩ := hsp
  have hv : vs.length = ds.length := by have := R.len; simpa using this.symm
  have tk : Takes (cxOf (L2.CX P w) P w K mg base Ns qual (defScope st) f cdv A outer s H E) (fun cls d _ H => E cls d H) := takes_of rfl rfl rfl rfl
  have B := hbody cdv A outer s H E hr tk (passes_of (X := cxOf (L2.CX P w) P w K mg base Ns qual (defScope st) f cdv A outer s H E) rfl)
  refine ⟨_, B.ps, env0 ds Ns.length, N, R.enter Pm1 hl (by omega) rfl, ?_⟩
  have fin : ∀ {env' : En} {ds' : List D} {d : D} {v : V} {σ' : L2.St} {H' : Hp} {N' : Nat → List Addr} {n : List Addr}, outD π ds env' = some ds' → FQ ⟨K, mg, none⟩ π rmd ds vs N H Q E (.ok d ds') → Rep ⟨K, mg, none⟩ μ env' σ' H' N' → Stp μ false (env0 ds Ns.length) H N env' H' N' →
      Fx μ (start Ns vs) σ' → Rp ⟨K, mg, none⟩ H' d v n → VOk μ rmd d n (env0 ds Ns.length) N H env' N' → Q v H' := fun {env' ds' d v σ' H' N' n} ho q R' S' F' r V => by
    obtain ⟨R2, S2, o2, a2⟩ := Rep.leave Pm1 hl R rfl R' S' F' ho
    refine q v H' _ n R2 S2 r ⟨V.sub, fun z a ha w => V.nown z a ha (o2 a w), fun a o => ⟨(V.uq a o).1, fun w => ?_⟩, fun a o => ?_⟩
    · rcases a2 a w with z | ⟨i, d', e', hfx, z⟩
      · exact (V.uq a o).2 z
      · have hs := Md.par_s (Pm1.par i) hfx
        rcases V.osub a o with ⟨j, dj, ej, wj⟩ | y
        · have ej' := env0_get.mp ej
          have hj : j < π.length := by rw [← hl]; exact (lt_of_get ej').1
          have wj2 := wj.2
          rw [Pm1.eq j hj] at wj2
          by_cases hji : j = i
          · subst hji; rw [hs] at wj2; exact Own.noS wj2
          · exact (R.uq j dj a ej' wj2).2 i (Ne.symm hji) z
        · exact R.there ⟨i, z⟩ y
    · rcases V.osub a o with ⟨j, dj, ej, wj⟩ | y
      · have ej' := env0_get.mp ej
        have hj : j < π.length := by rw [← hl]; exact (lt_of_get ej').1
        rw [Pm1.eq j hj] at wj
        exact .inl ⟨j, dj, ej', wj⟩
      · exact .inr y
  unfold fnM at q
  cases em : m (env0 ds Ns.length) with
  | nx e =>
    rw [em] at q
    simp only [outR] at q
    cases eo : outD π ds e with
    | none => rw [eo] at q; exact q.elim
    | some ds' =>
      rw [eo] at q
      intro σ' H' N' R' S' F'
      exact fin eo q R' S' F' (by simp [Rp] : Rp _ _ .non .non []) .nil
  | rt d e =>
    rw [em] at q
    simp only [outR] at q
    cases eo : outD π ds e with
    | none => rw [eo] at q; exact q.elim
    | some ds' =>
      rw [eo] at q
      intro v σ' H' N' n R' S' F' r V
      exact fin eo q R' S' F' r V
  | exc x e =>
    rw [em] at q
    simp only [outR] at q
    cases eo : outD π ds e with
    | none => rw [eo] at q; exact q.elim
    | some ds' =>
      rw [eo] at q
      intro cls dx σ' H' N' n R' S' F' ex hn1 hs
      obtain ⟨R2, S2, o2, a2⟩ := Rep.leave Pm1 hl R rfl R' S' F' eo
      exact q cls dx H' _ n R2 S2 ex (fun a ha w => hn1 a ha (o2 a w)) hs
  | bk e => rw [em] at q; exact q.elim
  | ct e => rw [em] at q; exact q.elim
  | bad => rw [em] at q; exact q.elim
end VS
/-! VS: calls of own defs. -/
namespace VS
open PySem PySem.Spec PyProof.Rows L2
/-- an argument: a value; a slot's own thing; a part of a slot's thing -/
inductive Ag where
  | val (m : EM) | slot (j : Nat) | plc (j : Nat) (m : PM)
inductive As where
  | val | slot (j : Nat) | plc (j : Nat)
  deriving DecidableEq
def Ag.st : Ag → As
  | .val _ => .val
  | .slot j => .slot j
  | .plc j _ => .plc j
abbrev GM := En → Rt (List (Option D))
def gCons3 (x : Option D) (xs : List (Option D)) (e : En) : Rt (List (Option D)) := .ok (x :: xs) e
def gVal2 (r : GM) (d : D) (e : En) : Rt (List (Option D)) := (r e).bind (gCons3 (some d))
def gPlc2 (r : GM) (p : Plc) (e : En) : Rt (List (Option D)) := (r e).bind (gCons3 (some p.1))
def agRun : List Ag → GM
  | [], e => .ok [] e
  | .val m :: r, e => (m e).bind (gVal2 (agRun r))
  | .slot j :: r, e => match e[j]? with
    | some (some _) => (agRun r e).bind (gCons3 none)
    | _ => .bad
  | .plc _ m :: r, e => (m e).bind (gPlc2 (agRun r))
/-- what is known of an argument behind them all -/
def AgOk (G : Gt) (μ : List Md) (σ : L2.St) (N : Nat → List Addr) (H : Hp) (env' : En) (H' : Hp) (N' : Nat → List Addr) (v : V) (n : List Addr) : As → Option D → Prop
  | .val, some d => Rp G H' d v n ∧ (∀ a ∈ n, allS N a ∨ H a = none) ∧ ∀ a ∈ n, ¬ ownS μ env' N' a
  | .slot j, none => σ[j]? = some (some v) ∧ n = []
  | .plc j, some d => Rp G H' d v n ∧ ∀ a ∈ n, a ∈ N' j
  | _, _ => False
def GA (G : Gt) (μ : List Md) (σ : L2.St) (N : Nat → List Addr) (H : Hp) (env' : En) (H' : Hp) (N' : Nat → List Addr) : List As → List (Option D) → List V → List (List Addr) → Prop
  | [], xs, vs, ns => xs = [] ∧ vs = [] ∧ ns = []
  | a :: as, xs, vs, ns => ∃ x xs' v vs' n ns', xs = x :: xs' ∧ vs = v :: vs' ∧ ns = n :: ns' ∧ AgOk G μ σ N H env' H' N' v n a x ∧ GA G μ σ N H env' H' N' as xs' vs' ns'
theorem GA.get {G : Gt} {μ : List Md} {σ : L2.St} {N N' : Nat → List Addr} {H H' : Hp} {env' : En} : ∀ {as : List As} {xs : List (Option D)} {vs : List V} {ns : List (List Addr)} {k : Nat} {a : As}, GA G μ σ N H env' H' N' as xs vs ns → as[k]? = some a → ∃ x v n, xs[k]? = some x ∧ vs[k]? = some v ∧ ns[k]? = some n ∧ AgOk G μ σ N H env' H' N' v n a x
  | [], _, _, _, _, _, _, e => by simp at e
  | a :: as, xs, vs, ns, 0, b, h, e => by
    simp only [GA] at h
    obtain ⟨x, xs', v, vs', n, ns', rfl, rfl, rfl, h1, _⟩ := h
    simp only [List.getElem?_cons_zero, Option.some.injEq] at e
    subst e
    exact ⟨x, v, n, rfl, rfl, rfl, h1⟩
  | a :: as, xs, vs, ns, k + 1, b, h, e => by
    simp only [GA] at h
    obtain ⟨x, xs', v, vs', n, ns', rfl, rfl, rfl, _, h1⟩ := h
    obtain ⟨x2, v2, n2, e1, e2, e3, h2⟩ := GA.get (k := k) h1 (by simpa using e)
    exact ⟨x2, v2, n2, by simpa using e1, by simpa using e2, by simpa using e3, h2⟩
theorem GA.len {G : Gt} {μ : List Md} {σ : L2.St} {N N' : Nat → List Addr} {H H' : Hp} {env' : En} : ∀ {as : List As} {xs : List (Option D)} {vs : List V} {ns : List (List Addr)}, GA G μ σ N H env' H' N' as xs vs ns → xs.length = as.length ∧ vs.length = as.length ∧ ns.length = as.length
  | [], _, _, _, h => by simp only [GA] at h; obtain ⟨rfl, rfl, rfl⟩ := h; exact ⟨rfl, rfl, rfl⟩
  | a :: as, xs, vs, ns, h => by
    simp only [GA] at h
    obtain ⟨x, xs', v, vs', n, ns', rfl, rfl, rfl, _, h1⟩ := h
    obtain ⟨h1, h2, h3⟩ := h1.len
    simp [h1, h2, h3]
theorem GA.imp {G : Gt} {μ μ' : List Md} {σ : L2.St} {N N0 N' : Nat → List Addr} {H H0 H' : Hp} {env' : En} (f : ∀ v n a x, AgOk G μ σ N H env' H' N' v n a x → AgOk G μ' σ N0 H0 env' H' N' v n a x) : ∀ {as : List As} {xs : List (Option D)} {vs : List V} {ns : List (List Addr)}, GA G μ σ N H env' H' N' as xs vs ns → GA G μ' σ N0 H0 env' H' N' as xs vs ns
  | [], _, _, _, h => by simp only [GA] at h ⊢; exact h
  | a :: as, xs, vs, ns, h => by
    simp only [GA] at h ⊢
    obtain ⟨x, xs', v, vs', n, ns', e1, e2, e3, h1, h2⟩ := h
    exact ⟨x, xs', v, vs', n, ns', e1, e2, e3, f _ _ _ _ h1, GA.imp f h2⟩
def GQ (G : Gt) (μ : List Md) (W : WX) (as : List As) (env : En) (N : Nat → List Addr) (σ : L2.St) (H : Hp) (Q : List V → Hp → Prop) : Rt (List (Option D)) → Prop
  | .ok xs env' => ∀ vs H' N' ns, Rep G μ env' σ H' N' → Stp μ false env H N env' H' N' → GA G μ σ N H env' H' N' as xs vs ns → Q vs H'
  | .exc x env' => XQ G μ W env N σ H x env'
  | .bad => False
def tG (G : Gt) (μ : List Md) (W : WX) (as : List As) (m : GM) : TA := fun σ H Q => ∃ env N, Rep G μ env σ H N ∧ GQ G μ W as env N σ H Q (m env)
structure PGV (X : Cx) (xv : XV) (μ : List Md) (W : WX) (es : List Expr) (ags : List Ag) : Prop where
  pa : PA X es (tG (gx X xv) μ W (ags.map Ag.st) (agRun ags))
section
variable {X : Cx} {xv : XV} {μ : List Md} {W : WX} {pos : Pos} {e : Expr} {es : List Expr} {ags : List Ag} {ro : Bool} {md : Md} {m : EM} {j : Nat}
theorem ag_nil : PGV X xv μ W [] [] := ⟨PA.imp pa_nil fun σ H Q ⟨env, N, R, q⟩ => q [] H N [] R .refl (by simp [GA])⟩
theorem ag_val (h1 : PEV X xv μ W e ro md m) (h2 : PGV X xv μ W es ags) (hm : md ≠ .al := by decide) (hs : starEach (e :: es) X.env = (false, eval e X.env) :: starEach es X.env := by rfl) : PGV X xv μ W (e :: es) (.val m :: ags) := by
  refine ⟨PA.imp (pa_cons h1.pe h2.pa hs) fun σ H Q ⟨env, N, R0, q⟩ => ⟨env, N, R0, ?_⟩⟩
  unfold agRun at q
  cases e1 : m env with
  | bad => rw [e1] at q; exact q
  | exc x env1 => rw [e1] at q; exact q
  | ok d env1 =>
    rw [e1] at q
    simp only [Rt.bind_ok, gVal2] at q
    intro v1 H1 N1 n1 R1 S1 r1 V1
    refine ⟨env1, N1, R1, ?_⟩
    cases e2 : agRun ags env1 with
    | bad => rw [e2] at q; exact q
    | exc x env2 => rw [e2] at q; exact XQ.pre S1 q
    | ok xs env2 =>
      rw [e2] at q
      simp only [Rt.bind_ok, gCons3] at q
      intro vs H2 N2 ns R2 S2 g
      refine q (v1 :: vs) H2 N2 (n1 :: ns) R2 ((S1.trans S2).mono (by simp)) ?_
      simp only [List.map_cons, GA, Ag.st]
      refine ⟨_, xs, _, vs, _, ns, rfl, rfl, rfl, ⟨S2.rp R1 r1 (V1.nown hm), V1.sub, fun a ha w => ?_⟩, g.imp fun v n a x h => ?_⟩
      · rcases S2.own a w with y | y
        · exact V1.nown hm a ha y
        · exact r1.there ha y
      · cases a <;> cases x <;> simp only [AgOk] at h ⊢ <;> try exact h
        exact ⟨h.1, fun b hb => (h.2.1 b hb).elim (S1.all b) fun z => .inr (S1.dom b z), h.2.2⟩
theorem ag_slot {x : Str} {p : Pos} (h1 : PE X (.Name x p) (tVar j)) (h2 : PGV X xv μ W es ags) (hs : starEach (.Name x p :: es) X.env = (false, eval (.Name x p) X.env) :: starEach es X.env := by rfl) : PGV X xv μ W (.Name x p :: es) (.slot j :: ags) := by
  refine ⟨PA.imp (pa_cons h1 h2.pa hs) fun σ H Q ⟨env, N, R0, q⟩ => ?_⟩
  unfold agRun at q
  split at q
  · rename_i d ed
    obtain ⟨v, g1, g2⟩ := R0.rep j d ed
    refine ⟨v, g1, env, N, R0, ?_⟩
    cases e2 : agRun ags env with
    | bad => rw [e2] at q; exact q
    | exc x env2 => rw [e2] at q; exact q
    | ok xs env2 =>
      rw [e2] at q
      simp only [Rt.bind_ok, gCons3] at q
      intro vs H2 N2 ns R2 S2 g
      refine q (v :: vs) H2 N2 ([] :: ns) R2 S2 ?_
      simp only [List.map_cons, GA, Ag.st]
      exact ⟨_, xs, _, vs, _, ns, rfl, rfl, rfl, ⟨g1, rfl⟩, g⟩
  · exact q.elim
theorem ag_plc {root : Bool} {pm : PM} (h1 : PPV X xv (lockAt μ j) W e ro j root pm) (h2 : PGV X xv (lockAt μ j) W es ags) (hR : (mdAt μ j).isR = true ∨ (mdAt μ j).isD = true := by decide) (hs : starEach (e :: es) X.env = (false, eval e X.env) :: starEach es X.env := by rfl) :
    PGV X xv μ W (e :: es) (.plc j pm :: ags) := by
  have hlk := lk_of hR
  refine ⟨PA.imp (pa_cons h1.pe h2.pa hs) fun σ H Q ⟨env, N, R0, q⟩ => ⟨env, N, R0.dolock, ?_⟩⟩
  unfold agRun at q
  cases e1 : pm env with
  | bad => rw [e1] at q; exact q
  | exc x env1 => rw [e1] at q; exact XQ.unlock hR q
  | ok p env1 =>
    rw [e1] at q
    simp only [Rt.bind_ok, gPlc2] at q
    intro v1 H1 N1 R1 S1 F1
    refine ⟨env1, N1, R1, ?_⟩
    cases e2 : agRun ags env1 with
    | bad => rw [e2] at q; exact q
    | exc x env2 => rw [e2] at q; exact XQ.pre S1 (XQ.unlock hR q)
    | ok xs env2 =>
      rw [e2] at q
      simp only [Rt.bind_ok, gCons3] at q
      intro vs H2 N2 ns R2 S2 g
      obtain ⟨D0, v0, E1, E2, FR, n1, mm, n3, r, hn, hr, hf⟩ := S2.foc R1 hlk F1 (.inr (.inr (R1.nowr hlk)))
      refine q (v1 :: vs) H2 N2 (mm :: ns) R2.unlock (((S1.trans S2).unlock hR).mono (by simp)) ?_
      simp only [List.map_cons, GA, Ag.st]
      refine ⟨_, xs, _, vs, _, ns, rfl, rfl, rfl, ⟨r, fun a ha => by rw [hn]; simp [ha]⟩, g.imp fun v n a x h => ?_⟩
      cases a <;> cases x <;> simp only [AgOk] at h ⊢ <;> try exact h
      exact ⟨h.1, fun b hb => (h.2.1 b hb).elim (S1.all b) fun z => .inr (S1.dom b z), fun b hb w => h.2.2 b hb (ownS_lock.mpr w)⟩
end
/-! ### to the parameters, and back -/
def rsv : List As → List (Option D) → En → Option (List D)
  | [], _, _ => some []
  | .slot j :: as, _ :: xs, e => match e[j]? with
    | some (some d) => (rsv as xs e).map (d :: ·)
    | _ => none
  | _ :: as, some d :: xs, e => (rsv as xs e).map (d :: ·)
  | _, _, _ => none
def wb1 (m : Md) (a : As) (d : D) (e : En) : En := match a with
  | .slot j => if m.fix = true then e.set j (some d) else e
  | _ => e
def wb : List Md → List As → List D → En → En
  | m :: π, a :: as, d :: ds, e => wb1 m a d (wb π as ds e)
  | _, _, _, e => e
def ioOf : List Md → List As → Nat → Option Nat
  | m :: π, a :: as, j => if m.fix = true ∧ a = .slot j then some 0 else (ioOf π as j).map (· + 1)
  | _, _, _ => none
theorem ioOf_some : ∀ {π : List Md} {as : List As} {j k : Nat}, ioOf π as j = some k → (mdAt π k).fix = true ∧ as[k]? = some (.slot j)
  | [], _, _, _, h => by simp [ioOf] at h
  | _ :: _, [], _, _, h => by simp [ioOf] at h
  | m :: π, a :: as, j, k, h => by
    simp only [ioOf] at h
    split at h
    · rename_i hm
      cases h
      exact ⟨hm.1, by rw [hm.2]; rfl⟩
    · cases e : ioOf π as j with
      | none => rw [e] at h; cases h
      | some k' =>
        rw [e] at h
        cases h
        exact ioOf_some (π := π) e
theorem ioOf_none : ∀ {π : List Md} {as : List As} {j k : Nat}, ioOf π as j = none → (mdAt π k).fix = true → as[k]? ≠ some (.slot j)
  | [], _, _, k, _, h => by simp [mdAt, Md.fix] at h
  | _ :: _, [], _, _, _, _ => by simp
  | m :: π, a :: as, j, 0, h, hf => by
    simp only [ioOf] at h
    split at h
    · cases h
    · rename_i hm
      exact fun z => hm ⟨hf, by simpa using z⟩
  | m :: π, a :: as, j, k + 1, h, hf => by
    simp only [ioOf] at h
    split at h
    · cases h
    · cases e : ioOf π as j with
      | none => exact ioOf_none (π := π) (k := k) e hf
      | some k' => rw [e] at h; cases h
theorem wb_len : ∀ {π : List Md} {as : List As} {ds : List D} {e : En}, (wb π as ds e).length = e.length
  | [], _, _, _ => by simp [wb]
  | _ :: _, [], _, _ => by simp [wb]
  | _ :: _, _ :: _, [], _ => by simp [wb]
  | m :: π, a :: as, d :: ds, e => by
    simp only [wb]
    unfold wb1
    split
    · split
      · rw [List.length_set, wb_len]
      · exact wb_len
    · exact wb_len
theorem wb_none : ∀ {π : List Md} {as : List As} {ds : List D} {e : En} {j : Nat}, ioOf π as j = none → (wb π as ds e)[j]? = e[j]?
  | [], _, _, _, _, _ => by simp [wb]
  | _ :: _, [], _, _, _, _ => by simp [wb]
  | _ :: _, _ :: _, [], _, _, _ => by simp [wb]
  | m :: π, a :: as, d :: ds, e, j, h => by
    simp only [ioOf] at h
    split at h
    · cases h
    · rename_i hm
      have h2 : ioOf π as j = none := by
        cases e1 : ioOf π as j with
        | none => rfl
        | some k => rw [e1] at h; cases h
      have ih := wb_none (π := π) (as := as) (ds := ds) (e := e) h2
      simp only [wb]
      unfold wb1
      split
      · split
        · rename_i i hf
          have : i ≠ j := fun z => hm ⟨hf, by rw [z]⟩
          rw [List.getElem?_set_ne this]
          exact ih
        · exact ih
      · exact ih
theorem wb_some : ∀ {π : List Md} {as : List As} {ds : List D} {e : En} {j k : Nat} {d : D}, ioOf π as j = some k → ds[k]? = some d → j < e.length → (wb π as ds e)[j]? = some (some d)
  | [], _, _, _, _, _, _, h, _, _ => by simp [ioOf] at h
  | _ :: _, [], _, _, _, _, _, h, _, _ => by simp [ioOf] at h
  | m :: π, a :: as, [], _, _, _, _, _, h, _ => by simp at h
  | m :: π, a :: as, d :: ds, e, j, k, d', h, hd, hj => by
    simp only [ioOf] at h
    split at h
    · rename_i hm
      cases h
      simp only [List.getElem?_cons_zero, Option.some.injEq] at hd
      subst hd
      simp only [wb]
      unfold wb1
      rw [hm.2]
      simp only [hm.1, if_true]
      rw [List.getElem?_set_self (by rw [wb_len]; exact hj)]
    · rename_i hm
      cases e1 : ioOf π as j with
      | none => rw [e1] at h; cases h
      | some k' =>
        rw [e1] at h
        cases h
        have ih := wb_some (π := π) (as := as) (ds := ds) (e := e) e1 (by simpa using hd) hj
        simp only [wb]
        unfold wb1
        split
        · split
          · rename_i i hf
            have : i ≠ j := fun z => hm ⟨hf, by rw [z]⟩
            rw [List.getElem?_set_ne this]
            exact ih
          · exact ih
        · exact ih
theorem rsv_get : ∀ {as : List As} {xs : List (Option D)} {e : En} {ds : List D} {k : Nat} {a : As}, rsv as xs e = some ds → as[k]? = some a → ∃ d, ds[k]? = some d ∧ ((∃ j, a = .slot j ∧ e[j]? = some (some d)) ∨ ((∀ j, a ≠ .slot j) ∧ xs[k]? = some (some d)))
  | [], _, _, _, _, _, _, h => by simp at h
  | a :: as, [], e, ds, k, b, h, _ => by cases a <;> simp [rsv] at h
  | a :: as, x :: xs, e, ds, k, b, h, hb => by
    have go : ∀ d : D, (rsv as xs e).map (d :: ·) = some ds → ((∃ j, a = .slot j ∧ e[j]? = some (some d)) ∨ ((∀ j, a ≠ .slot j) ∧ x = some d)) → ∃ d, ds[k]? = some d ∧ ((∃ j, b = .slot j ∧ e[j]? = some (some d)) ∨ ((∀ j, b ≠ .slot j) ∧ (x :: xs)[k]? = some (some d))) := fun d h hd => by
      cases e1 : rsv as xs e with
      | none => rw [e1] at h; cases h
      | some ds1 =>
        rw [e1] at h
        cases h
        cases k with
        | zero =>
          simp only [List.getElem?_cons_zero, Option.some.injEq] at hb
          subst hb
          exact ⟨d, rfl, hd.imp (fun z => z) fun z => ⟨z.1, by rw [z.2]; rfl⟩⟩
        | succ k =>
          obtain ⟨d', h1, h2⟩ := rsv_get e1 (k := k) (by simpa using hb)
          exact ⟨d', by simpa using h1, by simpa using h2⟩
    cases a with
    | slot j =>
      simp only [rsv] at h
      split at h
      · rename_i d hd
        exact go d h (.inl ⟨j, rfl, hd⟩)
      · cases h
    | val =>
      cases x with
      | none => simp [rsv] at h
      | some d => simp only [rsv] at h; exact go d h (.inr ⟨fun j z => (by cases z), rfl⟩)
    | plc j =>
      cases x with
      | none => simp [rsv] at h
      | some d => simp only [rsv] at h; exact go d h (.inr ⟨fun j z => (by cases z), rfl⟩)
theorem rsv_len : ∀ {as : List As} {xs : List (Option D)} {e : En} {ds : List D}, rsv as xs e = some ds → ds.length = as.length
  | [], _, _, _, h => by simp only [rsv] at h; cases h; rfl
  | a :: as, [], e, ds, h => by cases a <;> simp [rsv] at h
  | a :: as, x :: xs, e, ds, h => by
    have go : ∀ d : D, (rsv as xs e).map (d :: ·) = some ds → ds.length = as.length + 1 := fun d h => by
      cases e1 : rsv as xs e with
      | none => rw [e1] at h; cases h
      | some ds1 => rw [e1] at h; cases h; simp [rsv_len e1]
    cases a with
    | slot j =>
      simp only [rsv] at h
      split at h
      · rename_i d hd
        exact go d h
      · cases h
    | val => cases x with
      | none => simp [rsv] at h
      | some d => simp only [rsv] at h; exact go d h
    | plc j => cases x with
      | none => simp [rsv] at h
      | some d => simp only [rsv] at h; exact go d h
/-- some argument shares with a slot that is owned -/
def brw (μ π : List Md) (as : List As) : Bool := (List.range as.length).any fun k => !(mdAt π k).fix && (match as[k]? with
  | some (.slot _) | some (.plc _) => true
  | _ => false)
structure Pass (μ π : List Md) (as : List As) : Prop where
  len : as.length = π.length
  par : ∀ i, (mdAt π i).par = true
  io : ∀ k, (mdAt π k).fix = true → ∃ j, as[k]? = some (.slot j) ∧ (mdAt μ j).lock = false ∧ (mdAt μ j).isR = (mdAt π k).isR ∧ (mdAt μ j).isD = (mdAt π k).isD ∧ ∀ k', k' ≠ k → as[k']? ≠ some (.slot j) ∧ as[k']? ≠ some (.plc j)
  br : brw μ π as = true → ∀ k, mdAt π k ≠ .fr
def ioCk (μ π : List Md) (as : List As) (k : Nat) : Bool := !(mdAt π k).fix || (match as[k]? with
  | some (.slot j) => !(mdAt μ j).lock && ((mdAt μ j).isR == (mdAt π k).isR) && ((mdAt μ j).isD == (mdAt π k).isD) && (List.range as.length).all fun k' => k' == k || (as[k']? != some (.slot j) && as[k']? != some (.plc j))
  | _ => false)
theorem Pass.of {μ π : List Md} {as : List As} (h1 : as.length = π.length) (h2 : π.all Md.par = true) (h3 : (List.range π.length).all (ioCk μ π as) = true) (h4 : (!brw μ π as || π.all fun m => m != .fr) = true) : Pass μ π as := by
  refine ⟨h1, fun i => ?_, fun k hk => ?_, fun hb k => ?_⟩
  · rw [List.all_eq_true] at h2
    unfold mdAt
    rw [List.getD_eq_getElem?_getD]
    cases e : π[i]? with
    | none => rfl
    | some m => exact h2 m (List.mem_of_getElem? e)
  · rw [List.all_eq_true] at h3
    have := h3 k (List.mem_range.mpr (fix_lt hk))
    unfold ioCk at this
    rw [hk] at this
    simp only [Bool.not_true, Bool.false_or] at this
    split at this
    · rename_i j e
      simp only [Bool.and_eq_true, Bool.not_eq_true', beq_iff_eq] at this
      obtain ⟨⟨⟨g1, g2⟩, g3⟩, g4⟩ := this
      refine ⟨j, e, g1, g2, g3, fun k' hk' => ?_⟩
      rcases Nat.lt_or_ge k' as.length with h | h
      · rw [List.all_eq_true] at g4
        have := g4 k' (List.mem_range.mpr h)
        simpa [hk'] using this
      · rw [List.getElem?_eq_none h]; simp
    · cases this
  · rw [hb] at h4
    simp only [Bool.not_true, Bool.false_or] at h4
    rw [List.all_eq_true] at h4
    unfold mdAt
    rw [List.getD_eq_getElem?_getD]
    cases e : π[k]? with
    | none => simp
    | some m => simpa using h4 m (List.mem_of_getElem? e)
section
variable {G : Gt} {μ π : List Md} {as : List As} {xs : List (Option D)} {vs : List V} {ns : List (List Addr)} {env env' : En} {σ : L2.St} {H H' : Hp} {N N' : Nat → List Addr} {ds : List D}
def N0 (as : List As) (ns : List (List Addr)) (N' : Nat → List Addr) : Nat → List Addr := fun k => match as[k]? with
  | some (.slot j) => N' j
  | some _ => ns.getD k []
  | none => []
/-- what a parameter owns, a slot of the caller owns -/
theorem own_in (P : Pass μ π as) (hr : rsv as xs env' = some ds) {k : Nat} {d : D} {a : Addr} (e : (ds.map some)[k]? = some (some d)) (o : Own (mdAt π k) d (N0 as ns N' k) a) :
    ∃ j, as[k]? = some (.slot j) ∧ (mdAt π k).fix = true ∧ env'[j]? = some (some d) ∧ Wr (mdAt μ j) d (N' j) a := by
  cases hfx : (mdAt π k).fix with
  | false => rw [Md.par_s (P.par k) hfx] at o; exact absurd o Own.noS
  | true =>
    obtain ⟨j, h1, h2, h3, h4, h5⟩ := P.io k hfx
    obtain ⟨d', g1, g2⟩ := rsv_get hr h1
    obtain ⟨_, e1⟩ := lt_of_get e
    rw [e1] at g1
    cases g1
    rcases g2 with ⟨j', ej, g⟩ | g
    · cases ej
      refine ⟨j, h1, rfl, g, h2, ?_⟩
      unfold N0 at o
      rw [h1] at o
      unfold Own at o ⊢
      rw [h3, h4]
      exact o
    · exact absurd rfl (g.1 j)
/-- a parameter's nodes -/
theorem node_in (P : Pass μ π as) (g : GA G μ σ N H env' H' N' as xs vs ns) {k : Nat} {a : Addr} (h : a ∈ N0 as ns N' k) : (∃ j, as[k]? = some (.slot j) ∧ a ∈ N' j) ∨ (∃ j, as[k]? = some (.plc j) ∧ a ∈ N' j) ∨ ((allS N a ∨ H a = none) ∧ ¬ ownS μ env' N' a ∧ H' a ≠ none) := by
  unfold N0 at h
  cases e : as[k]? with
  | none => rw [e] at h; cases h
  | some b =>
    rw [e] at h
    cases b with
    | slot j => exact .inl ⟨j, rfl, h⟩
    | val =>
      obtain ⟨x, v, n, h1, h2, h3, h4⟩ := g.get e
      dsimp only at h
      rw [List.getD_eq_getElem?_getD, h3] at h
      cases x <;> simp only [AgOk] at h4
      exact .inr (.inr ⟨h4.2.1 a h, h4.2.2 a h, h4.1.there h⟩)
    | plc j =>
      obtain ⟨x, v, n, h1, h2, h3, h4⟩ := g.get e
      dsimp only at h
      rw [List.getD_eq_getElem?_getD, h3] at h
      cases x <;> simp only [AgOk] at h4
      exact .inr (.inl ⟨j, rfl, h4.2 a h⟩)
theorem Rep.pass (P : Pass μ π as) (R : Rep G μ env' σ H' N') (g : GA G μ σ N H env' H' N' as xs vs ns) (hr : rsv as xs env' = some ds) : Rep ⟨G.K, G.mg, none⟩ π (ds.map some) (vs.map some) H' (N0 as ns N') := by
  obtain ⟨l1, l2, l3⟩ := g.len
  have l4 := rsv_len hr
  refine ⟨by simp [l2, l4], fun k d e => ?_, fun k e => ?_, fun k d a e o => ?_, fun x h => by cases h⟩
  · obtain ⟨hk, e1⟩ := lt_of_get e
    have ha : as[k]? = some as[k] := List.getElem?_eq_getElem (by omega)
    obtain ⟨x, v, n, h1, h2, h3, h4⟩ := g.get ha
    obtain ⟨d', g1, g2⟩ := rsv_get hr ha
    rw [e1] at g1
    cases g1
    refine ⟨v, by rw [List.getElem?_map, h2]; rfl, ?_⟩
    unfold N0
    rw [ha]
    generalize as[k] = b at h4 g2
    cases b with
    | slot j =>
      rcases g2 with ⟨j', ej, g2⟩ | g2
      · cases ej
        cases x <;> simp only [AgOk] at h4
        obtain ⟨w, w1, w2⟩ := R.rep j d g2
        rw [h4.1] at w1
        cases w1
        exact w2.xv
      · exact absurd rfl (g2.1 j)
    | val =>
      rcases g2 with ⟨j', ej, g2⟩ | g2
      · cases ej
      · rw [h1] at g2
        cases g2.2
        simp only [AgOk] at h4
        show Rp _ _ _ _ (ns.getD k [])
        rw [List.getD_eq_getElem?_getD, h3]
        exact h4.1.xv
    | plc j =>
      rcases g2 with ⟨j', ej, g2⟩ | g2
      · cases ej
      · rw [h1] at g2
        cases g2.2
        simp only [AgOk] at h4
        show Rp _ _ _ _ (ns.getD k [])
        rw [List.getD_eq_getElem?_getD, h3]
        exact h4.1.xv
  · unfold N0
    rcases Nat.lt_or_ge k as.length with h | h
    · have : k < ds.length := by omega
      exact absurd (by rw [List.getElem?_map, List.getElem?_eq_getElem this]; rfl) (e ds[k])
    · rw [List.getElem?_eq_none h]
  · obtain ⟨j, h1, hfx, h2, h3⟩ := own_in P hr e o
    refine ⟨?_, fun k' hk' w => ?_⟩
    · unfold N0
      rw [h1]
      exact (R.uq j d a h2 h3.2).1
    · obtain ⟨j', i1, _, _, _, i2⟩ := P.io k hfx
      rw [h1] at i1
      cases i1
      rcases node_in P g w with ⟨j2, h4, h5⟩ | ⟨j2, h4, h5⟩ | h5
      · have : j2 ≠ j := fun z => (i2 k' hk').1 (z ▸ h4)
        exact (R.uq j d a h2 h3.2).2 j2 this h5
      · have : j2 ≠ j := fun z => (i2 k' hk').2 (z ▸ h4)
        exact (R.uq j d a h2 h3.2).2 j2 this h5
      · exact h5.2.1 ⟨j, d, h2, h3.2⟩
/-- the caller's nodes behind the call -/
def N2 (π : List Md) (as : List As) (N' Nc : Nat → List Addr) : Nat → List Addr := fun j => match ioOf π as j with
  | some k => Nc k
  | none => N' j
theorem Rep.back (P : Pass μ π as) (R : Rep G μ env' σ H' N') (S0 : Stp μ false env H N env' H' N') (g : GA G μ σ N H env' H' N' as xs vs ns) (hr : rsv as xs env' = some ds) {ds' : List D} {H2 : Hp} {Nc : Nat → List Addr}
    (R2 : Rep ⟨G.K, G.mg, none⟩ π (ds'.map some) (vs.map some) H2 Nc) (S : Stp π false (ds.map some) H' (N0 as ns N') (ds'.map some) H2 Nc) :
    Rep G μ (wb π as ds' env') σ H2 (N2 π as N' Nc) ∧ Stp μ false env H N (wb π as ds' env') H2 (N2 π as N' Nc) ∧ (∀ a, wrS π (ds.map some) (N0 as ns N') a → wrS μ env' N' a) ∧
      (∀ a, ownS μ (wb π as ds' env') (N2 π as N' Nc) a → ownS π (ds'.map some) Nc a ∨ (ownS μ env' N' a ∧ ∃ j, ioOf π as j = none ∧ a ∈ N' j)) ∧ (∀ a, allS (N2 π as N' Nc) a → allS Nc a ∨ ∃ j, ioOf π as j = none ∧ a ∈ N' j) := by
  obtain ⟨l1, l2, l3⟩ := g.len
  have l4 := rsv_len hr
  have l5 : ds'.length = as.length := by have := R2.len; simp at this; omega
  have wrIn : ∀ a, wrS π (ds.map some) (N0 as ns N') a → ∃ j d k, as[k]? = some (.slot j) ∧ (mdAt π k).fix = true ∧ env'[j]? = some (some d) ∧ Wr (mdAt μ j) d (N' j) a := fun a ⟨k, d, e, w⟩ => by
    obtain ⟨j, h1, h2, h3, h4⟩ := own_in P hr e w.2
    exact ⟨j, d, k, h1, h2, h3, h4⟩
  have wrIn2 : ∀ a, wrS π (ds.map some) (N0 as ns N') a → wrS μ env' N' a := fun a w => by
    obtain ⟨j, d, k, _, _, h, w⟩ := wrIn a w
    exact ⟨j, d, h, w⟩
  have ownIn : ∀ a, ownS π (ds.map some) (N0 as ns N') a → ∃ j d k, as[k]? = some (.slot j) ∧ (mdAt π k).fix = true ∧ env'[j]? = some (some d) ∧ Wr (mdAt μ j) d (N' j) a := fun a ⟨k, d, e, w⟩ => by
    obtain ⟨j, h1, h2, h3, h4⟩ := own_in P hr e w
    exact ⟨j, d, k, h1, h2, h3, h4⟩
  have ioU : ∀ {k j : Nat}, as[k]? = some (.slot j) → (mdAt π k).fix = true → ioOf π as j = some k := fun {k j} h1 h2 => by
    cases e : ioOf π as j with
    | none => exact absurd h1 (ioOf_none e h2)
    | some k' =>
      obtain ⟨g1, g2⟩ := ioOf_some e
      by_cases hk : k' = k
      · rw [hk]
      · obtain ⟨j', i1, _, _, _, i2⟩ := P.io k h2
        rw [h1] at i1
        cases i1
        exact absurd g2 (i2 k' hk).1
  have mutW : ∀ a, wrS π (ds.map some) (N0 as ns N') a → MutO (H' a) := fun a w => R.mut (wrIn2 a w).own.all
  have hj : ∀ {j k : Nat}, ioOf π as j = some k → j < env'.length ∧ ∃ d', ds'[k]? = some d' := fun {j k} h => by
    obtain ⟨g1, g2⟩ := ioOf_some h
    obtain ⟨d, g3, g4⟩ := rsv_get hr g2
    have hk : k < ds'.length := by
      have := fix_lt g1
      rw [← P.len] at this
      omega
    refine ⟨?_, ds'[k], List.getElem?_eq_getElem hk⟩
    rcases g4 with ⟨j', ej, g4⟩ | g4
    · cases ej
      rcases Nat.lt_or_ge j env'.length with h | h
      · exact h
      · rw [List.getElem?_eq_none h] at g4; cases g4
    · exact absurd rfl (g4.1 j)
  -- an address that a slot of the callee's hands owns behind the call
  have ownOut : ∀ {j k : Nat} {d : D} {a : Addr}, ioOf π as j = some k → (wb π as ds' env')[j]? = some (some d) → Own (mdAt μ j) d (Nc k) a → (ds'.map some)[k]? = some (some d) ∧ Own (mdAt π k) d (Nc k) a := fun {j k d a} h e o => by
    obtain ⟨h1, d', h2⟩ := hj h
    rw [wb_some h h2 h1] at e
    cases e
    refine ⟨by rw [List.getElem?_map, h2]; rfl, ?_⟩
    obtain ⟨g1, g2⟩ := ioOf_some h
    obtain ⟨j', i1, _, i3, i4, _⟩ := P.io k g1
    rw [g2] at i1
    cases i1
    unfold Own at o ⊢
    rw [← i3, ← i4]
    exact o
  have nN : ∀ {j : Nat}, ioOf π as j = none → N2 π as N' Nc j = N' j := fun {j} h => by unfold N2; rw [h]
  have nS : ∀ {j k : Nat}, ioOf π as j = some k → N2 π as N' Nc j = Nc k := fun {j k} h => by unfold N2; rw [h]
  -- what the callee owns behind the call is in no other slot
  have apart : ∀ a, ownS π (ds'.map some) Nc a → ∀ j, ioOf π as j = none → a ∉ N' j := fun a w j hn hin => by
    rcases S.own a w with z | z
    · obtain ⟨j2, d2, k2, h1, h2, h3, h4⟩ := ownIn a z
      have : j2 ≠ j := fun y => by rw [← y, ioU h1 h2] at hn; cases hn
      exact (R.uq j2 d2 a h3 h4.2).2 j (Ne.symm this) hin
    · exact R.there ⟨j, hin⟩ z
  -- what a slot owns that was not handed in is not in the callee's hands
  have apart2 : ∀ {j : Nat} {d : D} {a : Addr}, ioOf π as j = none → env'[j]? = some (some d) → Own (mdAt μ j) d (N' j) a → ∀ k, (mdAt π k).fix = true → a ∉ Nc k := fun {j d a} hn e o k hk hin => by
    by_cases hb : ownS π (ds'.map some) Nc a
    · exact apart a hb j hn o.mem
    · have hfr : mdAt π k = .fr := by
        have hp := P.par k
        cases z : mdAt π k <;> simp [z, Md.par, Md.fix] at hp hk
        · rfl
        · have hk2 : k < ds'.length := by
            have := fix_lt (π := π) (i := k) (by rw [z]; rfl)
            rw [← P.len] at this
            omega
          exact absurd ⟨k, ds'[k], by rw [List.getElem?_map, List.getElem?_eq_getElem hk2]; rfl, .inl ⟨by rw [z]; rfl, hin⟩⟩ hb
      have hbr : brw μ π as = false := by
        cases z : brw μ π as with
        | false => rfl
        | true => exact absurd hfr (P.br z k)
      rcases S.all a ⟨k, hin⟩ with ⟨k', z⟩ | z
      · rcases node_in P g z with ⟨j2, h4, h5⟩ | ⟨j2, h4, h5⟩ | h5
        · cases hfx : (mdAt π k').fix with
          | true =>
            have : j2 ≠ j := fun y => by rw [← y, ioU h4 hfx] at hn; cases hn
            exact (R.uq j d a e o).2 j2 this h5
          | false =>
            unfold brw at hbr
            rw [List.any_eq_false] at hbr
            have hk3 : k' < as.length := by
              rcases Nat.lt_or_ge k' as.length with h | h
              · exact h
              · rw [List.getElem?_eq_none h] at h4; cases h4
            have := hbr k' (List.mem_range.mpr hk3)
            simp [hfx, h4] at this
        · unfold brw at hbr
          rw [List.any_eq_false] at hbr
          have hk3 : k' < as.length := by
            rcases Nat.lt_or_ge k' as.length with h | h
            · exact h
            · rw [List.getElem?_eq_none h] at h4; cases h4
          have := hbr k' (List.mem_range.mpr hk3)
          have hfx : (mdAt π k').fix = false := by
            cases hfx : (mdAt π k').fix with
            | false => rfl
            | true =>
              obtain ⟨j', i1, _⟩ := P.io k' hfx
              rw [h4] at i1; cases i1
          simp [hfx, h4] at this
        · exact h5.2.1 ⟨j, d, e, o⟩
      · exact R.there ⟨j, o.mem⟩ z
  have Rb : Rep G μ (wb π as ds' env') σ H2 (N2 π as N' Nc) := by
    refine ⟨by rw [wb_len]; exact R.len, fun j d e => ?_, fun j e => ?_, fun j d a e o => ?_, R.exK S.keep mutW fun _ _ => rfl⟩
    · cases h : ioOf π as j with
      | none =>
        rw [wb_none h] at e
        rw [nN h]
        obtain ⟨v, h1, h2⟩ := R.rep j d e
        refine ⟨v, h1, h2.keep S.keep mutW fun a ha w => ?_⟩
        obtain ⟨j2, d2, k2, i1, i2, i3, i4⟩ := wrIn a w
        have : j2 ≠ j := fun y => by rw [← y, ioU i1 i2] at h; cases h
        exact (R.uq j2 d2 a i3 i4.2).2 j (Ne.symm this) ha
      | some k =>
        obtain ⟨h1, d', h2⟩ := hj h
        rw [wb_some h h2 h1] at e
        cases e
        rw [nS h]
        obtain ⟨v, h3, h4⟩ := R2.rep k d (by rw [List.getElem?_map, h2]; rfl)
        refine ⟨v, ?_, h4.xv⟩
        obtain ⟨g1, g2⟩ := ioOf_some h
        obtain ⟨x, v', n, i1, i2, i3, i4⟩ := g.get g2
        cases x <;> simp only [AgOk] at i4
        rw [List.getElem?_map, i2] at h3
        cases h3
        exact i4.1
    · cases h : ioOf π as j with
      | none => rw [nN h]; exact R.emp j fun d z => e d (by rw [wb_none h]; exact z)
      | some k =>
        obtain ⟨h1, d', h2⟩ := hj h
        exact absurd (wb_some h h2 h1) (e d')
    · cases h : ioOf π as j with
      | none =>
        rw [wb_none h] at e
        rw [nN h] at o ⊢
        refine ⟨(R.uq j d a e o).1, fun j2 h2 w => ?_⟩
        cases h3 : ioOf π as j2 with
        | none => rw [nN h3] at w; exact (R.uq j d a e o).2 j2 h2 w
        | some k => rw [nS h3] at w; exact apart2 h e o k (ioOf_some h3).1 w
      | some k =>
        rw [nS h] at o ⊢
        obtain ⟨e1, o1⟩ := ownOut h e o
        refine ⟨(R2.uq k d a e1 o1).1, fun j2 h2 w => ?_⟩
        cases h3 : ioOf π as j2 with
        | none => rw [nN h3] at w; exact apart a ⟨k, d, e1, o1⟩ j2 h3 w
        | some k2 =>
          rw [nS h3] at w
          have : k2 ≠ k := fun y => by
            subst y
            have a1 := (ioOf_some h).2
            rw [(ioOf_some h3).2] at a1
            cases a1
            exact h2 rfl
          exact (R2.uq k d a e1 o1).2 k2 this w
  have ownB : ∀ a, ownS μ (wb π as ds' env') (N2 π as N' Nc) a → ownS π (ds'.map some) Nc a ∨ (ownS μ env' N' a ∧ ∃ j, ioOf π as j = none ∧ a ∈ N' j) := fun a ⟨j, d, e, o⟩ => by
    cases h : ioOf π as j with
    | none =>
      rw [wb_none h] at e
      rw [nN h] at o
      exact .inr ⟨⟨j, d, e, o⟩, j, h, o.mem⟩
    | some k =>
      rw [nS h] at o
      obtain ⟨e1, o1⟩ := ownOut h e o
      exact .inl ⟨k, d, e1, o1⟩
  have allB : ∀ a, allS (N2 π as N' Nc) a → allS Nc a ∨ ∃ j, ioOf π as j = none ∧ a ∈ N' j := fun a ⟨j, w⟩ => by
    cases h : ioOf π as j with
    | none => rw [nN h] at w; exact .inr ⟨j, h, w⟩
    | some k => rw [nS h] at w; exact .inl ⟨k, w⟩
  refine ⟨Rb, ?_, wrIn2, ownB, allB⟩
  refine ⟨fun a o h w => ?_, fun a z => S0.dom a (S.dom a z), fun a w => ?_, fun a w => ?_, fun a w => ?_, fun j hlk => ?_, fun z => by cases z⟩
  · refine S.keep a o (S0.keep a o h w) fun z => ?_
    rcases S0.wr a (wrIn2 a z) with y | y
    · exact w y
    · rw [y] at h; cases h
  · rcases ownB a w with z | z
    · rcases S.own a z with y | y
      · obtain ⟨j, d, k, _, _, h, w⟩ := ownIn a y
        exact S0.own a ⟨j, d, h, w.2⟩
      · exact .inr (S0.dom a y)
    · exact S0.own a z.1
  · obtain ⟨j, d, e, w⟩ := w
    cases h : ioOf π as j with
    | none =>
      rw [wb_none h] at e
      rw [nN h] at w
      exact S0.wr a ⟨j, d, e, w⟩
    | some k =>
      rw [nS h] at w
      obtain ⟨e1, o1⟩ := ownOut h e w.2
      rcases S.own a ⟨k, d, e1, o1⟩ with y | y
      · obtain ⟨j, d, k, _, _, h, w⟩ := ownIn a y
        exact S0.wr a ⟨j, d, h, w⟩
      · exact .inr (S0.dom a y)
  · rcases allB a w with z | ⟨j, _, z⟩
    · rcases S.all a z with ⟨k, y⟩ | y
      · rcases node_in P g y with ⟨j2, h4, h5⟩ | ⟨j2, h4, h5⟩ | h5
        · exact S0.all a ⟨j2, h5⟩
        · exact S0.all a ⟨j2, h5⟩
        · exact h5.1
      · exact .inr (S0.dom a y)
    · exact S0.all a ⟨j, z⟩
  · have : ioOf π as j = none := by
      cases h : ioOf π as j with
      | none => rfl
      | some k =>
        obtain ⟨g1, g2⟩ := ioOf_some h
        obtain ⟨j', i1, i2, _⟩ := P.io k g1
        rw [g2] at i1
        cases i1
        rw [hlk] at i2; cases i2
    rw [wb_none this, nN this]
    exact S0.lock j hlk
end
end VS
/-! VS: a call's value; raise; try. -/
namespace VS
open PySem PySem.Spec PyProof.Rows L2
def okRet (al : Bool) (rmd : Md) (d : D) : Bool := !al || d.pure || rmd == .d || (rmd == .r && d.flat)
def mCall3 (π : List Md) (as : List As) (al : Bool) (rmd : Md) (e : En) : FR → Rt D
  | .ok d ds' => if okRet al rmd d = true then .ok d (wb π as ds' e) else .bad
  | .exc x ds' => if pureF x.fs = true then .exc x (wb π as ds' e) else .bad
  | .bad => .bad
def mCall2 (π : List Md) (as : List As) (al : Bool) (rmd : Md) (F : FM) (xs : List (Option D)) (e : En) : Rt D := match rsv as xs e with
  | some ds => mCall3 π as al rmd e (F ds)
  | none => .bad
/-- a def called -/
def mCall (π : List Md) (rmd : Md) (al : Bool) (F : FM) (ags : List Ag) : EM := fun env => (agRun ags env).bind (mCall2 π (ags.map Ag.st) al rmd F)
section
variable {X : Cx} {xv : XV} {μ π : List Md} {W : WX} {pos p : Pos} {e : Expr} {es : List Expr} {ags : List Ag} {rmd : Md} {F : FM} {x : Str} {k : Nat} {f : Addr} {fd : FuncData} {ps : List Str} {al : Bool}
theorem call_core (P : Pass μ π (ags.map Ag.st)) (hal : brw μ π (ags.map Ag.st) = true → al = true) {σ : L2.St} {H : Hp} {Q : VK} (q : tE (gx X xv) μ W false rmd (mCall π rmd al F ags) σ H Q) :
    tG (gx X xv) μ W (ags.map Ag.st) (agRun ags) σ H fun vs H1 => spD ⟨X.K, X.mg, none⟩ π rmd F vs H1 Q (fun cls d H' => W cls d σ H') := by
  obtain ⟨env, N, R0, q⟩ := q
  refine ⟨env, N, R0, ?_⟩
  unfold mCall at q
  cases e1 : agRun ags env with
  | bad => rw [e1] at q; exact q
  | exc x env1 => rw [e1] at q; exact q
  | ok xs env1 =>
    rw [e1] at q
    simp only [Rt.bind_ok, mCall2] at q
    intro vs H1 N1 ns R1 S1 g
    cases er : rsv (ags.map Ag.st) xs env1 with
    | none => rw [er] at q; exact q.elim
    | some ds =>
      rw [er] at q
      have l4 := rsv_len er
      refine ⟨ds, N0 (ags.map Ag.st) ns N1, by rw [l4, P.len], Rep.pass P R1 g er, ?_⟩
      dsimp only at q
      cases ef : F ds with
      | bad => rw [ef] at q; exact q
      | exc x ds' =>
        rw [ef] at q
        simp only [mCall3] at q
        split at q
        · rename_i hp
          intro cls dx H2 Nc n R2 S ex hn hs
          obtain ⟨Rb, Sb, w1, w2, w3⟩ := Rep.back P R1 S1 g er R2 S
          obtain ⟨C, c1, c2, c3⟩ := ex
          have hn0 : n = [] := by
            rcases c3 with c3 | ⟨a, ws, _, _, _, c3⟩
            · exact c3.2.1
            · exact c3.pure hp
          subst hn0
          refine q cls dx H2 _ [] Rb Sb ⟨C, c1, c2, ?_⟩ (by simp) (by simp)
          rcases c3 with c3 | ⟨a, ws, c6, c4, c5, c3⟩
          · exact .inl c3
          · exact .inr ⟨a, ws, c6, c4, c5, c3.xv⟩
        · exact q.elim
      | ok d ds' =>
        rw [ef] at q
        simp only [mCall3] at q
        split at q
        · rename_i hok
          intro v H2 Nc n R2 S r V
          obtain ⟨Rb, Sb, w1, w2, w3⟩ := Rep.back P R1 S1 g er R2 S
          -- what the result owns was written by the callee, or is new
          have ow : ∀ a, Own rmd d n a → wrS μ env1 N1 a ∨ H1 a = none := fun a o => (V.osub a o).imp (w1 a) (fun z => z)
          have apart : ∀ a, Own rmd d n a → ∀ j, ioOf π (ags.map Ag.st) j = none → a ∉ N1 j := fun a o j hj hin => by
            rcases V.osub a o with ⟨k, d2, e2, w⟩ | z
            · obtain ⟨j2, h1, h2, h3, h4⟩ := own_in P er e2 w.2
              have : j2 ≠ j := fun y => absurd h1 (by rw [y]; exact ioOf_none hj h2)
              exact (R1.uq j2 d2 a h3 h4.2).2 j (Ne.symm this) hin
            · exact R1.there ⟨j, hin⟩ z
          refine q v H2 _ n Rb Sb r.xv ⟨fun a ha => ?_, fun z a ha w => ?_, fun a o => ⟨(V.uq a o).1, fun w => ?_⟩, fun a o => ?_⟩
          · rcases V.sub a ha with ⟨k, y⟩ | y
            · rcases node_in P g y with ⟨j2, h4, h5⟩ | ⟨j2, h4, h5⟩ | h5
              · exact S1.all a ⟨j2, h5⟩
              · exact S1.all a ⟨j2, h5⟩
              · exact h5.1
            · exact .inr (S1.dom a y)
          · rcases w2 a w with y | ⟨y, j, hj, hin⟩
            · exact V.nown z a ha y
            · -- owned by a slot that was not handed in
              have byOwn : Own rmd d n a → False := fun o => apart a o j hj hin
              unfold okRet at hok
              simp only [Bool.or_eq_true, Bool.not_eq_true', Bool.and_eq_true, beq_iff_eq] at hok
              rcases hok with ((hok | hok) | hok) | hok
              · have hb : brw μ π (ags.map Ag.st) = false := by
                  cases t : brw μ π (ags.map Ag.st) with
                  | false => rfl
                  | true => rw [hal t] at hok; cases hok
                rcases V.sub a ha with ⟨k, t⟩ | t
                · rcases node_in P g t with ⟨j2, h4, h5⟩ | ⟨j2, h4, h5⟩ | h5
                  · have hk3 : k < (ags.map Ag.st).length := by
                      rcases Nat.lt_or_ge k (ags.map Ag.st).length with h | h
                      · exact h
                      · rw [List.getElem?_eq_none h] at h4; cases h4
                    unfold brw at hb
                    rw [List.any_eq_false] at hb
                    have hb := hb k (List.mem_range.mpr hk3)
                    rw [h4] at hb
                    cases hfx : (mdAt π k).fix with
                    | false => simp [hfx] at hb
                    | true =>
                      obtain ⟨jo, do_, eo, oo⟩ := y
                      have : j2 ≠ jo := fun t => by
                        subst t
                        by_cases hjj : j = j2
                        · subst hjj
                          exact absurd h4 (ioOf_none hj hfx)
                        · exact (R1.uq j2 do_ a eo oo).2 j hjj hin
                      exact (R1.uq jo do_ a eo oo).2 j2 this h5
                  · have hk3 : k < (ags.map Ag.st).length := by
                      rcases Nat.lt_or_ge k (ags.map Ag.st).length with h | h
                      · exact h
                      · rw [List.getElem?_eq_none h] at h4; cases h4
                    unfold brw at hb
                    rw [List.any_eq_false] at hb
                    have hb := hb k (List.mem_range.mpr hk3)
                    rw [h4] at hb
                    cases hfx : (mdAt π k).fix with
                    | false => simp [hfx] at hb
                    | true =>
                      obtain ⟨j', i1, _⟩ := P.io k hfx
                      rw [h4] at i1; cases i1
                  · exact h5.2.1 y
                · exact R1.there ⟨j, hin⟩ t
              · rw [r.pure hok] at ha; cases ha
              · exact byOwn (.inl ⟨by rw [hok]; rfl, ha⟩)
              · obtain ⟨b, hb, hm⟩ := D.flat_one hok.2 r
                refine byOwn (.inr ⟨by rw [hok.1]; rfl, hm, ?_⟩)
                rw [hb] at ha ⊢
                simp only [List.mem_singleton] at ha
                rw [ha]
                rfl
          · rcases w3 a w with y | ⟨j, hj, hin⟩
            · exact (V.uq a o).2 y
            · exact apart a o j hj hin
          · rcases ow a o with y | y
            · exact S1.wr a y
            · exact .inr (S1.dom a y)
        · exact q.elim
theorem v_call (Fn : FnOk X.prog X.w X.K X.mg X.base (L2.CX X.prog X.w) k f fd ps (spD ⟨X.K, X.mg, none⟩ π rmd F)) (hr : Room k X.A) (hg : Gl X x) (hm : X.mg x = some (.ref f)) (hk : PySem.W.keepIn X.K (.ref f) = true) (hb : Binds X.K fd ps []) (tk : Takes X W)
    (h : PGV X xv μ W (e :: es) ags) (P : Pass μ π (ags.map Ag.st)) (hal : brw μ π (ags.map Ag.st) = true → al = true)
    (hdb : (x == ("__debug__" : Str)) = false := by decide) (he : starEach (e :: es) X.env = (false, eval e X.env) :: starEach es X.env := by rfl) (hpl : (backTo pos (starEach es X.env)).any (·.1) = false := by rfl) : PEV X xv μ W (.Call (.Name x p) (e :: es) [] pos) false rmd (mCall π rmd al F ags) :=
  ⟨PE.imp (pe_callS (E := WE W) Fn hr hg hm hk hb (fun σ => passAt tk σ) h.pa hdb he hpl) fun σ H Q q => call_core P hal q, fun z => by cases z⟩
theorem pe_callS0 {X : Cx} {CX : CXT} {sp : Sp} {E : L2.St → XK} (F : FnOk X.prog X.w X.K X.mg X.base CX k f fd ps sp) (hr : Room k X.A) (hg : Gl X x) (hm : X.mg x = some (.ref f)) (hk : PySem.W.keepIn X.K (.ref f) = true) (hb : Binds X.K fd ps []) (hx : ∀ σ, PassesAt CX X σ (E σ))
    (hdb : (x == ("__debug__" : Str)) = false := by decide) : PE X (.Call (.Name x p) [] [] pos) (tCallS sp E tNil) := by
  refine ⟨fun pins s σ H Q I h => ?_⟩
  refine wpAny_Call_Name_kw (ld_glob I hg hm ?_ hdb)
  exact PySem.W.callWith_K0 I.kIn hk (run_fnS (us := []) F hr hb (hx σ) I .nil h)
theorem v_call0 (Fn : FnOk X.prog X.w X.K X.mg X.base (L2.CX X.prog X.w) k f fd ps (spD ⟨X.K, X.mg, none⟩ π rmd F)) (hr : Room k X.A) (hg : Gl X x) (hm : X.mg x = some (.ref f)) (hk : PySem.W.keepIn X.K (.ref f) = true) (hb : Binds X.K fd ps []) (tk : Takes X W)
    (P : Pass μ π []) (hdb : (x == ("__debug__" : Str)) = false := by decide) : PEV X xv μ W (.Call (.Name x p) [] [] pos) false rmd (mCall π rmd false F []) := by
  refine ⟨PE.imp (pe_callS0 (E := WE W) Fn hr hg hm hk hb (fun σ => passAt tk σ) hdb) fun σ H Q q => ?_, fun z => by cases z⟩
  obtain ⟨env, N, R0, q⟩ := call_core (ags := []) P (by intro z; cases z) q
  exact q [] H N [] R0 .refl (by simp [GA])
end
/-! ### raise -/
def sRaise0 (c : Str) : SM := fun env => .exc ⟨c, []⟩ env
section
variable {X : Cx} {xv : XV} {μ : List Md} {W : WX} {rmd : Md} {pos p cpos : Pos} {x : Str} {C fI : Addr} {k : Nat} {fd : FuncData} {ps : List Str} {e : Expr} {es : List Expr} {ro al dp : Bool} {ms : AM} {fs : List Str}
theorem s_raise0 (hc : X.calm = true) (tk : Takes X W) (T : OexC X.K C) (iC : PySem.W.findIn X.K (.ref C) "__init__" = some (some (.ref fI))) (tI : PySem.W.typeIn X.K (.ref fI) = some (.type "function"))
    (F1 : FnOk X.prog X.w X.K X.mg X.base (L2.CX X.prog X.w) k fI fd ps (spSup0 C)) (hr : Room (k + 1) X.A) (hb : Binds X.K fd ps []) (hg : Gl X x) (hm : X.mg x = some (.ref C)) (hdb : (x == ("__debug__" : Str)) = false := by decide) :
    PSV X xv μ W rmd (.Raise (some (.Call (.Name x p) [] [] cpos)) none pos) (sRaise0 x) :=
  ⟨PS.imp (ps_raise hc tk (pmk_sup0 T iC tI F1 hr hb (passes_call tk (fun _ _ _ _ h => h.elim)) hg hm hdb)) fun E σ H ⟨env, N, R, q⟩ => q (.ref C) none σ H N [] R .refl .refl ⟨C, hm, rfl, .inl ⟨rfl, rfl, rfl⟩⟩ (by simp) (by simp)⟩
def zipF (fs : List Str) (ds : List D) : List (Str × D) := (fs.zip ds).reverse
def sRaise2 (c : Str) (fs : List Str) (ds : List D) (e : En) : Sr := if ds.length = fs.length ∧ ds.length ≤ 1000 ∧ pureL ds = true ∧ 0 < ds.length then .exc ⟨c, zipF fs ds⟩ e else .bad
def sRaise (c : Str) (fs : List Str) (ms : AM) : SM := fun env => (ms env).st (sRaise2 c fs)
theorem RpF.zip {G : Gt} {H : Hp} : ∀ {fs : List Str} {ds : List D} {vs : List V}, RpL G H ds vs [] → ds.length = fs.length → RpF G H (fs.zip ds) (fs.zip vs) []
  | [], ds, vs, h, hl => by simp [RpF]
  | f :: fs, [], vs, h, hl => by simp at hl
  | f :: fs, d :: ds, vs, h, hl => by
    simp only [RpL] at h
    obtain ⟨v, vs', n1, n2, rfl, h1, h2, e⟩ := h
    have e1 : n1 = [] := (List.append_eq_nil_iff.mp e.symm).1
    have e2 : n2 = [] := (List.append_eq_nil_iff.mp e.symm).2
    subst e1 e2
    simp only [List.zip_cons_cons, RpF]
    exact ⟨v, _, [], [], rfl, h1, RpF.zip h2 (by simpa using hl), rfl⟩
theorem RpF.app {G : Gt} {H : Hp} : ∀ {a b : List (Str × D)} {va vb : List (Str × V)}, RpF G H a va [] → RpF G H b vb [] → RpF G H (a ++ b) (va ++ vb) []
  | [], b, va, vb, h1, h2 => by simp only [RpF] at h1; rw [h1.1]; simpa using h2
  | (f, d) :: a, b, va, vb, h1, h2 => by
    simp only [RpF] at h1
    obtain ⟨v, vs', n1, n2, rfl, h3, h4, e⟩ := h1
    have e1 : n1 = [] := (List.append_eq_nil_iff.mp e.symm).1
    have e2 : n2 = [] := (List.append_eq_nil_iff.mp e.symm).2
    subst e1 e2
    simp only [List.cons_append, RpF]
    exact ⟨v, _, [], [], rfl, h3, RpF.app h4 h2, rfl⟩
theorem RpF.rev {G : Gt} {H : Hp} : ∀ {a : List (Str × D)} {va : List (Str × V)}, RpF G H a va [] → RpF G H a.reverse va.reverse []
  | [], va, h => by simp only [RpF] at h; rw [h.1]; simp [RpF]
  | (f, d) :: a, va, h => by
    simp only [RpF] at h
    obtain ⟨v, vs', n1, n2, rfl, h3, h4, e⟩ := h
    have e1 : n1 = [] := (List.append_eq_nil_iff.mp e.symm).1
    have e2 : n2 = [] := (List.append_eq_nil_iff.mp e.symm).2
    subst e1 e2
    rw [List.reverse_cons, List.reverse_cons]
    exact RpF.app (RpF.rev h4) (by simp only [RpF]; exact ⟨v, [], [], [], rfl, h3, ⟨rfl, rfl⟩, rfl⟩)
theorem s_raise (hc : X.calm = true) (tk : Takes X W) (T : OexC X.K C) (iC : PySem.W.findIn X.K (.ref C) "__init__" = some (some (.ref fI))) (tI : PySem.W.typeIn X.K (.ref fI) = some (.type "function"))
    (F1 : FnOk X.prog X.w X.K X.mg X.base (L2.CX X.prog X.w) k fI fd ps (spSup C fs)) (hr : Room (k + 1) X.A) (hb : Binds X.K fd ps []) (hg : Gl X x) (hm : X.mg x = some (.ref C)) (h : PLV X xv μ W (e :: es) ro al dp ms) (hdb : (x == ("__debug__" : Str)) = false := by decide)
    (he : starEach (e :: es) X.env = (false, eval e X.env) :: starEach es X.env := by rfl) (hpl : (backTo cpos (starEach es X.env)).any (·.1) = false := by rfl) :
    PSV X xv μ W rmd (.Raise (some (.Call (.Name x p) (e :: es) [] cpos)) none pos) (sRaise x fs ms) := by
  refine ⟨PS.imp (ps_raise hc tk (pmk_sup T iC tI F1 hr hb (passes_call tk (fun _ _ _ _ h => h.elim)) hg hm h.pa hdb he hpl)) fun E σ H ⟨env, N, R, q⟩ => ⟨env, N, R, ?_⟩⟩
  unfold sRaise at q
  cases e1 : ms env with
  | bad => rw [e1] at q; exact q
  | exc x env1 => rw [e1] at q; exact SXQ.toX q
  | ok ds env1 =>
    rw [e1] at q
    simp only [Rt.st_ok, sRaise2] at q
    split at q
    · rename_i hh
      intro vs H1 N1 n R1 S1 rl A _
      have hl := rl.len
      have hn := rl.pure hh.2.2.1
      subst hn
      refine ⟨by omega, by omega, fun d hd => ?_⟩
      have k : ∀ a o, H1 a = some o → upd H1 d (.xd (fs.zip vs).reverse) a = some o := ext_upd hd
      refine q (.ref C) (some d) σ _ N1 [] (R1.ext k) ((S1.trans (Stp.new (ro := true) k)).mono (by simp)) .refl ⟨C, hm, rfl, .inr ⟨d, _, fun z => ?_, rfl, upd_same, ?_⟩⟩ (by simp) (by simp)
      · have z : (fs.zip ds).reverse = [] := z
        have : (fs.zip ds).length = 0 := by rw [← List.length_reverse, z]; rfl
        rw [List.length_zip] at this
        omega
      · exact (RpF.rev (RpF.zip rl hh.1)).ext k
    · exact q.elim
end
end VS
namespace L2
open PySem PySem.Spec PyProof.Rows
/-! ### several clauses, some with names -/
def endA (D : Ends) : Option Nat → Ends
  | none => D
  | some i => { nx := fun σ' H' => D.nx (σ'.set i none) H', rt := D.rt, bk := fun σ' H' => D.bk (σ'.set i none) H', ct := fun σ' H' => D.ct (σ'.set i none) H' }
def slA (σ : St) (a : Addr) : Option Nat → St
  | none => σ
  | some i => σ.set i (some (.ref a))
def wManyA (K : PySem.W.Frag) (Wout : WX) (D : Ends) : List (Value × Option Nat × (Addr → Value → Option Addr → TS)) → WX
  | [] => Wout
  | (c, oi, ts) :: r => fun cls d σ H => ∃ b, PySem.W.exmOne K cls c = some b ∧ (b = true → ∀ a, H a = none → ts a cls d (endA D oi) (slA σ a oi) H) ∧ (b = false → wManyA K Wout D r cls d σ H)
inductive HdsA (X : Cx) : List ExceptHandler → List (Value × Option Nat × (Addr → Value → Option Addr → TS)) → Prop
  | nil : HdsA X [] []
  | cons {x : Str} {c : Value} {ts : Addr → Value → Option Addr → TS} {b₀ : Stmt} {suite : List Stmt} {np pos' : Pos} {hds : List ExceptHandler} {l : List (Value × Option Nat × (Addr → Value → Option Addr → TS))} (hc : Names X x c)
      (hsu : ∀ (a : Addr) (oe : Obj) (cls : Value) (d : Option Addr) (pn : List (Addr × Obj)), Zc cls d oe → (∃ vs, oe.data = .fields vs) → PSs (X.suite a ((a, oe) :: pn)) (b₀ :: suite) (ts a cls d)) (r : HdsA X hds l) :
      HdsA X (.ExceptHandler (some (.Name x np)) none (b₀ :: suite) pos' :: hds) ((c, none, ts) :: l)
  | consA {x n : Str} {i : Nat} {c : Value} {ts : Addr → Value → Option Addr → TS} {b₀ : Stmt} {suite : List Stmt} {np pos' : Pos} {hds : List ExceptHandler} {l : List (Value × Option Nat × (Addr → Value → Option Addr → TS))} (hc : Names X x c)
      (hi : X.N[i]? = some n) (hln : X.env.kindOf n = some .local)
      (hsu : ∀ (a : Addr) (oe : Obj) (cls : Value) (d : Option Addr) (pn : List (Addr × Obj)), Zc cls d oe → (∃ vs, oe.data = .fields vs) → PSs (X.suite a ((a, oe) :: pn)) (b₀ :: suite) (ts a cls d)) (r : HdsA X hds l) :
      HdsA X (.ExceptHandler (some (.Name x np)) (some n) (b₀ :: suite) pos' :: hds) ((c, some i, ts) :: l)
section
variable {X : Cx} {body : List Stmt} {h₀ : ExceptHandler} {hds : List ExceptHandler} {l : List (Value × Option Nat × (Addr → Value → Option Addr → TS))} {pos : Pos} {tb : WX → TS} {Wout : WX}
theorem ps_try_manyA (hs : X.stack = X.env :: X.outer) (hf : X.env.frame = some X.env.locals) (hN : X.N.Nodup) (tk : Takes X Wout)
    (hb : ∀ (W : WX) (pn : List (Addr × Obj)) (xe : Value → Shared → Prop), Takes (X.tr pn xe) W → PassesOwn (model X.prog X.w) X.A X.env xe → PSs (X.tr pn xe) body (tb W))
    (hh : HdsA X (h₀ :: hds) l) : PS X (.Try body (h₀ :: hds) [] [] pos) (fun D σ H => tb (wManyA X.K Wout D l) D σ H) := by
  refine ⟨fun pins s σ H D I h => ?_⟩
  have ok := I.ok
  have hfr : X.A.frames = some (X.env :: X.outer) := by rw [ok.frames, hs]
  refine wpAny_Try_except ?_
  refine wpAny_mono ((hb (wManyA X.K Wout D l) (X.pn ++ pins) (fun e s₁ => wpAny (model X.prog X.w) X.A (noteFrame e X.env) (fun _ s₂ => wpAny (model X.prog X.w) X.A (setFlight e none) (fun _ s₃ =>
    wpAny (model X.prog X.w) X.A (handleBy e X.env (h₀ :: hds)) (SP X pins D) X.xe s₃) X.xe s₂) X.xe s₁) (fun u s' xx => ?_) PassesOwn.looking).run [] s σ H D (I.toTry _) h) (fun f s1 hsp => ?_) (fun e s1 he => he)
  · -- the catch
    obtain ⟨a, B, sI, pins', σ', H', cls, d, rfl, J', nb, up, sky, na, os, ag, w⟩ := xx
    have J : Inv X pins σ' H' sI := J'.ofTry ok
    have sky' : Sky B (X.env :: X.outer) a (Zc cls d) X.env.locals s'.heap := by rw [← hs]; exact sky
    show wpAny (model X.prog X.w) X.A (noteFrame (.ref a) X.env) _ _ _
    refine Sky.land Zc.steady hfr hf sky' fun h3 fl3 up3 => ?_
    have J3 : Inv X pins σ' H' { s' with heap := h3 } := J.landed nb fl3.1 (up.trans up3) os ag
    obtain ⟨oe3, vs3, he3, hz3, hd3⟩ := fl3.there
    have notFr : ∀ {h : Heap} {o : Obj} {vs : Array Value}, h.FunFrames B (X.env :: X.outer) → h.get? a = some o → o.data = .fields vs → a ∉ frs (X.env :: X.outer) := fun {h o vs} ff e dd hm => by
      obtain ⟨_, o', e', hnf⟩ := ff.mem hm
      rw [e] at e'; cases e'
      exact hnf _ dd
    have nfr := notFr fl3.2.2.1 he3 hd3
    have nL : a ≠ X.env.locals := fun z => nfr (List.mem_filterMap.mpr ⟨X.env, List.mem_cons_self, by rw [hf, z]⟩)
    have nF : a ∉ X.fs := fun hm => by
      obtain ⟨e, he, q⟩ := List.mem_filterMap.mp hm
      exact nfr (List.mem_filterMap.mpr ⟨e, List.mem_cons_of_mem _ he, q⟩)
    have S3 := J3.suite he3 hd3 na nL nF
    have go : ∀ {hds' : List ExceptHandler} {l' : List (Value × Option Nat × (Addr → Value → Option Addr → TS))}, HdsA X hds' l' → wManyA X.K Wout D l' cls d σ' H' →
        wpAny (model X.prog X.w) X.A (handleBy (.ref a) X.env hds') (SP X pins D) X.xe { s' with heap := h3 } := by
      intro hds' l' hk
      induction hk with
      | nil =>
        intro w
        refine wpAny_handleBy_nil ?_
        obtain ⟨k1, k2, k3, oe, vs, T, oT, ts', he, hz, hd, h1, hr⟩ := id fl3
        unfold PySem.passOn
        refine wpAny_bind (wpAny_field he hd h1 ?_)
        rw [if_neg (show ¬ ((Value.ref T == Value.none) = true) from by simp)]
        have fin : wpAny (model X.prog X.w) X.A (setFlight (.ref a) X.env.frame) (fun _ s4 => wpAny (model X.prog X.w) X.A (throw (.ref a) : Sem Flow) (SP X pins D) X.xe s4) X.xe { s' with heap := h3 } := by
          rw [hf]
          refine HandSPX.setFlight_upZ fl3 fun h4 hh4 up4 => wpAny_throw (tk _ _ ?_)
          exact ⟨a, B, sI, pins, σ', H', cls, d, rfl, J, nb, (up.trans up3).trans up4, .inr (.inr (by rw [hs]; exact hh4)), na, os, ag, w⟩
        first
          | exact wpAny_bind (wpAny_pure (wpAny_bind fin))
          | exact wpAny_bind fin
      | @cons x c ts b₀ suite np pos' hds2 l2 hc hsu r ih =>
        intro w
        obtain ⟨b, hb1, hyes, hno⟩ := w
        refine wpAny_handleBy_cons (codeAny_handlers_test ?_) (by intro q; cases q)
        have LT : PySem.W.Looks (model X.prog X.w) h3 (typeOf (.ref a)) cls := fun A Q E s k q => wpAny_typeOf_ref (k _ _ he3) (by rw [hz3.1]; exact q)
        have LM := PySem.W.exm_one (M := model X.prog X.w) (J3.kIn) LT hb1
        have test : ∀ {Q : Value → Shared → Prop} {E : Value → Shared → Prop}, Q c { s' with heap := h3 } → wpAny (model X.prog X.w) (X.A.mark (some (.ref a))) (eval (.Name x np) X.env) Q E { s' with heap := h3 } := fun {Q E} q => by
          obtain ⟨hg, hdbg, hm | ⟨hm, hv, hnn⟩⟩ := hc
          · exact ld_glob (X := X.suite a ((a, oe3) :: (X.pn ++ pins))) S3 hg hm q hdbg
          · exact ld_blt (X := X.suite a ((a, oe3) :: (X.pn ++ pins))) S3 hg hm hv q hnn hdbg
        refine test (LM.here ?_)
        cases b with
        | true =>
          refine codeAny_handlers_suite ?_
          refine HandSPX.lands_againZ fl3 fun h4 fl4 up4 => ?_
          have J4 : Inv X pins σ' H' { s' with heap := h4 } := J.landed nb fl4.1 ((up.trans up3).trans up4) os ag
          obtain ⟨oe4, vs4, he4, hz4, hd4⟩ := fl4.there
          have S4 := J4.suite he4 hd4 na nL nF
          refine wpAny_mono ((hsu a oe4 cls d (X.pn ++ pins) hz4 ⟨_, hd4⟩).run [] _ _ H' _ S4 (hyes rfl a na)) (fun f s6 hsp => ?_) (fun _ _ z => False.elim z)
          cases f with
          | next =>
            obtain ⟨σ6, H6, S6, q6⟩ := hsp
            exact ⟨_, _, S6.unsuite ok, q6⟩
          | brk =>
            obtain ⟨σ6, H6, S6, q6⟩ := hsp
            exact ⟨_, _, S6.unsuite ok, q6⟩
          | cont =>
            obtain ⟨σ6, H6, S6, q6⟩ := hsp
            exact ⟨_, _, S6.unsuite ok, q6⟩
          | ret u =>
            obtain ⟨v6, σ6, H6, S6, r6, q6⟩ := hsp
            exact ⟨_, _, _, S6.unsuite ok, r6, q6⟩
        | false =>
          show wpAny _ X.A (handleBy (.ref a) X.env hds2) _ _ _
          exact ih (hno rfl)
      | @consA x n i c ts b₀ suite np pos' hds2 l2 hc hi hln hsu r ih =>
        intro w
        have hloc : Loc X.env.scope n := .inl hln
        obtain ⟨b, hb1, hyes, hno⟩ := w
        refine wpAny_handleBy_cons (codeAny_handlers_test ?_) (by intro q; cases q)
        have LT : PySem.W.Looks (model X.prog X.w) h3 (typeOf (.ref a)) cls := fun A Q E s k q => wpAny_typeOf_ref (k _ _ he3) (by rw [hz3.1]; exact q)
        have LM := PySem.W.exm_one (M := model X.prog X.w) (J3.kIn) LT hb1
        have test : ∀ {Q : Value → Shared → Prop} {E : Value → Shared → Prop}, Q c { s' with heap := h3 } → wpAny (model X.prog X.w) (X.A.mark (some (.ref a))) (eval (.Name x np) X.env) Q E { s' with heap := h3 } := fun {Q E} q => by
          obtain ⟨hg, hdbg, hm | ⟨hm, hv, hnn⟩⟩ := hc
          · exact ld_glob (X := X.suite a ((a, oe3) :: (X.pn ++ pins))) S3 hg hm q hdbg
          · exact ld_blt (X := X.suite a ((a, oe3) :: (X.pn ++ pins))) S3 hg hm hv q hnn hdbg
        refine test (LM.here ?_)
        cases b with
        | true =>
          refine codeAny_handlers_suite_as ?_
          refine HandSPX.lands_againZ fl3 fun h4 fl4 up4 => ?_
          have J4 : Inv X pins σ' H' { s' with heap := h4 } := J.landed nb fl4.1 ((up.trans up3).trans up4) os ag
          obtain ⟨oe4, vs4, he4, hz4, hd4⟩ := fl4.there
          have S4 := J4.suite he4 hd4 na nL nF
          refine store_ok (X := X.suite a ((a, oe4) :: (X.pn ++ pins))) (v := .ref a) S4 hN hi hloc rfl (fun s5 S5 => ?_) (.inr hln)
          refine wpAny_mono ((hsu a oe4 cls d (X.pn ++ pins) hz4 ⟨_, hd4⟩).run [] s5 _ H' _ S5 (hyes rfl a na)) (fun f s6 hsp => ?_) (fun _ _ z => False.elim z)
          have end_ : ∀ {σ6 : St} {H6 : Hp} {Q : Shared → Prop}, Inv (X.suite a ((a, oe4) :: (X.pn ++ pins))) [] σ6 H6 s6 → (∀ s7, Inv X pins (σ6.set i none) H6 s7 → Q s7) →
              wpAny (model X.prog X.w) X.A (do bindName X.env n .none; unbindBehindTheSuite X.env n pos') (fun _ s7 => Q s7) X.xe s6 := fun {σ6 H6 Q} S6 hq => gone_ok (S6.unsuite ok) hN hi hln hq
          cases f with
          | next =>
            obtain ⟨σ6, H6, S6, q6⟩ := hsp
            exact end_ S6 fun s7 J7 => ⟨_, _, J7, q6⟩
          | brk =>
            obtain ⟨σ6, H6, S6, q6⟩ := hsp
            exact end_ S6 fun s7 J7 => ⟨_, _, J7, q6⟩
          | cont =>
            obtain ⟨σ6, H6, S6, q6⟩ := hsp
            exact end_ S6 fun s7 J7 => ⟨_, _, J7, q6⟩
          | ret u =>
            obtain ⟨v6, σ6, H6, S6, r6, q6⟩ := hsp
            exact end_ S6 fun s7 J7 => ⟨_, _, _, J7, r6, q6⟩
        | false =>
          show wpAny _ X.A (handleBy (.ref a) X.env hds2) _ _ _
          exact ih (hno rfl)
    exact go hh w
  · cases f with
    | next =>
      obtain ⟨σ', H', J', q⟩ := hsp
      exact wpAny_execs_nil ⟨σ', H', J'.ofTry ok, q⟩
    | brk =>
      obtain ⟨σ', H', J', q⟩ := hsp
      exact ⟨σ', H', J'.ofTry ok, q⟩
    | cont =>
      obtain ⟨σ', H', J', q⟩ := hsp
      exact ⟨σ', H', J'.ofTry ok, q⟩
    | ret u =>
      obtain ⟨v, σ', H', J', r, q⟩ := hsp
      exact ⟨v, σ', H', J'.ofTry ok, r, q⟩
end
end L2
/-! VS: try. -/
namespace VS
open PySem PySem.Spec PyProof.Rows L2
/-- a class by its name -/
def ClsAt (mg : Str → Option Value) (h : Str) (hv : Value) : Prop := mg h = some hv ∨ (mg h = none ∧ bootBuiltins h = some hv)
/-- who is whose subclass -/
abbrev Subs := Str → Str → Option Bool
structure XF (K : PySem.W.Frag) (mg : Str → Option Value) (subs : Subs) : Prop where
  cls : ∀ c h b, subs c h = some b → ∃ D, mg c = some (.ref D) ∧ ExcC K D ∧ ∀ hv, ClsAt mg h hv → PySem.W.exmOne K (.ref D) hv = some b ∧ PySem.W.kitOne K (.ref D) hv = some b
abbrev Hd := Str × Option Nat × (Exn → SM)
def Sr.nox : Sr → Sr
  | .exc _ _ => .bad
  | r => r
def Sr.dropE (i : Nat) : Sr → Sr
  | .nx e => .nx (e.set i none)
  | .rt d e => .rt d (e.set i none)
  | .bk e => .bk (e.set i none)
  | .ct e => .ct (e.set i none)
  | .exc _ _ => .bad
  | .bad => .bad
def hdl1 (oi : Option Nat) (m : Exn → SM) (x : Exn) (e : En) : Sr := match oi with
  | none => (m x e).nox
  | some i => if pureF x.fs = true ∧ i < e.length then (m x (e.set i none)).dropE i else .bad
def hdl (subs : Subs) : List Hd → Exn → SM
  | [], x, e => .exc x e
  | (c, oi, m) :: r, x, e => match subs x.c c with
    | some true => hdl1 oi m x e
    | some false => hdl subs r x e
    | none => .bad
def tryK (subs : Subs) (hs : List Hd) (r : Sr) : Sr := match r with
  | .exc x e => hdl subs hs x e
  | r => r
def sTry (subs : Subs) (body : SM) (hs : List Hd) : SM := fun env => tryK subs hs (body env)
abbrev WF : WX := fun _ _ _ _ => False
section
variable {X : Cx} {μ : List Md} {W : WX} {rmd : Md}
/-- a clause -/
inductive HdV (X : Cx) (μ : List Md) (rmd : Md) : ExceptHandler → Hd → Prop
  | plain {x : Str} {c : Value} {b₀ : Stmt} {suite : List Stmt} {np pos' : Pos} {m : Exn → SM} (hc : Names X x c)
      (hsu : ∀ (a : Addr) (oe : Obj) (D : Addr) (d : Option Addr) (pn : List (Addr × Obj)) (y : Exn), Zc (.ref D) d oe → (∃ vs, oe.data = .fields vs) → X.mg y.c = some (.ref D) → PSsV (X.suite a ((a, oe) :: pn)) none μ WF rmd (b₀ :: suite) (m y)) :
      HdV X μ rmd (.ExceptHandler (some (.Name x np)) none (b₀ :: suite) pos') (x, none, m)
  | named {x n : Str} {i : Nat} {c : Value} {b₀ : Stmt} {suite : List Stmt} {np pos' : Pos} {m : Exn → SM} (hc : Names X x c) (hi : X.N[i]? = some n) (hln : X.env.kindOf n = some .local) (hfix : (mdAt μ i).fix = false)
      (hsu : ∀ (a : Addr) (oe : Obj) (D : Addr) (d : Option Addr) (pn : List (Addr × Obj)) (y : Exn), Zc (.ref D) d oe → (∃ vs, oe.data = .fields vs) → X.mg y.c = some (.ref D) → (y.fs = [] → d = none) → PSsV (X.suite a ((a, oe) :: pn)) (some ⟨i, a, d, y.fs⟩) μ WF rmd (b₀ :: suite) (m y)) :
      HdV X μ rmd (.ExceptHandler (some (.Name x np)) (some n) (b₀ :: suite) pos') (x, some i, m)
inductive HdsV (X : Cx) (μ : List Md) (rmd : Md) : List ExceptHandler → List Hd → Prop
  | nil : HdsV X μ rmd [] []
  | cons {h : ExceptHandler} {hs : List ExceptHandler} {m : Hd} {ms : List Hd} (h1 : HdV X μ rmd h m) (h2 : HdsV X μ rmd hs ms) : HdsV X μ rmd (h :: hs) (m :: ms)
def tsOf (X : Cx) (μ : List Md) (rmd : Md) (m : Exn → SM) (xi : Option Nat) (a : Addr) (cls : Value) (d : Option Addr) : TS := fun E σ H =>
  ∃ (y : Exn) (D : Addr), cls = .ref D ∧ X.mg y.c = some (.ref D) ∧ (xi ≠ none → y.fs = [] → d = none) ∧ tS (gx X (xi.map fun i => ⟨i, a, d, y.fs⟩)) μ WF rmd (m y) E σ H
def lOf (X : Cx) (μ : List Md) (rmd : Md) (cv : Str → Value) (hs : List Hd) : List (Value × Option Nat × (Addr → Value → Option Addr → TS)) := hs.map fun h => (cv h.1, h.2.1, tsOf X μ rmd h.2.2 h.2.1)
theorem hdsA_of {cv : Str → Value} : ∀ {hs : List ExceptHandler} {ms : List Hd}, HdsV X μ rmd hs ms → (∀ h ∈ ms, ∀ c, Names X h.1 c → cv h.1 = c) → HdsA X hs (lOf X μ rmd cv ms)
  | _, _, .nil, _ => .nil
  | _, _, .cons h1 h2, hcv => by
    have ih := hdsA_of h2 fun h hh => hcv h (List.mem_cons_of_mem _ hh)
    cases h1 with
    | @plain x c b₀ suite np pos' m hc hsu =>
      have e : cv x = c := hcv _ List.mem_cons_self c hc
      refine HdsA.cons (by rw [e]; exact hc) (fun a oe cls d pn hz hd => ⟨fun pins s σ H D I ⟨y, Dc, ec, hm, hdn, t⟩ => ?_⟩) ih
      subst ec
      exact (hsu a oe Dc d pn y hz hd hm).ps.run pins s σ H D I t
    | @named x n i c b₀ suite np pos' m hc hi hln hfix hsu =>
      have e : cv x = c := hcv _ List.mem_cons_self c hc
      refine HdsA.consA (by rw [e]; exact hc) hi hln (fun a oe cls d pn hz hd => ⟨fun pins s σ H D I ⟨y, Dc, ec, hm, hdn, t⟩ => ?_⟩) ih
      subst ec
      exact (hsu a oe Dc d pn y hz hd hm (hdn (by simp))).ps.run pins s σ H D I t
theorem Names.at {x : Str} {c : Value} (h : Names X x c) : ClsAt X.mg x c := h.2.2.imp (fun z => z) fun z => ⟨z.1, z.2.1⟩
theorem Names.uniq {x : Str} {c c' : Value} (h : Names X x c) (h' : Names X x c') : c = c' := by
  rcases h.2.2 with h | h <;> rcases h'.2.2 with h' | h'
  · rw [h] at h'; cases h'; rfl
  · rw [h'.1] at h; cases h
  · rw [h.1] at h'; cases h'
  · rw [h.2.1] at h'; cases h'.2.1; rfl
/-- out of a suite: the name goes -/
theorem Rep.outX {K : PySem.W.Frag} {mg : Str → Option Value} {xi : Option XI} {env : En} {σ : L2.St} {H : Hp} {N : Nat → List Addr} {i : Nat} (R : Rep ⟨K, mg, xi⟩ μ env σ H N) (o : Option V) : Rep ⟨K, mg, none⟩ μ (env.set i none) (σ.set i o) H (updN N i []) := by
  have R0 : Rep ⟨K, mg, none⟩ μ env σ H N := ⟨R.len, fun j d e => by
    obtain ⟨v, h1, h2⟩ := R.rep j d e
    exact ⟨v, h1, h2.xv⟩, R.emp, R.uq, fun x h => by cases h⟩
  exact R0.drop fun x h => by cases h
theorem dropStp {i : Nat} {env env' : En} {N N' : Nat → List Addr} {H H' : Hp} {ro : Bool} (S : Stp μ ro env H N env' H' N') (hf : (mdAt μ i).fix = false) : Stp μ false env H N (env'.set i none) H' (updN N' i []) :=
  S.set (by cases z : mdAt μ i <;> simp [z, Md.fix] at hf <;> rfl) (fun a ha => by cases ha) (fun d a e => by cases e) fun d a e => by cases e
theorem dropFx {i : Nat} {σ σ' : L2.St} {o : Option V} (F : Fx μ σ σ') (hf : (mdAt μ i).fix = false) : Fx μ σ (σ'.set i o) := fun j hj => by
  rw [List.getElem?_set_ne fun z => by rw [z, hj] at hf; cases hf]
  exact F j hj
theorem own_drop {i : Nat} {env : En} {N : Nat → List Addr} {a : Addr} (w : ownS μ (env.set i none) (updN N i []) a) : ownS μ env N a := by
  obtain ⟨j, d, e, o⟩ := w
  rcases get_set e with ⟨rfl, e1⟩ | ⟨ne, e1⟩
  · cases e1
  · rw [updN_ne ne] at o
    exact ⟨j, d, e1, o⟩
theorem all_drop {i : Nat} {N : Nat → List Addr} {a : Addr} (w : allS (updN N i []) a) : allS N a := by
  obtain ⟨j, w⟩ := w
  rcases mem_updN w with ⟨_, w⟩ | ⟨_, w⟩
  · cases w
  · exact ⟨j, w⟩
theorem nox_core {G G' : Gt} {env : En} {N : Nat → List Addr} {σ : L2.St} {H : Hp} {E : Ends} {r : Sr} (hG : G' = G) (q : SQ G μ W rmd env N σ H E r.nox) : SQ G' μ WF rmd env N σ H E r := by
  subst hG
  cases r <;> first | exact q | exact q.elim
theorem try_core {subs : Subs} (F : XF X.K X.mg subs) {cv : Str → Value} {E : Ends} {env0 : En} {N0 : Nat → List Addr} {σ0 : L2.St} {H0 : Hp} {x : Exn} {e : En} {cls : Value} {dx : Option Addr} {σ' : L2.St} {H' : Hp} {N' : Nat → List Addr} {n : List Addr}
    (R : Rep (gx X none) μ e σ' H' N') (S : Stp μ false env0 H0 N0 e H' N') (Fx1 : Fx μ σ0 σ') (ex : ExR (gx X none) H' x cls dx n) (hn : ∀ a ∈ n, ¬ ownS μ e N' a) (hsub : ∀ a ∈ n, allS N0 a ∨ H0 a = none) :
    ∀ {hs : List ExceptHandler} {ms : List Hd}, HdsV X μ rmd hs ms → (∀ h ∈ ms, ClsAt X.mg h.1 (cv h.1)) → SQ (gx X none) μ W rmd env0 N0 σ0 H0 E (hdl subs ms x e) → wManyA X.K W E (lOf X μ rmd cv ms) cls dx σ' H'
  | _, _, .nil, _, q => q cls dx σ' H' N' n R S Fx1 ex hn hsub
  | _, _, .cons h1 h2, hcv, q => by
    obtain ⟨C, c1, c2, c3⟩ := id ex
    cases h1 with
    | @plain xn c b₀ suite np pos' m hc hsu =>
      simp only [hdl] at q
      cases es : subs x.c xn with
      | none => rw [es] at q; exact q.elim
      | some b =>
        obtain ⟨D, d1, d2, d3⟩ := F.cls _ _ _ es
        have : D = C := by
          have := c1.symm.trans d1
          cases this; rfl
        subst this
        obtain ⟨d4, _⟩ := d3 (cv xn) (hcv _ List.mem_cons_self)
        refine ⟨b, by rw [c2]; exact d4, fun hb a na => ?_, fun hb => ?_⟩
        · subst hb
          rw [es] at q
          refine ⟨x, D, c2, c1, fun z => absurd rfl z, e, N', R, ?_⟩
          exact nox_core rfl (SQ.pre S Fx1 q)
        · subst hb
          rw [es] at q
          exact try_core F R S Fx1 ex hn hsub h2 (fun h hh => hcv h (List.mem_cons_of_mem _ hh)) q
    | @named xn nn i c b₀ suite np pos' m hc hi hln hfix hsu =>
      simp only [hdl] at q
      cases es : subs x.c xn with
      | none => rw [es] at q; exact q.elim
      | some b =>
        obtain ⟨D, d1, d2, d3⟩ := F.cls _ _ _ es
        have : D = C := by
          have := c1.symm.trans d1
          cases this; rfl
        subst this
        obtain ⟨d4, _⟩ := d3 (cv xn) (hcv _ List.mem_cons_self)
        refine ⟨b, by rw [c2]; exact d4, fun hb a na => ?_, fun hb => ?_⟩
        · subst hb
          rw [es] at q
          simp only [hdl1] at q
          split at q
          · rename_i hpl
            have hn0 : n = [] := by
              rcases c3 with c3 | ⟨_, ws, _, _, _, c3⟩
              · exact c3.2.1
              · exact c3.pure hpl.1
            subst hn0
            have hil : i < σ'.length := by rw [← R.len]; exact hpl.2
            have Rd := R.outX (i := i) (some (.ref a))
            have Rx : Rep (gx X (some ⟨i, a, dx, x.fs⟩)) μ (e.set i none) (σ'.set i (some (.ref a))) H' (updN N' i []) := by
              refine ⟨Rd.len, fun j d ee => ?_, Rd.emp, Rd.uq, fun y hy => ?_⟩
              · obtain ⟨v, h1, h2⟩ := Rd.rep j d ee
                exact ⟨v, h1, h2.xv⟩
              · cases hy
                refine ⟨List.getElem?_set_self hil, ?_⟩
                rcases c3 with c3 | ⟨dd, ws, _, g1, g2, g3⟩
                · exact .inl c3.1
                · exact .inr ⟨dd, ws, g1, g2, g3.xv⟩
            have Sd := dropStp (i := i) S hfix
            have Fd := dropFx (i := i) (o := some (.ref a)) Fx1 hfix
            have hnd : x.fs = [] → dx = none := fun z => by
              rcases c3 with c3 | ⟨_, ws, g0, _⟩
              · exact c3.2.2
              · exact absurd z g0
            refine ⟨x, D, c2, c1, fun _ => hnd, e.set i none, updN N' i [], Rx, ?_⟩
            have go : ∀ {e3 : En} {σ3 : L2.St} {H3 : Hp} {N3 : Nat → List Addr}, Rep (gx X (some ⟨i, a, dx, x.fs⟩)) μ e3 σ3 H3 N3 → Stp μ false (e.set i none) H' (updN N' i []) e3 H3 N3 → Fx μ (σ'.set i (some (.ref a))) σ3 →
                Rep (gx X none) μ (e3.set i none) (σ3.set i none) H3 (updN N3 i []) ∧ Stp μ false env0 H0 N0 (e3.set i none) H3 (updN N3 i []) ∧ Fx μ σ0 (σ3.set i none) := fun {e3 σ3 H3 N3} R3 S3 F3 =>
              ⟨R3.outX none, dropStp (Stp.trans (r1 := false) (r2 := false) Sd S3) hfix, dropFx (Fd.trans F3) hfix⟩
            show SQ (gx X (some ⟨i, a, dx, x.fs⟩)) μ WF rmd (e.set i none) (updN N' i []) (σ'.set i (some (.ref a))) H' (endA E (some i)) (m x (e.set i none))
            cases em : m x (e.set i none) with
            | nx e3 => rw [em] at q; exact fun σ3 H3 N3 R3 S3 F3 => let ⟨g1, g2, g3⟩ := go R3 S3 F3; q _ _ _ g1 g2 g3
            | bk e3 => rw [em] at q; exact fun σ3 H3 N3 R3 S3 F3 => let ⟨g1, g2, g3⟩ := go R3 S3 F3; q _ _ _ g1 g2 g3
            | ct e3 => rw [em] at q; exact fun σ3 H3 N3 R3 S3 F3 => let ⟨g1, g2, g3⟩ := go R3 S3 F3; q _ _ _ g1 g2 g3
            | rt d3 e3 =>
              rw [em] at q
              exact fun v σ3 H3 N3 n3 R3 S3 F3 r3 V3 => let ⟨g1, g2, g3⟩ := go R3 S3 F3; q v _ _ _ n3 g1 g2 g3 r3.xv
                ⟨fun b hb => (V3.sub b hb).elim (Sd.all b) fun z => .inr (Sd.dom b z), fun z b hb w => V3.nown z b hb (own_drop w), fun b o => ⟨(V3.uq b o).1, fun w => (V3.uq b o).2 (all_drop w)⟩, fun b o => (V3.osub b o).elim (Sd.wr b) fun z => .inr (Sd.dom b z)⟩
            | exc x3 e3 => rw [em] at q; exact q.elim
            | bad => rw [em] at q; exact q.elim
          · exact q.elim
        · subst hb
          rw [es] at q
          exact try_core F R S Fx1 ex hn hsub h2 (fun h hh => hcv h (List.mem_cons_of_mem _ hh)) q
theorem s_try {subs : Subs} {body : List Stmt} {h₀ : ExceptHandler} {hds : List ExceptHandler} {pos : Pos} {mb : SM} {ms : List Hd} (hs : X.stack = X.env :: X.outer) (hf : X.env.frame = some X.env.locals) (hN : X.N.Nodup) (tk : Takes X W) (F : XF X.K X.mg subs)
    (hb : ∀ (W : WX) (pn : List (Addr × Obj)) (xe : Value → Shared → Prop), Takes (X.tr pn xe) W → PassesOwn (model X.prog X.w) X.A X.env xe → PSsV (X.tr pn xe) none μ W rmd body mb)
    (hh : HdsV X μ rmd (h₀ :: hds) ms) : PSV X none μ W rmd (.Try body (h₀ :: hds) [] [] pos) (sTry subs mb ms) := by
  -- the clauses' classes by their names
  have hex : ∃ cv : Str → Value, (∀ h ∈ ms, ∀ c, Names X h.1 c → cv h.1 = c) ∧ ∀ h ∈ ms, ClsAt X.mg h.1 (cv h.1) := by
    refine ⟨fun x => ((X.mg x).or (bootBuiltins x)).getD .none, fun h _ c hc => ?_, fun h hm => ?_⟩
    · show ((X.mg h.1).or (bootBuiltins h.1)).getD .none = c
      rcases hc.2.2 with z | z
      · rw [z]; rfl
      · rw [z.1, z.2.1]; rfl
    · have : ∃ c, Names X h.1 c := by
        clear hb
        generalize h₀ :: hds = hl at hh
        induction hh with
        | nil => cases hm
        | cons h1 h2 ih =>
          rcases List.mem_cons.mp hm with rfl | hm
          · cases h1 with
            | plain hc _ => exact ⟨_, hc⟩
            | named hc _ _ _ _ => exact ⟨_, hc⟩
          · exact ih hm
      obtain ⟨c, hc⟩ := this
      rcases hc.2.2 with z | z
      · exact .inl (by show X.mg h.1 = some (((X.mg h.1).or (bootBuiltins h.1)).getD .none); rw [z]; rfl)
      · exact .inr ⟨z.1, by show bootBuiltins h.1 = some (((X.mg h.1).or (bootBuiltins h.1)).getD .none); rw [z.1, z.2.1]; rfl⟩
  obtain ⟨cv, hc1, hc2⟩ := hex
  refine ⟨PS.imp (ps_try_manyA (tb := fun W => tS (gx X none) μ W rmd mb) hs hf hN tk (fun W pn xe t p => (hb W pn xe t p).ps) (hdsA_of hh hc1)) fun E σ H ⟨env, N, R0, q⟩ => ⟨env, N, R0, ?_⟩⟩
  unfold sTry at q
  cases e1 : mb env with
  | exc x e => rw [e1] at q; exact fun cls dx σ' H' N' n R S Fx1 ex hn hsub => try_core F R S Fx1 ex hn hsub hh hc2 q
  | nx e => rw [e1] at q; exact q
  | rt d e => rw [e1] at q; exact q
  | bk e => rw [e1] at q; exact q
  | ct e => rw [e1] at q; exact q
  | bad => rw [e1] at q; exact q
/-! ### in a suite: isinstance(e, C) -/
def mIsE (subs : Subs) (y : Exn) (h : Str) : EM := fun env => match y.fs, subs y.c h with
  | [], some b => .ok (.bl b) env
  | _, _ => .bad
theorem v_isE {subs : Subs} {a : Addr} {oe : Obj} {D : Addr} {dx : Option Addr} {pn : List (Addr × Obj)} {y : Exn} {i : Nat} {n h : Str} {p p1 p2 pos : Pos} {md : Md} {ct : V} {hv : Value} (F : XF X.K X.mg subs) (hz : Zc (.ref D) dx oe) (hd : ∃ vs, oe.data = .fields vs) (hm : X.mg y.c = some (.ref D)) (hnd : y.fs = [] → dx = none)
    (hi : PE (X.suite a ((a, oe) :: pn)) (.Name n p1) (tVar i)) (hh : PE (X.suite a ((a, oe) :: pn)) (.Name h p2) (tC ct)) (hr : ∀ u, RelV ct u → u = hv) (hc : ClsAt X.mg h hv) (hg : Gl (X.suite a ((a, oe) :: pn)) "isinstance") (hm2 : X.mg "isinstance" = none) :
    PEV (X.suite a ((a, oe) :: pn)) (some ⟨i, a, dx, y.fs⟩) μ WF (.Call (.Name "isinstance" p) [.Name n p1, .Name h p2] [] pos) true md (mIsE subs y h) := by
  refine ⟨?_, fun _ env d e' k => ?_⟩
  · by_cases hs : y.fs = [] ∧ ∃ b, subs y.c h = some b
    · obtain ⟨hf, b, es⟩ := hs
      obtain ⟨D', d1, d2, d3⟩ := F.cls _ _ _ es
      have : D' = D := by
        have := d1.symm.trans hm
        cases this; rfl
      subst this
      have := hnd hf
      subst this
      obtain ⟨_, d4⟩ := d3 hv hc
      refine PE.imp (pe_callB (call_isE (X := X) (a := a) (pn := pn) d2 hz hd) hg hm2 PyProof.Rows.boot_isinstance (pa_cons hi (pa_cons hh pa_nil))) fun σ H Q ⟨env, N, R, q⟩ => ?_
      have hq : mIsE subs y h env = .ok (.bl b) env := by unfold mIsE; rw [hf, es]
      rw [hq] at q
      obtain ⟨g1, _⟩ := R.ex _ rfl
      exact ⟨.ref a, g1, ct, hv, b, rfl, hr, d4, q (.bl b) H N [] R .refl (by simp [Rp]) .nil⟩
    · refine ⟨fun pins s σ H Q I ⟨env, N, R, q⟩ => ?_⟩
      unfold mIsE at q
      split at q
      · rename_i b e1 es
        exact absurd ⟨e1, b, es⟩ hs
      · exact q.elim
  · unfold mIsE at k
    split at k
    · cases k; rfl
    · cases k
end
end VS
/-! VS: list comprehensions. -/
namespace VS
open PySem PySem.Spec PyProof.Rows L2
def dropV (e : En) : List Nat → En
  | [] => e
  | v :: vs => (dropV e vs).set v none
def dropN (N : Nat → List Addr) : List Nat → Nat → List Addr
  | [] => N
  | v :: vs => updN (dropN N vs) v []
theorem dropV_len {e : En} : ∀ {vs : List Nat}, (dropV e vs).length = e.length
  | [] => rfl
  | v :: vs => by unfold dropV; rw [List.length_set, dropV_len]
theorem dropV_some {e : En} {j : Nat} {d : D} : ∀ {vs : List Nat}, (dropV e vs)[j]? = some (some d) → e[j]? = some (some d) ∧ j ∉ vs
  | [], h => ⟨h, by simp⟩
  | v :: vs, h => by
    unfold dropV at h
    rcases get_set h with ⟨rfl, h1⟩ | ⟨ne, h1⟩
    · cases h1
    · obtain ⟨h2, h3⟩ := dropV_some h1
      exact ⟨h2, by simp [ne, h3]⟩
theorem dropV_keep {e : En} {j : Nat} : ∀ {vs : List Nat}, j ∉ vs → (dropV e vs)[j]? = e[j]?
  | [], _ => rfl
  | v :: vs, h => by
    unfold dropV
    simp only [List.mem_cons, not_or] at h
    rw [List.getElem?_set_ne (Ne.symm h.1)]
    exact dropV_keep h.2
theorem dropN_keep {N : Nat → List Addr} {j : Nat} : ∀ {vs : List Nat}, j ∉ vs → dropN N vs j = N j
  | [], _ => rfl
  | v :: vs, h => by
    simp only [List.mem_cons, not_or] at h
    show updN (dropN N vs) v [] j = N j
    rw [updN_ne h.1]
    exact dropN_keep h.2
theorem dropN_gone {N : Nat → List Addr} {j : Nat} : ∀ {vs : List Nat}, j ∈ vs → dropN N vs j = []
  | [], h => by cases h
  | v :: vs, h => by
    show updN (dropN N vs) v [] j = []
    by_cases e : j = v
    · rw [e, updN_same]
    · rw [updN_ne e]
      exact dropN_gone (by simpa [e] using h)
theorem dropN_mem {N : Nat → List Addr} {j : Nat} {a : Addr} {vs : List Nat} (h : a ∈ dropN N vs j) : a ∈ N j := by
  by_cases e : j ∈ vs
  · rw [dropN_gone e] at h; cases h
  · rw [dropN_keep e] at h; exact h
section
variable {G : Gt} {μ : List Md} {env env' : En} {σ σ' : L2.St} {H H' : Hp} {N N' : Nat → List Addr} {vs : List Nat}
/-- the slots vs forgotten; the others may stand in another row of values -/
theorem Rep.dropAll (R : Rep G μ env σ H N) (hx : G.xv = none) (hl : σ'.length = σ.length) (h : ∀ j, j ∉ vs → σ'[j]? = σ[j]?) : Rep G μ (dropV env vs) σ' H (dropN N vs) := by
  refine ⟨by rw [dropV_len, hl]; exact R.len, fun j d e => ?_, fun j e => ?_, fun j d a e o => ?_, fun x h => by rw [hx] at h; cases h⟩
  · obtain ⟨e1, hj⟩ := dropV_some e
    obtain ⟨v, h1, h2⟩ := R.rep j d e1
    rw [dropN_keep hj]
    exact ⟨v, (h j hj).trans h1, h2⟩
  · by_cases hj : j ∈ vs
    · exact dropN_gone hj
    · rw [dropN_keep hj]
      exact R.emp j fun d z => e d (by rw [dropV_keep hj]; exact z)
  · obtain ⟨e1, hj⟩ := dropV_some e
    rw [dropN_keep hj] at o ⊢
    exact ⟨(R.uq j d a e1 o).1, fun j' h' w => (R.uq j d a e1 o).2 j' h' (dropN_mem w)⟩
theorem own_dropV {a : Addr} (w : ownS μ (dropV env vs) (dropN N vs) a) : ownS μ env N a := by
  obtain ⟨j, d, e, o⟩ := w
  obtain ⟨e1, hj⟩ := dropV_some e
  rw [dropN_keep hj] at o
  exact ⟨j, d, e1, o⟩
theorem wr_dropV {a : Addr} (w : wrS μ (dropV env vs) (dropN N vs) a) : wrS μ env N a := by
  obtain ⟨j, d, e, o⟩ := w
  obtain ⟨e1, hj⟩ := dropV_some e
  rw [dropN_keep hj] at o
  exact ⟨j, d, e1, o⟩
theorem all_dropV {a : Addr} (w : allS (dropN N vs) a) : allS N a := let ⟨j, w⟩ := w; ⟨j, dropN_mem w⟩
theorem Stp.dropAll {ro : Bool} (S : Stp μ ro env H N env' H' N') (hv : ∀ v ∈ vs, (mdAt μ v).lock = false) : Stp μ false env H N (dropV env' vs) H' (dropN N' vs) where
  keep := S.keep
  dom := S.dom
  own := fun a w => S.own a (own_dropV w)
  wr := fun a w => S.wr a (wr_dropV w)
  all := fun a w => S.all a (all_dropV w)
  lock := fun j hj => by
    have : j ∉ vs := fun z => by rw [hv j z] at hj; cases hj
    rw [dropV_keep this, dropN_keep this]
    exact S.lock j hj
  ro := fun z => by cases z
end
theorem wipe_len (σ : L2.St) : ∀ vs : List Nat, (wipe σ vs).length = σ.length := wipe_length σ
theorem wipe_keep {σ : L2.St} {j : Nat} : ∀ {vs : List Nat}, j ∉ vs → (wipe σ vs)[j]? = σ[j]?
  | [], _ => rfl
  | v :: vs, h => by
    unfold wipe
    simp only [List.mem_cons, not_or] at h
    rw [List.getElem?_set_ne (Ne.symm h.1)]
    exact wipe_keep h.2
theorem wipe_gone {σ : L2.St} {j : Nat} : ∀ {vs : List Nat}, j ∈ vs → j < σ.length → (wipe σ vs)[j]? = some none
  | [], h, _ => by cases h
  | v :: vs, h, hl => by
    unfold wipe
    by_cases e : v = j
    · rw [e, List.getElem?_set_self (by rw [wipe_length]; exact hl)]
    · rw [List.getElem?_set_ne e]
      exact wipe_gone (by simpa [Ne.symm e] using h) hl
theorem wipe_eq {σ σ' : L2.St} {vs : List Nat} (hl : σ'.length = σ.length) (h : ∀ j, j ∉ vs → σ'[j]? = σ[j]?) : wipe σ' vs = wipe σ vs := by
  apply List.ext_getElem?
  intro j
  by_cases hj : j ∈ vs
  · by_cases hlt : j < σ.length
    · rw [wipe_gone hj hlt, wipe_gone hj (by rw [hl]; exact hlt)]
    · rw [List.getElem?_eq_none (by rw [wipe_length]; omega), List.getElem?_eq_none (by rw [wipe_length]; omega)]
  · rw [wipe_keep hj, wipe_keep hj]
    exact h j hj
/-! ### a clause's tests -/
structure PFV (X : Cx) (xv : XV) (μ : List Md) (W : WX) (ifs : List Expr) (t : BM) : Prop where
  pts : PTs X ifs (tB (gx X xv) μ W false t)
def bYes : BM := fun env => .ok true env
section
variable {X : Cx} {xv : XV} {μ : List Md} {W : WX} {ro : Bool} {t : BM} {c : Expr}
theorem f_none : PFV X xv μ W [] bYes := ⟨⟨fun pins s σ H Q I ⟨env, N, R, q⟩ => pts_nil.run pins s σ H Q I (q H N R .refl)⟩⟩
theorem f_one (h : PTV X xv μ W c ro t) : PFV X xv μ W [c] t := by
  refine ⟨⟨fun pins s σ H Q I ⟨env, N, R, q⟩ => (pts_one h.pt).run pins s σ H Q I ⟨env, N, R, ?_⟩⟩⟩
  cases e : t env with
  | ok b env' => rw [e] at q; exact fun H' N' R' S => q H' N' R' (S.mono (by simp))
  | exc x env' => rw [e] at q; exact q
  | bad => rw [e] at q; exact q
end
/-! ### [elt for target in iter if ..] -/
def lcM : Md → Md := fun md => if md = .d then .d else .r
def lc3 (k : List D → En → Rt D) (acc : List D) (y : D) (e : En) : Rt D := if acc.length < LIM then k (acc ++ [y]) e else .bad
def lc2 (m : EM) (k : List D → En → Rt D) (acc : List D) (b : Bool) (e : En) : Rt D := if b = true then (m e).bind (lc3 k acc) else k acc e
def lcT (t : BM) (m : EM) (k : List D → En → Rt D) (acc : List D) (o : Option En) : Rt D := match o with
  | some e => (t e).bind (lc2 m k acc)
  | none => .bad
def lcL (vs : List Nat) (f : D → En → Option En) (t : BM) (m : EM) : List D → List D → En → Rt D
  | [], acc, e => .ok (.lst acc) (dropV e vs)
  | d :: r, acc, e => lcT t m (lcL vs f t m r) acc (f d (dropV e vs))
/-- no exception leaves -/
def Rt.nox {α : Type} : Rt α → Rt α
  | .exc _ _ => .bad
  | r => r
def mLc2 (vs : List Nat) (f : D → En → Option En) (t : BM) (m : EM) (ds : List D) (e : En) : Rt D := (lcL vs f t m ds [] e).nox
def mLc (ms : AM) (vs : List Nat) (f : D → En → Option En) (t : BM) (m : EM) : EM := fun env => (ms env).bind (mLc2 vs f t m)
section
variable {X : Cx} {μ : List Md} {W : WX}
/-- between two turns; ni: the nodes of what is walked -/
structure LcS (G : Gt) (μ : List Md) (dp : Bool) (ni : List Addr) (env0 : En) (N0 : Nat → List Addr) (H0 : Hp) (L0 : Addr) (acc : List D) (σ : L2.St) (env : En) (N : Nat → List Addr) (H : Hp) (vs : List V) (nn : List Addr) : Prop where
  R : Rep G μ env σ H N
  S : Stp μ false env0 H0 N0 env H N
  hD : H L0 = some (.lst vs)
  rl : RpL G H acc vs nn
  nD : ¬ allS N L0
  n0 : H0 L0 = none
  nnD : L0 ∉ nn
  nown : ∀ a ∈ nn, ¬ ownS μ env N a
  sub : ∀ a ∈ nn, allS N0 a ∨ H0 a = none
  dq : dp = true → ∀ a ∈ nn, nn.count a = 1 ∧ ¬ allS N a ∧ a ∉ ni ∧ (wrS μ env0 N0 a ∨ H0 a = none)
/-- a step that leaves the list alone -/
theorem LcS.step {G : Gt} {dp : Bool} {ni : List Addr} {env0 env env' : En} {N0 N N' : Nat → List Addr} {H0 H H' : Hp} {L0 : Addr} {acc : List D} {σ σ' : L2.St} {vs : List V} {nn : List Addr} {ro : Bool} (L : LcS G μ dp ni env0 N0 H0 L0 acc σ env N H vs nn) (R' : Rep G μ env' σ' H' N') (S' : Stp μ ro env H N env' H' N') :
    LcS G μ dp ni env0 N0 H0 L0 acc σ' env' N' H' vs nn := by
  have mu : ∀ a, wrS μ env N a → MutO (H a) := fun a w => L.R.mut w.own.all
  refine ⟨R', (L.S.trans S').mono (by simp), S'.keep _ _ L.hD fun w => L.nD w.own.all, L.rl.keep S'.keep mu fun a ha w => L.nown a ha w.own, fun w => ?_, L.n0, L.nnD, fun a ha w => ?_, L.sub, fun z a ha => ?_⟩
  · rcases S'.all L0 w with y | y
    · exact L.nD y
    · rw [L.hD] at y; cases y
  · rcases S'.own a w with y | y
    · exact L.nown a ha y
    · have := L.rl.mut a ha
      rw [y] at this
      exact this
  · obtain ⟨d1, d2, d4, d3⟩ := L.dq z a ha
    refine ⟨d1, fun w => ?_, d4, d3⟩
    rcases S'.all a w with y | y
    · exact d2 y
    · have := L.rl.mut a ha
      rw [y] at this
      exact this
/-- one more -/
theorem LcS.push {G : Gt} {dp : Bool} {ni : List Addr} {env0 env : En} {N0 N : Nat → List Addr} {H0 H : Hp} {L0 : Addr} {acc : List D} {σ : L2.St} {vs : List V} {nn m : List Addr} {d : D} {v : V} (L : LcS G μ dp ni env0 N0 H0 L0 acc σ env N H vs nn) (r : Rp G H d v m)
    (h1 : ∀ a ∈ m, ¬ ownS μ env N a) (h2 : ∀ a ∈ m, allS N0 a ∨ H0 a = none) (h3 : L0 ∉ m) (h4 : dp = true → ∀ a ∈ m, m.count a = 1 ∧ ¬ allS N a ∧ a ∉ ni ∧ a ∉ nn ∧ (wrS μ env0 N0 a ∨ H0 a = none)) :
    LcS G μ dp ni env0 N0 H0 L0 (acc ++ [d]) σ env N (upd H L0 (.lst (vs ++ [v]))) (vs ++ [v]) (nn ++ m) := by
  have kp : Keeps H (upd H L0 (.lst (vs ++ [v]))) (· = L0) := Keeps.updL
  have mu : ∀ a, a = L0 → MutO (H a) := fun a e => by subst e; rw [L.hD]; trivial
  have R' : Rep G μ env σ (upd H L0 (.lst (vs ++ [v]))) N := by
    refine ⟨L.R.len, fun i d e => ?_, L.R.emp, L.R.uq, L.R.exK kp mu fun _ _ => rfl⟩
    obtain ⟨w, g1, g2⟩ := L.R.rep i d e
    exact ⟨w, g1, g2.keep kp mu fun a ha z => L.nD ⟨i, z ▸ ha⟩⟩
  refine ⟨R', ⟨fun a o h w => kp a o (L.S.keep a o h w) (fun z => by rw [z, L.n0] at h; cases h), fun a z => ?_, L.S.own, L.S.wr, L.S.all, L.S.lock, (fun z => by cases z)⟩, upd_same, ?_, L.nD, L.n0, fun z => ?_, fun a ha => ?_, fun a ha => ?_, fun z a ha => ?_⟩
  · by_cases e : a = L0
    · rw [e]; exact L.n0
    · rw [upd_ne e] at z; exact L.S.dom a z
  · exact (L.rl.keep kp mu fun a ha z => L.nnD (z ▸ ha)).snoc (r.keep kp mu fun a ha z => h3 (z ▸ ha))
  · rcases List.mem_append.mp z with z | z
    · exact L.nnD z
    · exact h3 z
  · rcases List.mem_append.mp ha with ha | ha
    · exact L.nown a ha
    · exact h1 a ha
  · rcases List.mem_append.mp ha with ha | ha
    · exact L.sub a ha
    · exact h2 a ha
  · rw [List.count_append]
    rcases List.mem_append.mp ha with ha | ha
    · obtain ⟨d1, d2, d4, d3⟩ := L.dq z a ha
      exact ⟨by rw [d1, List.count_eq_zero.mpr fun y => (h4 z a y).2.2.2.1 ha], d2, d4, d3⟩
    · obtain ⟨d1, d2, d4, d5, d3⟩ := h4 z a ha
      exact ⟨by rw [d1, List.count_eq_zero.mpr d5], d2, d4, d3⟩
theorem lc_core {g : TG} {J : It} {ds : List D} {n n' : List Addr} {P : Hp → Prop} {f : D → En → Option En} {t : BM} {m : EM} {md : Md} {ro : Bool} {vs sl : List Nat} {Q : VK}
    (hg : ∀ (σ : L2.St) (H : Hp) (env env' : En) (N : Nat → List Addr) (d : D) (v : V) (n : List Addr) (Q : L2.St → Hp → Prop), Rep (gx X none) μ env σ H N → Rp (gx X none) H d v n → (∀ a ∈ n, ¬ ownS μ env N a) → f d env = some env' →
      (∀ σ' N', Rep (gx X none) μ env' σ' H N' → (∀ a, ownS μ env' N' a → ownS μ env N a) → (∀ a, wrS μ env' N' a → wrS μ env N a) → (∀ a, allS N' a → allS N a ∨ a ∈ n) → (∀ i, (mdAt μ i).lock = true → env'[i]? = env[i]? ∧ N' i = N i) → Fx μ σ σ' → Sl sl σ σ' N N' → Q σ' H) → g v σ H Q)
    (hsl : ∀ j ∈ sl, j ∈ vs) (hlk : ∀ v ∈ vs, (mdAt μ v).lock = false) (hmd : md ≠ .al)
    (wk : Walk (gx X none) J ds n n' P) {env : En} {N : Nat → List Addr} {σ : L2.St} {H : Hp} {env1 : En} {N1 : Nat → List Addr} {H1 : Hp}
    (R1 : Rep (gx X none) μ env1 σ H1 N1) (S1 : Stp μ false env H N env1 H1 N1) (hp : P H1) (hw : ∀ a ∈ n', ¬ wrS μ env1 N1 a) (ho : ∀ a ∈ n, ¬ ownS μ env1 N1 a) (hn : ∀ a ∈ n, allS N a ∨ H a = none)
    (q : EQ (gx X none) μ W false (lcM md) env N σ H Q (lcL vs f t m ds [] env1).nox) (L0 : Addr) (hD : H1 L0 = none) :
    ∃ Wi : Nat → Nat → Hp → Prop, (∃ k, Wi 0 k (upd H1 L0 (.lst []))) ∧ ∀ i k H, Wi i k H → (J.stop i H ∧ Q (.ref L0) H) ∨ (J.go i H ∧ ∃ Nx : Hp → Prop, (∀ H', Nx H' → ∃ k', k' < k ∧ Wi (i + 1) k' H') ∧
      ∀ x H', J.yld i H x H' → g x (wipe σ vs) H' fun σ2 H2 => wipe σ2 vs = wipe σ vs ∧ tB (gx X none) μ WF false t σ2 H2 fun b H3 =>
        if b = true then tE (gx X none) μ WF ro md m σ2 H3 fun y H4 => ∃ acc, H4 L0 = some (.lst acc) ∧ acc.length < sizeLine ∧ Nx (upd H4 L0 (.lst (acc ++ [y]))) else Nx H3) := by
  let Pv : Nat → Hp → Prop := fun i Hi => ∃ acc envi Ni ws nn, LcS (gx X none) μ (decide (md = .d)) n env N H L0 acc σ envi Ni Hi ws nn ∧ P Hi ∧ (∀ a ∈ n', ¬ wrS μ envi Ni a) ∧ (∀ a ∈ n, ¬ ownS μ envi Ni a) ∧
    EQ (gx X none) μ W false (lcM md) env N σ H Q (lcL vs f t m (ds.drop i) acc envi).nox
  have nDn : L0 ∉ n' := fun z => by
    have := wk.there H1 hp L0 z
    rw [hD] at this
    exact this
  refine ⟨fun i k Hi => k = ds.length - i ∧ i ≤ ds.length ∧ Pv i Hi, ⟨_, rfl, Nat.zero_le _, [], env1, N1, [], [], ?_, ?_, hw, ho, by simpa using q⟩, ?_⟩
  · have k := ext_upd (o := .lst []) hD
    exact ⟨R1.ext k, (S1.trans (Stp.new (ro := true) k)).mono (by simp), upd_same, by simp [RpL], fun w => R1.there w hD, S1.dom L0 hD, by simp, by simp, by simp, by simp⟩
  · exact wk.stay H1 _ (fun _ => False) hp (fun a o e _ => ext_upd hD a o e) (fun a w => w.elim) fun a _ w => w.elim
  rintro i k Hi ⟨rfl, hi, acc, envi, Ni, ws, nn, L, p1, w1, o1, q1⟩
  by_cases hlt : i < ds.length
  · have hd : ds[i]? = some ds[i] := by simp [hlt]
    obtain ⟨jg, jy⟩ := wk.go Hi i ds[i] p1 hd
    refine .inr ⟨jg, Pv (i + 1), fun H' p => ⟨ds.length - (i + 1), by omega, rfl, hlt, p⟩, fun x H' y => ?_⟩
    obtain ⟨k, p2, mm, r, hm⟩ := jy x H' y
    rw [List.drop_eq_getElem_cons hlt] at q1
    unfold lcL at q1
    have R' := L.R.ext k
    have Lk := L.step R' (Stp.new (ro := true) k)
    -- the block's own names forgotten
    have Rw : Rep (gx X none) μ (dropV envi vs) (wipe σ vs) H' (dropN Ni vs) := R'.dropAll rfl (wipe_length σ vs) fun j hj => wipe_keep hj
    have Sw : Stp μ false envi H' Ni (dropV envi vs) H' (dropN Ni vs) := (Stp.refl (ro := false)).dropAll hlk
    have Lw := Lk.step Rw Sw
    cases ef : f ds[i] (dropV envi vs) with
    | none => rw [ef] at q1; exact q1.elim
    | some env2 =>
      rw [ef] at q1
      simp only [lcT] at q1
      refine hg (wipe σ vs) H' (dropV envi vs) env2 (dropN Ni vs) ds[i] x mm _ Rw r (fun a ha w => o1 a (hm a ha) (own_dropV w)) ef fun σ2 N2 R2 ow wr al lk F2 sl2 => ?_
      have hσ : ∀ j, j ∉ vs → σ2[j]? = σ[j]? := fun j hj => (sl2.2 j fun z => hj (hsl j z)).1.trans (wipe_keep hj)
      have hσl : σ2.length = σ.length := sl2.1.trans (wipe_length σ vs)
      refine ⟨wipe_eq hσl hσ, env2, N2, R2, ?_⟩
      have thn' : ∀ a ∈ n', H' a ≠ none := fun a ha z => by
        have := wk.there H' p2 a ha
        rw [z] at this
        exact this
      have L2' : LcS (gx X none) μ (decide (md = .d)) n env N H L0 acc σ2 env2 N2 H' ws nn := by
        refine ⟨R2, ⟨Lw.S.keep, Lw.S.dom, fun a h => Lw.S.own a (ow a h), fun a h => Lw.S.wr a (wr a h), fun a h => (al a h).elim (Lw.S.all a) fun z => hn a (hm a z), fun j hj => ⟨(lk j hj).1.trans (Lw.S.lock j hj).1, (lk j hj).2.trans (Lw.S.lock j hj).2⟩, fun z => by cases z⟩,
          Lw.hD, Lw.rl, fun w => ?_, Lw.n0, Lw.nnD, fun a ha w => Lw.nown a ha (ow a w), Lw.sub, fun z a ha => ?_⟩
        · rcases al L0 w with y | y
          · exact Lw.nD y
          · exact nDn (wk.sub L0 (hm L0 y))
        · obtain ⟨d1, d2, d4, d3⟩ := Lw.dq z a ha
          refine ⟨d1, fun w => ?_, d4, d3⟩
          rcases al a w with y | y
          · exact d2 y
          · exact d4 (hm a y)
      have w2 : ∀ a ∈ n', ¬ wrS μ env2 N2 a := fun a ha w => w1 a ha (wr_dropV (wr a w))
      have o2 : ∀ a ∈ n, ¬ ownS μ env2 N2 a := fun a ha w => o1 a ha (own_dropV (ow a w))
      -- a step of the block
      have st : ∀ {env3 : En} {H3 : Hp} {N3 : Nat → List Addr} {envA : En} {HA : Hp} {NA : Nat → List Addr} {r3 : Bool}, Rep (gx X none) μ envA σ2 HA NA → Stp μ r3 envA HA NA env3 H3 N3 → P HA → (∀ a ∈ n', ¬ wrS μ envA NA a) → (∀ a ∈ n, ¬ ownS μ envA NA a) →
          P H3 ∧ (∀ a ∈ n', ¬ wrS μ env3 N3 a) ∧ (∀ a ∈ n, ¬ ownS μ env3 N3 a) := fun {env3 H3 N3 envA HA NA r3} RA S3 pA wA oA => by
        have thA : ∀ a ∈ n', HA a ≠ none := fun a ha z => by
          have := wk.there HA pA a ha
          rw [z] at this
          exact this
        refine ⟨wk.stay HA H3 _ pA S3.keep (fun a w => RA.mut w.own.all) fun a ha w => wA a ha w, fun a ha w => ?_, fun a ha w => ?_⟩
        · rcases S3.wr a w with z | z
          · exact wA a ha z
          · exact thA a ha z
        · rcases S3.own a w with z | z
          · exact oA a ha z
          · exact thA a (wk.sub a ha) z
      -- back to between two turns
      have on : ∀ {env3 : En} {H3 : Hp} {N3 : Nat → List Addr} {acc3 : List D} {ws3 : List V} {nn3 : List Addr}, LcS (gx X none) μ (decide (md = .d)) n env N H L0 acc3 σ2 env3 N3 H3 ws3 nn3 → P H3 → (∀ a ∈ n', ¬ wrS μ env3 N3 a) → (∀ a ∈ n, ¬ ownS μ env3 N3 a) →
          EQ (gx X none) μ W false (lcM md) env N σ H Q (lcL vs f t m (ds.drop (i + 1)) acc3 env3).nox → Pv (i + 1) H3 := fun {env3 H3 N3 acc3 ws3 nn3} L3 p3 w3 o3 q3 => by
        have Rb : Rep (gx X none) μ (dropV env3 vs) σ H3 (dropN N3 vs) := L3.R.dropAll rfl hσl.symm fun j hj => (hσ j hj).symm
        have Sb : Stp μ false env3 H3 N3 (dropV env3 vs) H3 (dropN N3 vs) := (Stp.refl (ro := false)).dropAll hlk
        refine ⟨acc3, dropV env3 vs, dropN N3 vs, ws3, nn3, L3.step Rb Sb, p3, fun a ha w => w3 a ha (wr_dropV w), fun a ha w => o3 a ha (own_dropV w), ?_⟩
        have dd : ∀ (e : En) (vs : List Nat), dropV (dropV e vs) vs = dropV e vs := fun e vs => by
          apply List.ext_getElem?
          intro j
          by_cases hj : j ∈ vs
          · have gone : ∀ e' : En, (dropV e' vs)[j]? = if j < e'.length then some none else none := fun e' => by
              cases h : (dropV e' vs)[j]? with
              | none =>
                have := List.getElem?_eq_none_iff.mp h
                rw [dropV_len] at this
                rw [if_neg (by omega)]
              | some o =>
                have hl : j < e'.length := by
                  rcases Nat.lt_or_ge j e'.length with g | g
                  · exact g
                  · rw [List.getElem?_eq_none (by rw [dropV_len]; exact g)] at h; cases h
                rw [if_pos hl]
                cases o with
                | none => rfl
                | some d => exact absurd hj (dropV_some h).2
            rw [gone, gone, dropV_len]
          · rw [dropV_keep hj]
        have e1 : lcL vs f t m (ds.drop (i + 1)) acc3 (dropV env3 vs) = lcL vs f t m (ds.drop (i + 1)) acc3 env3 := by
          cases ds.drop (i + 1) with
          | nil => simp only [lcL]; rw [dd]
          | cons a r => simp only [lcL]; rw [dd]
        rw [e1]
        exact q3
      cases et : t env2 with
      | bad => rw [et] at q1; exact q1.elim
      | exc x e => rw [et] at q1; exact q1.elim
      | ok b env3 =>
        rw [et] at q1
        simp only [Rt.bind_ok, lc2] at q1
        intro H3 N3 R3 S3
        have L3 := L2'.step R3 S3
        obtain ⟨p3, w3, o3⟩ := st R2 S3 p2 w2 o2
        cases b with
        | false =>
          rw [if_neg Bool.false_ne_true] at q1 ⊢
          exact on L3 p3 w3 o3 q1
        | true =>
          rw [if_pos rfl] at q1 ⊢
          refine ⟨env3, N3, R3, ?_⟩
          cases em : m env3 with
          | bad => rw [em] at q1; exact q1.elim
          | exc x e => rw [em] at q1; exact q1.elim
          | ok dy env4 =>
            rw [em] at q1
            simp only [Rt.bind_ok, lc3] at q1
            intro v H4 N4 n4 R4 S4 r4 V4
            have L4 := L3.step R4 S4
            obtain ⟨p4, w4, o4⟩ := st R3 S4 p3 w3 o3
            split at q1
            · rename_i hlen
              refine ⟨ws, L4.hD, by rw [LIM_eq, ← L4.rl.len]; exact hlen, ?_⟩
              have sub4 : ∀ a ∈ n4, allS N a ∨ H a = none := fun a ha => (V4.sub a ha).elim (L3.S.all a) fun z => .inr (L3.S.dom a z)
              have L5 := L4.push r4 (V4.nown hmd) sub4 (fun z => by
                rcases V4.sub L0 z with y | y
                · exact L3.nD y
                · rw [L3.hD] at y; cases y) (fun z a ha => by
                  have hz : md = .d := by simpa using z
                  have o : Own md dy n4 a := .inl ⟨by rw [hz]; rfl, ha⟩
                  obtain ⟨u1, u2⟩ := V4.uq a o
                  refine ⟨u1, u2, fun y => ?_, fun y => ?_, ?_⟩
                  · rcases V4.osub a o with t | t
                    · exact o3 a y t.own
                    · have := wk.there H3 p3 a (wk.sub a y)
                      rw [t] at this
                      exact this
                  · rcases V4.osub a o with t | t
                    · exact L3.nown a y t.own
                    · have := L3.rl.mut a y
                      rw [t] at this
                      exact this
                  · exact (V4.osub a o).elim (L3.S.wr a) fun t => .inr (L3.S.dom a t))
              refine on L5 ?_ w4 o4 q1
              exact wk.stay H4 _ (· = L0) p4 Keeps.updL (fun a e => by subst e; rw [L4.hD]; trivial) fun a ha e => nDn (e ▸ ha)
            · exact q1.elim
  · have e : i = ds.length := by omega
    subst e
    refine .inl ⟨wk.stop Hi _ p1 (Nat.le_refl _), ?_⟩
    rw [List.drop_length] at q1
    simp only [lcL, Rt.nox] at q1
    have Rb : Rep (gx X none) μ (dropV envi vs) σ Hi (dropN Ni vs) := L.R.dropAll rfl rfl fun j hj => rfl
    have Lb := L.step Rb ((Stp.refl (ro := false)).dropAll hlk)
    have hown : ∀ a, Own (lcM md) (.lst acc) (L0 :: nn) a → a = L0 ∨ (md = .d ∧ a ∈ nn) := fun a o => by
      unfold lcM at o
      split at o
      · rename_i hz
        rcases List.mem_cons.mp o.mem with z | z
        · exact .inl z
        · exact .inr ⟨hz, z⟩
      · rcases o with o | ⟨_, _, o⟩
        · cases o.1
        · simp at o; exact .inl o.symm
    refine q1 (.ref L0) Hi _ (L0 :: nn) Rb Lb.S (by simp only [Rp]; exact ⟨L0, ws, nn, rfl, Lb.hD, Lb.rl, rfl⟩) ⟨fun a ha => ?_, fun _ a ha w => ?_, fun a o => ?_, fun a o => ?_⟩
    · rcases List.mem_cons.mp ha with rfl | ha
      · exact .inr Lb.n0
      · exact Lb.sub a ha
    · rcases List.mem_cons.mp ha with rfl | ha
      · exact Lb.nD w.all
      · exact Lb.nown a ha w
    · rcases hown a o with rfl | ⟨hz, ha⟩
      · exact ⟨by rw [List.count_cons_self, List.count_eq_zero.mpr Lb.nnD], Lb.nD⟩
      · obtain ⟨d1, d2, d4, d3⟩ := Lb.dq (by simpa using hz) a ha
        have ne : a ≠ L0 := fun z => Lb.nnD (z ▸ ha)
        exact ⟨by rw [List.count_cons_of_ne (Ne.symm ne)]; exact d1, d2⟩
    · rcases hown a o with rfl | ⟨hz, ha⟩
      · exact .inr Lb.n0
      · exact (Lb.dq (by simpa using hz) a ha).2.2.2
theorem lc_imp {tg iter : Expr} {ms : AM} {sl vs : List Nat} {f : D → En → Option En} {t : BM} {m : EM} {md : Md} {ro : Bool} {g : TG}
    (hg : ∀ (σ : L2.St) (H : Hp) (env env' : En) (N : Nat → List Addr) (d : D) (v : V) (n : List Addr) (Q : L2.St → Hp → Prop), Rep (gx X none) μ env σ H N → Rp (gx X none) H d v n → (∀ a ∈ n, ¬ ownS μ env N a) → f d env = some env' →
      (∀ σ' N', Rep (gx X none) μ env' σ' H N' → (∀ a, ownS μ env' N' a → ownS μ env N a) → (∀ a, wrS μ env' N' a → wrS μ env N a) → (∀ a, allS N' a → allS N a ∨ a ∈ n) → (∀ i, (mdAt μ i).lock = true → env'[i]? = env[i]? ∧ N' i = N i) → Fx μ σ σ' → Sl sl σ σ' N N' → Q σ' H) → g v σ H Q)
    (hsl : ∀ j ∈ sl, j ∈ vs) (hlk : ∀ v ∈ vs, (mdAt μ v).lock = false) (hmd : md ≠ .al) {σ : L2.St} {H : Hp} {Q : VK} (q : tE (gx X none) μ W false (lcM md) (mLc ms vs f t m) σ H Q) :
    tLc (tI (gx X none) μ W ms) g (tB (gx X none) μ WF false t) (tE (gx X none) μ WF ro md m) vs σ H Q := by
  obtain ⟨env, N, R0, q⟩ := q
  refine ⟨env, N, R0, ?_⟩
  unfold mLc at q
  cases e1 : ms env with
  | bad => rw [e1] at q; exact q
  | exc x env1 => rw [e1] at q; exact q
  | ok ds env1 =>
    rw [e1] at q
    intro J H1 N1 n n' P R1 S1 wk hP hw ho hn L0 hD
    exact lc_core hg hsl hlk hmd wk R1 S1 hP hw ho hn q L0 hD
section
variable {elt tg iter : Expr} {ifs : List Expr} {scope : Scope} {own : List (Str × Nat)} {pos : Pos} {ms : AM} {sl : List Nat} {f : D → En → Option En} {t : BM} {m : EM} {md : Md} {ro : Bool} {g : TG} {rmd : Md}
theorem v_lc (hc : X.calm = true) (hN : X.N.Nodup) (hi : PIV X none μ W tg iter ms) (ok : BlkOk X.N X.env.scope scope own)
    (hg : ∀ (s : Shared) (H : Hp) (C : Addr) (cl : List (Str × Addr)) (fp : List Addr), TGV (X.blk s H scope (compEnvC scope cl C X.env) fp) none μ tg sl g f)
    (ht : ∀ (s : Shared) (H : Hp) (C : Addr) (cl : List (Str × Addr)) (fp : List Addr), PFV (X.blk s H scope (compEnvC scope cl C X.env) fp) none μ WF ifs t)
    (he : ∀ (s : Shared) (H : Hp) (C : Addr) (cl : List (Str × Addr)) (fp : List Addr), PEV (X.blk s H scope (compEnvC scope cl C X.env) fp) none μ WF elt ro md m) (hsl : ∀ j ∈ sl, j ∈ own.map (·.2)) (hlk : ∀ v ∈ own.map (·.2), (mdAt μ v).lock = false) (hmd : md ≠ .al)
    (hs : ∀ x, foldedSetIterable iter X.env x = pure x := by intro _; rfl) : PEV X none μ W (.ListComp elt [⟨tg, iter, ifs, 0⟩] scope pos) false (lcM md) (mLc ms (own.map (·.2)) f t m) :=
  ⟨PE.imp (pe_lc (te := tE (gx X none) μ WF ro md m) (tt := tB (gx X none) μ WF false t) hc hN hi.pi ok (fun s H C cl fp => (hg s H C cl fp).pg) (fun s H C cl fp => (ht s H C cl fp).pts) (fun s H C cl fp => (he s H C cl fp).pe) hs)
    fun σ H Q q => lc_imp (iter := iter) (tg := tg) (hg X.s_0 X.H_0 0 [] []).law hsl hlk hmd q, fun z => by cases z⟩
/-- name = [..] on one line -/
theorem s_setLc {i : Nat} {y : Str} {py spos : Pos} (hc : X.calm = true) (hN : X.N.Nodup) (hy : X.N[i]? = some y) (hyl : X.env.scope.names.lookup y = some .local) (hi : PIV X none μ W tg iter ms) (ok : BlkOk X.N X.env.scope scope own)
    (hg : ∀ (s : Shared) (H : Hp) (C : Addr) (cl : List (Str × Addr)) (fp : List Addr), TGV (X.blk s H scope (compEnvC scope cl C X.env) fp) none μ tg sl g f)
    (ht : ∀ (s : Shared) (H : Hp) (C : Addr) (cl : List (Str × Addr)) (fp : List Addr), PFV (X.blk s H scope (compEnvC scope cl C X.env) fp) none μ WF ifs t)
    (he : ∀ (s : Shared) (H : Hp) (C : Addr) (cl : List (Str × Addr)) (fp : List Addr), PEV (X.blk s H scope (compEnvC scope cl C X.env) fp) none μ WF elt ro md m) (hsl : ∀ j ∈ sl, j ∈ own.map (·.2)) (hlk : ∀ v ∈ own.map (·.2), (mdAt μ v).lock = false) (hmd : md ≠ .al) (htk : (mdAt μ i).tk (lcM md) = true)
    (hsw : swapsWith (.ListComp elt [⟨tg, iter, ifs, 0⟩] scope pos) (some (.Name y py)) spos.line X.env = pure true := by exact sw_true rfl rfl rfl rfl) (hX : NoX (gx X none) i := by (intro x h; first | (cases h; done) | (cases h; simp))) (hs : ∀ x, foldedSetIterable iter X.env x = pure x := by intro _; rfl) :
    PSV X none μ W rmd (.Assign [.Name y py] (.ListComp elt [⟨tg, iter, ifs, 0⟩] scope pos) spos) (sSet i (mLc ms (own.map (·.2)) f t m)) :=
  ⟨PS.imp (ps_setLc (te := tE (gx X none) μ WF ro md m) (tt := tB (gx X none) μ WF false t) hc hN hy hyl hsw hi.pi ok (fun s H C cl fp => (hg s H C cl fp).pg) (fun s H C cl fp => (ht s H C cl fp).pts) (fun s H C cl fp => (he s H C cl fp).pe) hs)
    fun E σ H q => lc_imp (iter := iter) (tg := tg) (hg X.s_0 X.H_0 0 [] []).law hsl hlk hmd (ex_core q fun env N d env' v H' N' n R0 R1 S r V q => by
      unfold sSet2 at q
      split at q
      · rename_i hl
        obtain ⟨R2, S2, F2⟩ := set_core htk R1 S r V hl hX
        exact q _ H' _ R2 S2 F2
      · exact q.elim)⟩
end
/-! ### the value of a place -/
def mOfP2 (p : Plc) (e : En) : Rt D := .ok p.1 e
def mOfP (pm : PM) : EM := fun env => (pm env).bind mOfP2
theorem v_ofP {xv : XV} {e : Expr} {ro root : Bool} {i : Nat} {pm : PM} (h : PPV X xv (lockAt μ i) W e ro i root pm) (hR : (mdAt μ i).isR = true ∨ (mdAt μ i).isD = true := by decide) : PEV X xv μ W e ro .al (mOfP pm) := by
  refine ⟨PE.imp h.pe fun σ H Q ⟨env, N, R0, q⟩ => ⟨env, N, R0.dolock, ?_⟩, fun z env d e' k => ?_⟩
  · unfold mOfP at q
    cases e1 : pm env with
    | bad => rw [e1] at q; exact q
    | exc x env1 => rw [e1] at q; exact XQ.unlock hR q
    | ok p env1 =>
      rw [e1] at q
      intro v H1 N1 R1 S1 F1
      obtain ⟨D0, v0, E1, E2, FR, n1, mm, n3, r, hn, hr, hf⟩ := F1
      have S2 := S1.unlock hR
      exact q v H1 N1 mm R1.unlock S2 r ⟨fun a ha => S2.all a ⟨i, by rw [hn]; simp [ha]⟩, fun z => absurd rfl z, fun a o => absurd o Own.noA, fun a o => absurd o Own.noA⟩
  · unfold mOfP at k
    cases e1 : pm env with
    | bad => rw [e1] at k; cases k
    | exc x env1 => rw [e1] at k; cases k
    | ok p env1 => rw [e1] at k; cases k; exact h.rok z _ _ _ e1
end
end VS
/-! VS: chains, is True, empty dicts, a flat thing owned with all that is in it. -/
namespace VS
open PySem PySem.Spec PyProof.Rows L2
def mCh4 (g : D → D → Option D) (b c : D) (e : En) : Rt D := fin false (g b c) e
def mCh3 (g g' : D → D → Option D) (m3 : EM) (a b : D) (e : En) : Rt D := match g a b with
  | some (.bl true) => (m3 e).bind (mCh4 g' b)
  | some (.bl false) => .ok (.bl false) e
  | _ => .bad
def mCh2 (g g' : D → D → Option D) (m2 m3 : EM) (a : D) (e : En) : Rt D := (m2 e).bind (mCh3 g g' m3 a)
/-- a op b op' c -/
def mCh (g g' : D → D → Option D) (m1 m2 m3 : EM) : EM := fun env => (m1 env).bind (mCh2 g g' m2 m3)
section
variable {X : Cx} {xv : XV} {μ : List Md} {W : WX} {pos : Pos} {a b c : Expr} {ro ro1 ro2 ro3 : Bool} {md md1 md2 md3 : Md} {m m1 m2 m3 : EM} {op op' : CmpOp} {r r' : R2} {g g' : D → D → Option D}
theorem mCh_ro {g g' : D → D → Option D} (h1r : ro1 = true → ∀ env d e', m1 env = .ok d e' → e' = env) (h2r : ro2 = true → ∀ env d e', m2 env = .ok d e' → e' = env) (h3r : ro3 = true → ∀ env d e', m3 env = .ok d e' → e' = env) : (ro1 && (ro2 && ro3)) = true → ∀ env d e', mCh g g' m1 m2 m3 env = .ok d e' → e' = env := fun z env d e' k => by
  · simp only [Bool.and_eq_true] at z
    unfold mCh at k
    cases e1 : m1 env with
    | bad => rw [e1] at k; cases k
    | exc x env1 => rw [e1] at k; cases k
    | ok da env1 =>
      rw [e1] at k
      simp only [Rt.bind_ok, mCh2] at k
      cases e2 : m2 env1 with
      | bad => rw [e2] at k; cases k
      | exc x env2 => rw [e2] at k; cases k
      | ok db env2 =>
        rw [e2] at k
        simp only [Rt.bind_ok, mCh3] at k
        have w := (h2r z.2.1 _ _ _ e2).trans (h1r z.1 _ _ _ e1)
        split at k
        · cases e3 : m3 env2 with
          | bad => rw [e3] at k; cases k
          | exc x env3 => rw [e3] at k; cases k
          | ok dc env3 =>
            rw [e3] at k
            simp only [Rt.bind_ok, mCh4, fin] at k
            have w3 := h3r z.2.2 _ _ _ e3
            split at k
            · simp only [Bool.false_and, Bool.false_eq_true, if_false] at k
              cases k; exact w3.trans w
            · cases k
        · cases k; exact w
        · cases k
theorem chain_core (hs : OpS (gx X xv) r g) (hs' : OpS (gx X xv) r' g') (p' : ∀ a b d, g' a b = some d → d.pure = true) (h1r : ro1 = true → ∀ env d e', m1 env = .ok d e' → e' = env) (h2r : ro2 = true → ∀ env d e', m2 env = .ok d e' → e' = env)
    (al1 : md1 = .al → ro2 = true) (al2 : md2 = .al → ro3 = true) {σ : L2.St} {H : Hp} {Q : VK} (h : tE (gx X xv) μ W (ro1 && (ro2 && ro3)) md (mCh g g' m1 m2 m3) σ H Q) : tChain r r' (tE (gx X xv) μ W ro1 md1 m1) (tE (gx X xv) μ W ro2 md2 m2) (tE (gx X xv) μ W ro3 md3 m3) σ H Q := by
  obtain ⟨env, N, R0, q⟩ := h
  refine ⟨env, N, R0, ?_⟩
  · unfold mCh at q
    cases e1 : m1 env with
    | bad => rw [e1] at q; exact q
    | exc x env1 => rw [e1] at q; exact q
    | ok da env1 =>
      rw [e1] at q
      simp only [Rt.bind_ok, mCh2] at q
      intro v1 H1 N1 n1 R1 S1 r1 V1
      refine ⟨env1, N1, R1, ?_⟩
      cases e2 : m2 env1 with
      | bad => rw [e2] at q; exact q
      | exc x env2 => rw [e2] at q; exact XQ.pre S1 q
      | ok db env2 =>
        rw [e2] at q
        simp only [Rt.bind_ok, mCh3] at q
        intro v2 H2 N2 n2 R2 S2 r2 V2
        have r1' : Rp (gx X xv) H2 da v1 n1 := by
          by_cases z : md1 = .al
          · have := al1 z
            subst this
            exact S2.rpro r1
          · exact S2.rp R1 r1 (V1.nown z)
        cases eg : g da db with
        | none => rw [eg] at q; exact q.elim
        | some d =>
          rw [eg] at q
          have hb : ∃ k, d = .bl k := by
            cases d with
            | bl k => exact ⟨k, rfl⟩
            | _ => exact q.elim
          obtain ⟨k, rfl⟩ := hb
          refine hs H2 v1 v2 da db n1 n2 _ _ r1' r2 eg fun v H3 n rb kx _ _ => ?_
          simp only [Rp] at rb
          refine ⟨k, rb.1, ?_⟩
          have R3 := R2.ext kx
          have S3 := (S1.trans S2).trans (Stp.new (ro := true) (μ := μ) (env := env2) (N := N2) kx)
          cases k with
          | false =>
            rw [if_neg Bool.false_ne_true]
            exact q (.bl false) H3 N2 [] R3 (S3.mono (by simp; intros; simp_all)) (by simp [Rp]) .nil
          | true =>
            rw [if_pos rfl]
            dsimp only at q
            refine ⟨env2, N2, R3, ?_⟩
            cases e3 : m3 env2 with
            | bad => rw [e3] at q; exact q
            | exc x env3 => rw [e3] at q; exact XQ.pre S3 q
            | ok dc env3 =>
              rw [e3] at q
              simp only [Rt.bind_ok, mCh4, fin] at q
              intro v3 H4 N4 n4 R4 S4 r4 V4
              have r2' : Rp (gx X xv) H4 db v2 n2 := by
                by_cases z : md2 = .al
                · have := al2 z
                  subst this
                  exact S4.rpro (r2.ext kx)
                · exact S4.rp R3 (r2.ext kx) (V2.nown z)
              cases eg2 : g' db dc with
              | none => rw [eg2] at q; exact q.elim
              | some d2 =>
                rw [eg2] at q
                refine hs' H4 v2 v3 db dc n2 n4 _ _ r2' r4 eg2 fun v H5 n rb2 kx2 _ _ => ?_
                have hn := rb2.pure (p' _ _ _ eg2)
                subst hn
                exact q v H5 N4 [] (R4.ext kx2) (((S3.trans S4).trans (Stp.new (ro := true) kx2)).mono (by simp; intros; simp_all)) rb2 .nil
theorem v_chain (ho : OpR X (compareOp op) r) (ho' : OpR X (compareOp op') r') (hs : OpS (gx X xv) r g) (hs' : OpS (gx X xv) r' g') (p : ∀ a b d, g a b = some d → d.pure = true) (p' : ∀ a b d, g' a b = some d → d.pure = true) (h1 : PEV X xv μ W a ro1 md1 m1) (h2 : PEV X xv μ W b ro2 md2 m2) (h3 : PEV X xv μ W c ro3 md3 m3)
    (al1 : md1 = .al → ro2 = true := by decide) (al2 : md2 = .al → ro3 = true := by decide) (hm : lastMarks [op, op'] [b, c] = false := by with_unfolding_all rfl) : PEV X xv μ W (.Compare a [op, op'] [b, c] pos) (ro1 && (ro2 && ro3)) md (mCh g g' m1 m2 m3) := by
  refine ⟨PE.imp (pe_chain ho ho' h1.pe h2.pe h3.pe hm) fun σ H Q q => chain_core hs hs' p' h1.rok h2.rok al1 al2 q, mCh_ro h1.rok h2.rok h3.rok⟩
theorem t_chain (ho : OpR X (compareOp op) r) (ho' : OpR X (compareOp op') r') (hs : OpS (gx X xv) r g) (hs' : OpS (gx X xv) r' g') (p : ∀ a b d, g a b = some d → ∃ k, d = .bl k) (p' : ∀ a b d, g' a b = some d → ∃ k, d = .bl k) (h1 : PEV X xv μ W a ro1 md1 m1) (h2 : PEV X xv μ W b ro2 md2 m2) (h3 : PEV X xv μ W c ro3 md3 m3)
    (al1 : md1 = .al → ro2 = true := by decide) (al2 : md2 = .al → ro3 = true := by decide) (hm : lastMarks [op, op'] [b, c] = false := by with_unfolding_all rfl) : PTV X xv μ W (.Compare a [op, op'] [b, c] pos) (ro1 && (ro2 && ro3)) (bT (mCh g g' m1 m2 m3)) := by
  have pp' : ∀ a b d, g' a b = some d → d.pure = true := fun a b d e => by obtain ⟨k, rfl⟩ := p' a b d e; rfl
  refine ⟨PT.imp (pt_chain ho ho' h1.pe h2.pe h3.pe hm) fun σ H Q q => ?_, bT_ro (mCh_ro h1.rok h2.rok h3.rok)⟩
  refine chain_core (md := .s) (Q := fun x H' => ∃ k, x = .bl k ∧ Q k H') hs hs' pp' h1.rok h2.rok al1 al2 ?_
  obtain ⟨env, N, R0, q⟩ := q
  refine ⟨env, N, R0, ?_⟩
  unfold bT at q
  cases e1 : mCh g g' m1 m2 m3 env with
  | bad => rw [e1] at q; exact q
  | exc x env1 => rw [e1] at q; exact q
  | ok da env1 =>
    rw [e1] at q
    simp only [Rt.bind_ok, bT2] at q
    intro v1 H1 N1 n1 R1 S1 r1 V1
    have hb : ∃ k, da = .bl k := by
      unfold mCh at e1
      cases e2 : m1 env with
      | bad => rw [e2] at e1; cases e1
      | exc x e => rw [e2] at e1; cases e1
      | ok d1 e3 =>
        rw [e2] at e1
        simp only [Rt.bind_ok, mCh2] at e1
        cases e4 : m2 e3 with
        | bad => rw [e4] at e1; cases e1
        | exc x e => rw [e4] at e1; cases e1
        | ok d2 e5 =>
          rw [e4] at e1
          simp only [Rt.bind_ok, mCh3] at e1
          split at e1
          · cases e6 : m3 e5 with
            | bad => rw [e6] at e1; cases e1
            | exc x e => rw [e6] at e1; cases e1
            | ok d3 e7 =>
              rw [e6] at e1
              simp only [Rt.bind_ok, mCh4, fin, Bool.false_and, Bool.false_eq_true, if_false] at e1
              cases eg : g' d2 d3 with
              | none => rw [eg] at e1; cases e1
              | some d => rw [eg] at e1; cases e1; exact p' _ _ _ eg
          · cases e1; exact ⟨false, rfl⟩
          · cases e1
    obtain ⟨k, rfl⟩ := hb
    simp only [D.truth] at q
    simp only [Rp] at r1
    exact ⟨k, r1.1, q H1 N1 R1 S1⟩
/-- a flat thing is owned with all that is in it -/
def mF2 (d : D) (env : En) : Rt D := if d.flat = true ∨ d.pure = true then .ok d env else .bad
def mF (m : EM) : EM := fun env => (m env).bind mF2
theorem v_rd (h : PEV X xv μ W a ro .r m) : PEV X xv μ W a ro .d (mF m) := by
  refine ⟨h.pe.imp fun σ H Q ⟨env, N, R, q⟩ => ⟨env, N, R, ?_⟩, fun z env d e' k => ?_⟩
  · unfold mF at q
    cases e : m env with
    | ok d env' =>
      rw [e] at q
      intro v H' N' n R' S r V
      simp only [Rt.bind_ok, mF2] at q
      split at q
      · rename_i p
        rcases p with p | p
        · obtain ⟨b, hb, hm⟩ := D.flat_one p r
          have up : ∀ x, Own .d d n x → Own .r d n x := fun x o => by
            refine .inr ⟨rfl, hm, ?_⟩
            have := o.mem
            rw [hb] at this ⊢
            simp only [List.mem_singleton] at this
            rw [this]; rfl
          exact q v H' N' n R' S r ⟨V.sub, fun _ => V.nown (by simp), fun x o => V.uq x (up x o), fun x o => V.osub x (up x o)⟩
        · have z := r.pure p
          subst z
          exact q v H' N' [] R' S r .nil
      · exact q.elim
    | exc x env' => rw [e] at q; exact q
    | bad => rw [e] at q; exact q
  · unfold mF at k
    cases e : m env with
    | ok d1 env' =>
      rw [e] at k
      simp only [Rt.bind_ok, mF2] at k
      split at k
      · cases k; exact h.rok z _ _ _ e
      · cases k
    | exc x env' => rw [e] at k; cases k
    | bad => rw [e] at k; cases k
/-- {} -/
def mDct0 : EM := fun env => .ok (.dct ⟨false, false⟩ []) env
theorem v_dct0 : PEV X xv μ W (.Dict [] [] pos) true .d mDct0 := by
  refine ⟨PE.imp pe_dnewK fun σ H Q ⟨env, N, R, q⟩ => fun d hd => ?_, fun _ env d e' k => by cases k; rfl⟩
  have k := ext_upd (o := .dK []) hd
  refine q (.ref d) _ N [d] (R.ext k) (Stp.new k) (by simp only [Rp]; exact ⟨d, [], [], rfl, .inl ⟨rfl, [], rfl, rfl, List.nodup_nil, .inl ⟨rfl, upd_same⟩⟩, by simp [RpP], rfl⟩) ⟨fun a ha => .inr (by simp at ha; rw [ha]; exact hd), fun _ a ha w => ?_, fun a o => ?_, fun a o => ?_⟩
  · simp at ha; subst ha; exact R.there w.all hd
  · have := o.mem; simp at this; subst this; exact ⟨by simp, fun w => R.there w hd⟩
  · have := o.mem; simp at this; subst this; exact .inr hd
/-- {}, for keys that are tuples -/
def mDctT : EM := fun env => .ok (.dct ⟨true, false⟩ []) env
theorem v_dctT : PEV X xv μ W (.Dict [] [] pos) true .d mDctT := by
  refine ⟨PE.imp pe_dnewT fun σ H Q ⟨env, N, R, q⟩ => fun d hd => ?_, fun _ env d e' k => by cases k; rfl⟩
  have k := ext_upd (o := .dT []) hd
  refine q (.ref d) _ N [d] (R.ext k) (Stp.new k) (by simp only [Rp]; exact ⟨d, [], [], rfl, .inr ⟨rfl, [], rfl, rfl, List.nodup_nil, .inl ⟨rfl, upd_same⟩⟩, by simp [RpP], rfl⟩) ⟨fun a ha => .inr (by simp at ha; rw [ha]; exact hd), fun _ a ha w => ?_, fun a o => ?_, fun a o => ?_⟩
  · simp at ha; subst ha; exact R.there w.all hd
  · have := o.mem; simp at this; subst this; exact ⟨by simp, fun w => R.there w hd⟩
  · have := o.mem; simp at this; subst this; exact .inr hd
end
end VS
/-! VS: facts of error classes; the law's end. -/
namespace VS
open PySem PySem.Spec PyProof.Rows L2
theorem clsAt_own {mg : Str → Option Value} {h : Str} {v hv : Value} (e : mg h = some v) (c : ClsAt mg h hv) : hv = v := by
  rcases c with c | c
  · rw [e] at c; cases c; rfl
  · rw [c.1] at e; cases e
theorem clsAt_blt {mg : Str → Option Value} {h : Str} {v hv : Value} (e : mg h = none) (eb : bootBuiltins h = some v) (c : ClsAt mg h hv) : hv = v := by
  rcases c with c | c
  · rw [e] at c; cases c
  · rw [c.2] at eb; cases eb; rfl
section
variable {K : PySem.W.Frag} {C H : Addr} {b : Bool}
theorem xf_own (h1 : PySem.W.subIn K (.ref H) (.type "BaseException") = some true) (h2 : PySem.W.isClsIn K H = true) (h3 : PySem.W.typeIn K (.ref H) = some (.type "type")) (h4 : PySem.W.subIn K (.ref C) (.ref H) = some b) (hb : C = H → b = true) :
    PySem.W.exmOne K (.ref C) (.ref H) = some b ∧ PySem.W.kitOne K (.ref C) (.ref H) = some b := by
  have e1 : (PySem.W.subIn K (.ref H) (.type "BaseException") == some true) = true := by rw [h1] <;> rfl
  have h2' : (PySem.W.clsIn K H).isSome = true := h2
  have e2 : ((PySem.W.clsIn K H).isSome && PySem.W.typeIn K (.ref H) == some (.type "type")) = true := by rw [h2', h3] <;> rfl
  have e3 : PySem.W.kitCls K (.ref C) (.ref H) = some b := by
    show (if ((PySem.W.clsIn K H).isSome && PySem.W.typeIn K (.ref H) == some (.type "type")) = true then PySem.W.subIn K (.ref C) (.ref H) else none) = some b
    rw [if_pos e2]
    exact h4
  refine ⟨?_, ?_⟩
  · unfold PySem.W.exmOne
    rw [if_pos e1]
    exact e3
  · unfold PySem.W.kitOne
    by_cases z : (Value.ref C == Value.ref H) = true
    · rw [if_pos z]
      have : C = H := by simpa using z
      rw [hb this]
    · rw [if_neg z]
      exact e3
theorem xf_blt {n : String} (h1 : PySem.W.subIn K (.type n) (.type "BaseException") = some true) (hm : PySem.W.kitMeta n = true) (h4 : PySem.W.subIn K (.ref C) (.type n) = some b) : PySem.W.exmOne K (.ref C) (.type n) = some b ∧ PySem.W.kitOne K (.ref C) (.type n) = some b := by
  have e1 : (PySem.W.subIn K (.type n) (.type "BaseException") == some true) = true := by rw [h1] <;> rfl
  have e3 : PySem.W.kitCls K (.ref C) (.type n) = some b := by
    unfold PySem.W.kitCls
    simp only [hm, if_true]
    exact h4
  refine ⟨?_, ?_⟩
  · unfold PySem.W.exmOne
    rw [if_pos e1]
    exact e3
  · unfold PySem.W.kitOne
    rw [if_neg (by simp)]
    exact e3
end
/-- a def whose closure holds its class: its object -/
theorem ks_binds {K : PySem.W.Frag} {ps : List Str} {fd : FuncData} (h : ∀ us : List Value, us.length = ps.length → bindArgs fd ⟨us, []⟩ = pure (ps.zip us)) : Binds K fd ps [] := .all h
/-- the law's promise -/
def spL (K : PySem.W.Frag) : Sp := fun vs H Q _ => ∃ (a : Addr) (ns : List Int), vs = [.ref a] ∧ SqL K H a (ns.map V.int) ∧ Only H ∧ ns.length ≤ 63 ∧ ∀ H', Q (.bl true) H'
/-- the script, as the law's def takes it -/
theorem law_in {K : PySem.W.Frag} {mg : Str → Option Value} {H : Hp} {a : Addr} {ns : List Int} {F : FM} {rmd : Md} {Q : VK} {E : XK} (hO : Only H) (hS : SqL K H a (ns.map V.int)) (hr : ∃ ds, F [.scr ns] = .ok (.bl true) ds) (hq : ∀ H', Q (.bl true) H') :
    spD ⟨K, mg, none⟩ [.s] rmd F [.ref a] H Q E := by
  obtain ⟨ds, hF⟩ := hr
  refine ⟨[.scr ns], fun _ => [], rfl, ⟨rfl, fun i d e => ?_, fun i e => rfl, fun i d x e o => absurd o.mem (by simp), fun x h => by cases h⟩, ?_⟩
  · cases i with
    | zero =>
      simp only [List.map_cons, List.map_nil, List.getElem?_cons_zero, Option.some.injEq] at e
      subst e
      refine ⟨.ref a, rfl, ?_⟩
      simp only [Rp]
      refine ⟨a, rfl, ?_, trivial⟩
      rcases hS with (h | ⟨o, h⟩) | h
      · rcases hO a with z | ⟨o, xs, z⟩
        · rw [z] at h; cases h
        · rw [z] at h; cases h
      · exact .inl ⟨o, h⟩
      · exact .inr fun H' => .inr h
    | succ i => simp at e
  · rw [hF]
    intro v H' N' n R S r V
    simp only [Rp] at r
    rw [r.1]
    exact hq H'
/-- the head's goal, from the law's def -/
theorem law_walk {l : PySem.W.OpenLaw} {k : Nat} {x : Str} {q : Program} {loose : List Str} {XP : (Str → Option Value) → Heap → Prop} {YP : World → Heap → Prop} {d : DefRec} {K : Params → PySem.W.Frag} (hn : l.most = some 63) (hdf : d.params.defaults = []) (hr : Room k callerA)
    (hY : ∀ (w : World) (h : Heap), YP w h → (K w.params).In h)
    (F : ∀ (w : World) (mg : Str → Option Value) (fa : Addr) (h : Heap), (K w.params).In h → h.Ns mainGlobals mg → mg d.name = some (.ref fa) →
      ∃ fd : FuncData, (∀ (s : Shared) (u : Value), BindsTo s fd ⟨[u], []⟩ [(x, u)]) ∧ ∀ base : Heap, (K w.params).In base → base.Ns mainGlobals mg → FnOk l.prog w (K w.params) mg base (L2.CX l.prog w) k fa fd [x] (spL (K w.params))) :
    PySem.W.WalkO q loose XP YP l.row.toRowW d [] (fun f vs => PySem.call f vs) :=
  L2.walk_of (n := 63) (k := k) (x := x) (CX := fun w => L2.CX l.prog w) (sp := fun w => spL (K w.params)) hn (by decide) hdf hr hY F (fun _ _ a ns hl hO hS => ⟨a, ns, rfl, hS, hO, hl, fun _ => rfl⟩) fun w H s e s' z => by
    obtain ⟨_, _, _, _, _, _, _, _, _, _, _, _, z⟩ := z
    exact z
end VS
/-! VS: the meanings, step by step (for the plain part). -/
namespace VS
open PySem
section
variable {env e : En} {d a b : D} {ds : List D} {i j k n : Nat} {m m1 m2 m3 : EM} {ms : AM} {t t1 t2 : BM} {s s1 s2 : SM} {g g' : D → D → Option D} {c : Bool} {pm : PM}
@[simp] theorem e_mVar : mVar i env = match env[i]? with | some (some d) => .ok d env | _ => .bad := id rfl
@[simp] theorem e_mC : mC d env = .ok d env := id rfl
@[simp] theorem e_mP : mP m env = (m env).bind mP2 := id rfl
@[simp] theorem e_mP2 : mP2 d env = if d.pure = true then .ok d env else .bad := id rfl
@[simp] theorem e_mF : mF m env = (m env).bind mF2 := id rfl
@[simp] theorem e_mF2 : mF2 d env = if d.flat = true ∨ d.pure = true then .ok d env else .bad := id rfl
@[simp] theorem e_fin : fin c (some d) e = if (c && !(d.pure || d.flat)) = true then .bad else .ok d e := id rfl
@[simp] theorem e_finN : fin c none e = .bad := id rfl
@[simp] theorem e_mBin : mBin c g m1 m2 env = (m1 env).bind (mBin2 c g m2) := id rfl
@[simp] theorem e_mBin2 : mBin2 c g m2 a e = (m2 e).bind (mBin3 c g a) := id rfl
@[simp] theorem e_mBin3 : mBin3 c g a b e = fin c (g a b) e := id rfl
@[simp] theorem e_mAdd : mAdd c m1 m2 env = mBin c pyAdd m1 m2 env := id rfl
@[simp] theorem e_mSub : mSub m1 m2 env = mBin false pySub m1 m2 env := id rfl
@[simp] theorem e_mMul : mMul m1 m2 env = mBin false pyMul m1 m2 env := id rfl
@[simp] theorem e_mFdiv : mFdiv m1 m2 env = mBin false pyFdiv m1 m2 env := id rfl
@[simp] theorem e_mMod : mMod m1 m2 env = mBin false pyMod m1 m2 env := id rfl
@[simp] theorem e_mPow : mPow m1 m2 env = mBin false pyPow m1 m2 env := id rfl
@[simp] theorem e_mLt : mLt m1 m2 env = mBin false pyLt m1 m2 env := id rfl
@[simp] theorem e_mLe : mLe m1 m2 env = mBin false pyLe m1 m2 env := id rfl
@[simp] theorem e_mGt : mGt m1 m2 env = mBin false pyGt m1 m2 env := id rfl
@[simp] theorem e_mGe : mGe m1 m2 env = mBin false pyGe m1 m2 env := id rfl
@[simp] theorem e_mEq : mEq m1 m2 env = mBin false pyEq m1 m2 env := id rfl
@[simp] theorem e_mNe : mNe m1 m2 env = mBin false pyNe m1 m2 env := id rfl
@[simp] theorem e_mIn : mIn m1 m2 env = mBin false pyIn m1 m2 env := id rfl
@[simp] theorem e_mNotIn : mNotIn m1 m2 env = mBin false pyNotIn m1 m2 env := id rfl
@[simp] theorem e_mIsN : mIsN m1 m2 env = mBin false pyIsN m1 m2 env := id rfl
@[simp] theorem e_mNotN : mNotN m1 m2 env = mBin false pyNotN m1 m2 env := id rfl
@[simp] theorem e_mIdx : mIdx m1 m2 env = mBin false pyIdx m1 m2 env := id rfl
@[simp] theorem p_add {i j : Int} : pyAdd (.int i) (.int j) = some (.int (i + j)) := id rfl
@[simp] theorem p_sub {i j : Int} : pySub (.int i) (.int j) = some (.int (i - j)) := id rfl
@[simp] theorem p_mul {i j : Int} : pyMul (.int i) (.int j) = if okMul i j = true then some (.int (i * j)) else none := id rfl
@[simp] theorem p_fdiv {i j : Int} : pyFdiv (.int i) (.int j) = if 0 < j ∧ j.natAbs.log2 < 9000 then some (.int (i / j)) else none := id rfl
@[simp] theorem p_mod {i j : Int} : pyMod (.int i) (.int j) = if 0 < j then some (.int (i % j)) else none := id rfl
@[simp] theorem p_pow {i j : Int} : pyPow (.int i) (.int j) = if 0 ≤ j ∧ j ≤ 1000000 ∧ i.natAbs < 2 ^ 64 then some (.int (i ^ j.toNat)) else none := id rfl
@[simp] theorem p_lt {i j : Int} : pyLt (.int i) (.int j) = some (.bl (decide (i < j))) := id rfl
@[simp] theorem p_le {i j : Int} : pyLe (.int i) (.int j) = some (.bl (decide (i ≤ j))) := id rfl
@[simp] theorem p_gt {i j : Int} : pyGt (.int i) (.int j) = some (.bl (decide (j < i))) := id rfl
@[simp] theorem p_ge {i j : Int} : pyGe (.int i) (.int j) = some (.bl (decide (j ≤ i))) := id rfl
@[simp] theorem p_isN : pyIsN a .non = some (.bl a.isNon) := id rfl
@[simp] theorem p_notN : pyNotN a .non = some (.bl (!a.isNon)) := id rfl
@[simp] theorem p_addT {xs ys : List D} : pyAdd (.tup xs) (.tup ys) = if xs.length + ys.length ≤ LIM then some (.tup (xs ++ ys)) else none := id rfl
@[simp] theorem p_addL {xs ys : List D} : pyAdd (.lst xs) (.lst ys) = if xs.length + ys.length ≤ LIM then some (.lst (xs ++ ys)) else none := id rfl
@[simp] theorem p_idxT {xs : List D} {i : Int} : pyIdx (.tup xs) (.int i) = L2.atI xs i := id rfl
@[simp] theorem p_idxL {xs : List D} {i : Int} : pyIdx (.lst xs) (.int i) = L2.atI xs i := id rfl
@[simp] theorem e_aNil : aNil env = .ok [] env := id rfl
@[simp] theorem e_aCons : aCons m ms env = (m env).bind (aCons2 ms) := id rfl
@[simp] theorem e_aCons2 : aCons2 ms d e = (ms e).bind (aCons3 d) := id rfl
@[simp] theorem e_aCons3 : aCons3 d ds e = .ok (d :: ds) e := id rfl
@[simp] theorem e_mArg {g : List D → Option D} : mArg c g ms env = (ms env).bind (mArg2 c g) := id rfl
@[simp] theorem e_mArg2 {g : List D → Option D} : mArg2 c g ds e = fin c (g ds) e := id rfl
@[simp] theorem e_mTup : mTup c ms env = mArg c dTup ms env := id rfl
@[simp] theorem e_mLst : mLst c ms env = mArg c dLst ms env := id rfl
@[simp] theorem e_dTup : dTup ds = if ds.length ≤ LIM then some (.tup ds) else none := id rfl
@[simp] theorem e_dLst : dLst ds = if ds.length ≤ LIM then some (.lst ds) else none := id rfl
@[simp] theorem e_mDct0 : mDct0 env = .ok (.dct ⟨false, false⟩ []) env := id rfl
@[simp] theorem e_mDctT : mDctT env = .ok (.dct ⟨true, false⟩ []) env := id rfl
@[simp] theorem g_lenT {xs : List D} : gLn [.tup xs] = some (.int xs.length) := id rfl
@[simp] theorem g_lenL {xs : List D} : gLn [.lst xs] = some (.int xs.length) := id rfl
@[simp] theorem g_intI {i : Int} : gInt [.int i] = some (.int i) := id rfl
@[simp] theorem g_tupT {xs : List D} : gTup [.tup xs] = some (.tup xs) := id rfl
@[simp] theorem g_tupL {xs : List D} : gTup [.lst xs] = some (.tup xs) := id rfl
@[simp] theorem g_lstT {xs : List D} : gList [.tup xs] = some (.lst xs) := id rfl
@[simp] theorem g_lstL {xs : List D} : gList [.lst xs] = some (.lst xs) := id rfl
@[simp] theorem e_mSl {pl ph : Part} : mSl c m pl ph env = (m env).bind (mSl2 c pl ph) := id rfl
@[simp] theorem e_mSl2 {pl ph : Part} : mSl2 c pl ph d e = mSl3 c d e (pl e) (ph e) := id rfl
@[simp] theorem e_mSl3 {lo hi : Option Int} : mSl3 c d e (some lo) (some hi) = fin c (pySl d lo hi) e := id rfl
@[simp] theorem e_pNo : pNo env = some none := id rfl
@[simp] theorem e_pYes : pYes m env = pYes2 (m env) := id rfl
@[simp] theorem e_pYes2 {i : Int} : pYes2 (.ok (.int i) e) = some (some i) := id rfl
@[simp] theorem p_slT {xs : List D} {lo hi : Option Int} : pySl (.tup xs) lo hi = some (.tup (((xs.drop (HT.sIx xs.length 0 lo)).take (HT.sIx xs.length xs.length hi - HT.sIx xs.length 0 lo)))) := id rfl
@[simp] theorem p_slL {xs : List D} {lo hi : Option Int} : pySl (.lst xs) lo hi = some (.lst (((xs.drop (HT.sIx xs.length 0 lo)).take (HT.sIx xs.length xs.length hi - HT.sIx xs.length 0 lo)))) := id rfl
@[simp] theorem e_mUn {g : D → Option D} : mUn g m env = (m env).bind (mUn2 g) := id rfl
@[simp] theorem e_mUn2 {g : D → Option D} : mUn2 g d e = fin false (g d) e := id rfl
@[simp] theorem e_mNeg : mNeg m env = mUn pyNeg m env := id rfl
@[simp] theorem e_mNotV : mNotV m env = mUn pyNotB m env := id rfl
@[simp] theorem p_neg {i : Int} : pyNeg (.int i) = some (.int (-i)) := id rfl
@[simp] theorem p_notB {k : Bool} : pyNotB (.bl k) = some (.bl (!k)) := id rfl
@[simp] theorem e_mAnd : mAnd m1 m2 env = (m1 env).bind (mAnd3 m2) := id rfl
@[simp] theorem e_mAndB {k : Bool} : mAnd3 m2 (.bl k) e = if k = true then m2 e else .ok (.bl false) e := by cases k <;> rfl
@[simp] theorem e_mOr : mOr m1 m2 env = (m1 env).bind (mOr3 m2) := id rfl
@[simp] theorem e_mOrB {k : Bool} : mOr3 m2 (.bl k) e = if k = true then .ok (.bl true) e else m2 e := by cases k <;> rfl
@[simp] theorem e_bT : bT m env = (m env).bind bT2 := id rfl
@[simp] theorem e_bT2B {k : Bool} : bT2 (.bl k) e = .ok k e := id rfl
@[simp] theorem e_bAnd : bAnd t1 t2 env = (t1 env).bind (bAnd2 t2) := id rfl
@[simp] theorem e_bAnd2 {k : Bool} : bAnd2 t2 k e = if k = true then t2 e else .ok false e := id rfl
@[simp] theorem e_bOr : bOr t1 t2 env = (t1 env).bind (bOr2 t2) := id rfl
@[simp] theorem e_bOr2 {k : Bool} : bOr2 t2 k e = if k = true then .ok true e else t2 e := id rfl
@[simp] theorem e_bNot : bNot t env = (t env).bind bNot2 := id rfl
@[simp] theorem e_bNot2 {k : Bool} : bNot2 k e = .ok (!k) e := id rfl
@[simp] theorem e_mIf : mIf t m1 m2 env = (t env).bind (mIf2 m1 m2) := id rfl
@[simp] theorem e_mIf2 {k : Bool} : mIf2 m1 m2 k e = if k = true then m1 e else m2 e := id rfl
@[simp] theorem e_mCh : mCh g g' m1 m2 m3 env = (m1 env).bind (mCh2 g g' m2 m3) := id rfl
@[simp] theorem e_mCh2 : mCh2 g g' m2 m3 a e = (m2 e).bind (mCh3 g g' m3 a) := id rfl
theorem e_mCh3 {k : Bool} (h : g a b = some (.bl k)) : mCh3 g g' m3 a b e = if k = true then (m3 e).bind (mCh4 g' b) else .ok (.bl false) e := by unfold mCh3; rw [h]; cases k <;> rfl
@[simp] theorem e_mCh3le {i j : Int} : mCh3 pyLe g' m3 (.int i) (.int j) e = if i ≤ j then (m3 e).bind (mCh4 g' (.int j)) else .ok (.bl false) e := by rw [e_mCh3 p_le]; simp
@[simp] theorem e_mCh3lt {i j : Int} : mCh3 pyLt g' m3 (.int i) (.int j) e = if i < j then (m3 e).bind (mCh4 g' (.int j)) else .ok (.bl false) e := by rw [e_mCh3 p_lt]; simp
@[simp] theorem e_mCh4 : mCh4 g' a b e = fin false (g' a b) e := id rfl
@[simp] theorem e_mOfP : mOfP pm env = (pm env).bind mOfP2 := id rfl
@[simp] theorem e_mOfP2 {p : Plc} : mOfP2 p e = .ok p.1 e := id rfl
-- places, changes
@[simp] theorem e_pVar : pVar i env = match env[i]? with | some (some d) => .ok (d, id) env | _ => .bad := id rfl
@[simp] theorem e_pIdx : pIdx pm m env = (pm env).bind (pIdx2 m) := id rfl
@[simp] theorem e_pIdx2 {p : Plc} : pIdx2 m p e = (m e).bind (pIdx3 p) := id rfl
@[simp] theorem e_mMut {T : D → Bool} {g : D → List D → Option (D × D)} : mMut T i g pm ms env = (pm env).bind (mMut3 T i g ms) := id rfl
@[simp] theorem e_mMut3 {T : D → Bool} {g : D → List D → Option (D × D)} {p : Plc} : mMut3 T i g ms p e = if T p.1 = true then (ms e).bind (mMut4 i g p) else .bad := id rfl
@[simp] theorem e_mMut4 {g : D → List D → Option (D × D)} {p : Plc} : mMut4 i g p ds e = match g p.1 ds with | some (d', r) => .ok r (e.set i (some (p.2 d'))) | none => .bad := id rfl
@[simp] theorem g_append {xs : List D} {y : D} : gAppend (.lst xs) [y] = if xs.length < LIM then some (.lst (xs ++ [y]), .non) else none := id rfl
@[simp] theorem e_sPut {g : D → List D → Option (D × D)} {mv : EM} : sPut i g pm m mv env = (mv env).st (sPut2 i g pm m) := id rfl
@[simp] theorem e_sPut2 {g : D → List D → Option (D × D)} : sPut2 i g pm m d e = (pm e).st (sPut3 i g m d) := id rfl
@[simp] theorem e_sPut3 {g : D → List D → Option (D × D)} {p : Plc} : sPut3 i g m d p e = if p.1.isMut = true then (m e).st (sPut4 i g d p) else .bad := id rfl
@[simp] theorem e_sPut4 {g : D → List D → Option (D × D)} {p : Plc} {dk : D} : sPut4 i g d p dk e = match g p.1 [dk, d] with | some (d', _) => .nx (e.set i (some (p.2 d'))) | none => .bad := id rfl
@[simp] theorem g_setL {xs : List D} {k : Int} {y : D} : gSetL (.lst xs) [.int k, y] = (L2.ixN xs.length k).map fun j => (.lst (xs.set j y), .non) := id rfl
-- statements
@[simp] theorem e_sNil : sNil env = .nx env := id rfl
@[simp] theorem e_sSeq : sSeq s1 s2 env = (s1 env).bind s2 := id rfl
@[simp] theorem e_sBk : sBk env = .bk env := id rfl
@[simp] theorem e_sCt : sCt env = .ct env := id rfl
@[simp] theorem e_sEx : sEx m env = (m env).st sEx2 := id rfl
@[simp] theorem e_sEx2 : sEx2 d e = .nx e := id rfl
@[simp] theorem e_sRet : sRet m env = (m env).st sRet2 := id rfl
@[simp] theorem e_sRet2 : sRet2 d e = .rt d e := id rfl
@[simp] theorem e_sRetN : sRetN env = .rt .non env := id rfl
@[simp] theorem e_sIf : sIf t s1 s2 env = (t env).st (sIf2 s1 s2) := id rfl
@[simp] theorem e_sIf2 {k : Bool} : sIf2 s1 s2 k e = if k = true then s1 e else s2 e := id rfl
@[simp] theorem e_sSet : sSet i m env = (m env).st (sSet2 i) := id rfl
@[simp] theorem e_sSet2 : sSet2 i d e = if i < e.length then .nx (e.set i (some d)) else .bad := id rfl
@[simp] theorem e_gSet : gSet i d e = if i < e.length then some (e.set i (some d)) else none := id rfl
@[simp] theorem e_iVal : iVal m env = (m env).bind itemsOf := id rfl
@[simp] theorem i_tup {xs : List D} : itemsOf (.tup xs) e = .ok xs e := id rfl
@[simp] theorem i_lst {xs : List D} : itemsOf (.lst xs) e = .ok xs e := id rfl
@[simp] theorem e_iRng1 : iRng1 ms env = (ms env).bind rngOf1 := id rfl
@[simp] theorem e_iRng2 : iRng2 ms env = (ms env).bind rngOf2 := id rfl
@[simp] theorem e_rng1 {j : Int} : rngOf1 [.int j] e = if okR j = true then .ok (rngL 0 j.toNat) e else .bad := id rfl
@[simp] theorem e_rng2 {i j : Int} : rngOf2 [.int i, .int j] e = if (okR i && okR j) = true then .ok (rngL i (j - i).toNat) e else .bad := id rfl
@[simp] theorem e_sFor {f : D → En → Option En} : sFor ms f s env = (ms env).st (sFor2 f s) := id rfl
@[simp] theorem e_sFor2 {f : D → En → Option En} : sFor2 f s ds e = forL f s ds e := id rfl
@[simp] theorem e_turn : turn s (some e) = s e := id rfl
@[simp] theorem e_sWhile : sWhile k t s env = whN t s k env := id rfl
@[simp] theorem e_sRaise0 {c : Str} : sRaise0 c env = .exc ⟨c, []⟩ env := id rfl
@[simp] theorem e_mLc {vs : List Nat} {f : D → En → Option En} : mLc ms vs f t m env = (ms env).bind (mLc2 vs f t m) := id rfl
@[simp] theorem e_mLc2 {vs : List Nat} {f : D → En → Option En} : mLc2 vs f t m ds e = (lcL vs f t m ds [] e).nox := id rfl
@[simp] theorem e_bYes : bYes env = .ok true env := id rfl
-- calls
@[simp] theorem e_mCall {π : List Md} {rmd : Md} {al : Bool} {F : FM} {ags : List Ag} : mCall π rmd al F ags env = (agRun ags env).bind (mCall2 π (ags.map Ag.st) al rmd F) := id rfl
@[simp] theorem e_ag0 : agRun [] env = .ok [] env := id rfl
@[simp] theorem e_agV {r : List Ag} : agRun (.val m :: r) env = (m env).bind (gVal2 (agRun r)) := id rfl
@[simp] theorem e_agS {r : List Ag} : agRun (.slot j :: r) env = match env[j]? with | some (some _) => (agRun r env).bind (gCons3 none) | _ => .bad := id rfl
@[simp] theorem e_gVal2 {r : GM} : gVal2 r d e = (r e).bind (gCons3 (some d)) := id rfl
@[simp] theorem e_gCons3 {x : Option D} {xs : List (Option D)} : gCons3 x xs e = .ok (x :: xs) e := id rfl
@[simp] theorem e_mCall2 {π : List Md} {as : List As} {rmd : Md} {al : Bool} {F : FM} {xs : List (Option D)} : mCall2 π as al rmd F xs e = match rsv as xs e with | some ds => mCall3 π as al rmd e (F ds) | none => .bad := id rfl
@[simp] theorem e_mC3o {π : List Md} {as : List As} {rmd : Md} {al : Bool} {ds' : List D} : mCall3 π as al rmd e (.ok d ds') = if okRet al rmd d = true then .ok d (wb π as ds' e) else .bad := id rfl
@[simp] theorem e_mC3x {π : List Md} {as : List As} {rmd : Md} {al : Bool} {ds' : List D} {x : Exn} : mCall3 π as al rmd e (.exc x ds') = if pureF x.fs = true then .exc x (wb π as ds' e) else .bad := id rfl
@[simp] theorem e_okRet {rmd : Md} : okRet false rmd d = true := id rfl
@[simp] theorem e_okRetD : okRet c .d d = true := by cases c <;> simp [okRet]
@[simp] theorem e_pureF0 : pureF [] = true := id rfl
@[simp] theorem e_stV : Ag.st (.val m) = .val := id rfl
@[simp] theorem e_stS : Ag.st (.slot j) = .slot j := id rfl
@[simp] theorem e_rsv0 {xs : List (Option D)} : rsv [] xs e = some [] := id rfl
@[simp] theorem e_rsvS {as : List As} {x : Option D} {xs : List (Option D)} : rsv (.slot j :: as) (x :: xs) e = match e[j]? with | some (some d) => (rsv as xs e).map (d :: ·) | _ => none := id rfl
@[simp] theorem e_rsvV {as : List As} {xs : List (Option D)} : rsv (.val :: as) (some d :: xs) e = (rsv as xs e).map (d :: ·) := id rfl
@[simp] theorem e_wbN {as : List As} : wb [] as ds e = e := id rfl
@[simp] theorem e_wbC {x : Md} {π : List Md} {a : As} {as : List As} : wb (x :: π) (a :: as) (d :: ds) e = wb1 x a d (wb π as ds e) := id rfl
@[simp] theorem e_wb1V {x : Md} : wb1 x .val d e = e := id rfl
@[simp] theorem e_wb1S {x : Md} : wb1 x (.slot j) d e = if x.fix = true then e.set j (some d) else e := id rfl
@[simp] theorem fx_s : Md.fix .s = false := id rfl
@[simp] theorem fx_fd : Md.fix .fd = true := id rfl
@[simp] theorem fx_fr : Md.fix .fr = true := id rfl
@[simp] theorem e_outN {e : D} {r : En} : outR [] ds (.nx env) = .ok .non [] := id rfl
@[simp] theorem e_outRn {π : List Md} : outR π ds (.nx e) = match outD π ds e with | some ds' => .ok .non ds' | none => .bad := id rfl
@[simp] theorem e_outRr {π : List Md} : outR π ds (.rt d e) = match outD π ds e with | some ds' => .ok d ds' | none => .bad := id rfl
@[simp] theorem e_outRx {π : List Md} {x : Exn} : outR π ds (.exc x e) = match outD π ds e with | some ds' => .exc x ds' | none => .bad := id rfl
@[simp] theorem e_outD0 : outD [] ds e = some [] := id rfl
@[simp] theorem e_outDs {π : List Md} {r : En} {o : Option D} : outD (.s :: π) (d :: ds) (o :: r) = (outD π ds r).map (d :: ·) := by simp [outD, Md.fix]
@[simp] theorem e_outDf {π : List Md} {r : En} : outD (.fd :: π) (d :: ds) (some a :: r) = (outD π ds r).map (a :: ·) := by simp [outD, Md.fix]
@[simp] theorem pr_int {i : Int} : D.pure (.int i) = true := id rfl
@[simp] theorem pr_bl {k : Bool} : D.pure (.bl k) = true := id rfl
@[simp] theorem pr_str {x : Str} : D.pure (.str x) = true := id rfl
@[simp] theorem pr_non : D.pure .non = true := id rfl
@[simp] theorem pr_tup {xs : List D} : D.pure (.tup xs) = pureL xs := id rfl
@[simp] theorem fl_lst {xs : List D} : D.flat (.lst xs) = pureL xs := id rfl
@[simp] theorem pl_nil : pureL [] = true := id rfl
@[simp] theorem pl_cons {x : D} {xs : List D} : pureL (x :: xs) = (x.pure && pureL xs) := id rfl
@[simp] theorem mu_lst {xs : List D} : D.isMut (.lst xs) = true := id rfl
@[simp] theorem isL_lst {xs : List D} : D.isL (.lst xs) = true := id rfl
theorem e_fnM {π : List Md} {body : SM} : fnM π n body ds = outR π ds (body (ds.map some ++ List.replicate (n - ds.length) none)) := rfl
end
section
variable {a b : Str} {i j : Int} {k l : Bool}
@[simp] theorem p_eqS (ha : PyData.strOk a = true) (hb : PyData.strOk b = true) : pyEq (.str a) (.str b) = some (.bl (a == b)) := by simp [pyEq, D.dat, D.dep, D.eqv, ha, hb]
@[simp] theorem p_neS (ha : PyData.strOk a = true) (hb : PyData.strOk b = true) : pyNe (.str a) (.str b) = some (.bl (!(a == b))) := by simp [pyNe, D.dat, D.dep, D.eqv, ha, hb]
@[simp] theorem p_eqI : pyEq (.int i) (.int j) = some (.bl (i == j)) := by simp [pyEq, D.dat, D.dep, D.eqv]
@[simp] theorem p_neI : pyNe (.int i) (.int j) = some (.bl (!(i == j))) := by simp [pyNe, D.dat, D.dep, D.eqv]
@[simp] theorem p_eqIS (h : PyData.strOk b = true) : pyEq (.int i) (.str b) = some (.bl false) := by simp [pyEq, D.dat, D.dep, D.eqv, h]
@[simp] theorem p_eqSI (h : PyData.strOk a = true) : pyEq (.str a) (.int i) = some (.bl false) := by simp [pyEq, D.dat, D.dep, D.eqv, h]
@[simp] theorem p_neIS (h : PyData.strOk b = true) : pyNe (.int i) (.str b) = some (.bl true) := by simp [pyNe, D.dat, D.dep, D.eqv, h]
@[simp] theorem p_neSI (h : PyData.strOk a = true) : pyNe (.str a) (.int i) = some (.bl true) := by simp [pyNe, D.dat, D.dep, D.eqv, h]
@[simp] theorem p_eqB : pyEq (.bl k) (.bl l) = some (.bl (k == l)) := by simp [pyEq, D.dat, D.dep, D.eqv]
@[simp] theorem p_neB : pyNe (.bl k) (.bl l) = some (.bl (!(k == l))) := by simp [pyNe, D.dat, D.dep, D.eqv]
end
/-- what a turn of a loop has to reach -/
def Sr.lp (I : En → Prop) (R : Sr → Prop) : Sr → Prop
  | .nx e | .ct e => I e
  | .bk e => R (.nx e)
  | r => R r
@[simp] theorem lp_nx {I : En → Prop} {R : Sr → Prop} {e : En} : Sr.lp I R (.nx e) = I e := id rfl
@[simp] theorem lp_ct {I : En → Prop} {R : Sr → Prop} {e : En} : Sr.lp I R (.ct e) = I e := id rfl
@[simp] theorem lp_bk {I : En → Prop} {R : Sr → Prop} {e : En} : Sr.lp I R (.bk e) = R (.nx e) := id rfl
@[simp] theorem lp_rt {I : En → Prop} {R : Sr → Prop} {d : D} {e : En} : Sr.lp I R (.rt d e) = R (.rt d e) := id rfl
@[simp] theorem lp_exc {I : En → Prop} {R : Sr → Prop} {x : Exn} {e : En} : Sr.lp I R (.exc x e) = R (.exc x e) := id rfl
/-! ### loops -/
/-- a loop over a row, by its invariant: I behind i turns; R what may come out early, and at the end -/
theorem forL_rule {f : D → En → Option En} {b : SM} (I : Nat → En → Prop) (R : Sr → Prop) : ∀ (ds : List D) (i0 : Nat) (e : En), I i0 e →
    (∀ i d e, ds[i]? = some d → I (i0 + i) e → ∃ e1, f d e = some e1 ∧ (b e1).lp (I (i0 + i + 1)) R) → (∀ e, I (i0 + ds.length) e → R (.nx e)) → R (forL f b ds e)
  | [], i0, e, h0, _, he => by unfold forL; exact he e (by simpa using h0)
  | d :: r, i0, e, h0, hs, he => by
    unfold forL
    obtain ⟨e1, h1, h2⟩ := hs 0 d e rfl (by simpa using h0)
    rw [h1]
    show R ((b e1).loop (forL f b r))
    have go : ∀ e2, I (i0 + 1) e2 → R (forL f b r e2) := fun e2 h => forL_rule I R r (i0 + 1) e2 h (fun i d e hd hI => by
      have := hs (i + 1) d e (by simpa using hd) (by rw [show i0 + (i + 1) = i0 + 1 + i by omega]; exact hI)
      rw [show i0 + (i + 1) + 1 = i0 + 1 + i + 1 by omega] at this
      exact this) fun e hI => he e (by rw [show i0 + (d :: r).length = i0 + 1 + r.length by simp; omega]; exact hI)
    cases eb : b e1 with
    | nx e2 => rw [eb] at h2; exact go e2 h2
    | ct e2 => rw [eb] at h2; exact go e2 h2
    | bk e2 => rw [eb] at h2; exact h2
    | rt d e2 => rw [eb] at h2; exact h2
    | exc x e2 => rw [eb] at h2; exact h2
    | bad => rw [eb] at h2; exact h2
/-- a comprehension, by its invariant -/
theorem lcL_rule {vs : List Nat} {f : D → En → Option En} {t : BM} {m : EM} (I : Nat → List D → En → Prop) (R : List D → En → Prop) : ∀ (ds acc : List D) (i0 : Nat) (e : En), I i0 acc e →
    (∀ i d acc e, ds[i]? = some d → I (i0 + i) acc e → ∃ e1, f d (dropV e vs) = some e1 ∧ ∃ b e2, t e1 = .ok b e2 ∧ (b = false → I (i0 + i + 1) acc e2) ∧ (b = true → acc.length < LIM ∧ ∃ y e3, m e2 = .ok y e3 ∧ I (i0 + i + 1) (acc ++ [y]) e3)) →
    (∀ acc e, I (i0 + ds.length) acc e → R acc (dropV e vs)) → ∃ acc' e', lcL vs f t m ds acc e = .ok (.lst acc') e' ∧ R acc' e'
  | [], acc, i0, e, h0, _, he => ⟨acc, dropV e vs, rfl, he acc e (by simpa using h0)⟩
  | d :: r, acc, i0, e, h0, hs, he => by
    unfold lcL
    obtain ⟨e1, h1, b, e2, h2, h3, h4⟩ := hs 0 d acc e rfl (by simpa using h0)
    have go : ∀ acc e2, I (i0 + 1) acc e2 → ∃ acc' e', lcL vs f t m r acc e2 = .ok (.lst acc') e' ∧ R acc' e' := fun acc e2 h => lcL_rule I R r acc (i0 + 1) e2 h (fun i d acc e hd hI => by
      have := hs (i + 1) d acc e (by simpa using hd) (by rw [show i0 + (i + 1) = i0 + 1 + i by omega]; exact hI)
      rw [show i0 + (i + 1) + 1 = i0 + 1 + i + 1 by omega] at this
      exact this) fun acc e hI => he acc e (by rw [show i0 + (d :: r).length = i0 + 1 + r.length by simp; omega]; exact hI)
    rw [h1]
    simp only [lcT, h2, Rt.bind_ok, lc2]
    cases b with
    | false => rw [if_neg Bool.false_ne_true]; exact go acc e2 (h3 rfl)
    | true =>
      obtain ⟨hl, y, e3, h5, h6⟩ := h4 rfl
      rw [if_pos rfl, h5]
      simp only [Rt.bind_ok, lc3, hl, if_true]
      exact go _ e3 h6
/-- a row, by its turns -/
theorem all_take {p : D → Bool} {xs : List D} {i : Nat} {d : D} (h : (xs.take i).all p = true) (e : xs[i]? = some d) (hp : p d = true) : (xs.take (i + 1)).all p = true := by
  rw [List.take_succ, e]
  simp only [Option.toList_some, List.all_append, List.all_cons, List.all_nil, Bool.and_true]
  simp only [h, hp, Bool.and_self]
theorem all_not {p : D → Bool} {xs : List D} {i : Nat} {d : D} (e : xs[i]? = some d) (hp : p d = false) : xs.all p = false := by
  rw [List.all_eq_false]
  exact ⟨d, List.mem_of_getElem? e, by simp [hp]⟩
/-- a loop that looks for an item that is none: its turn goes on or returns -/
theorem forL_all {f : D → En → Option En} {b : SM} {p : D → Bool} {xs : List D} {e0 : En} {ret : D} (S : En → Prop) (h0 : S e0) (hs : ∀ d e, d ∈ xs → S e → ∃ e1, f d e = some e1 ∧ ((p d = true ∧ ∃ e2, b e1 = .nx e2 ∧ S e2) ∨ (p d = false ∧ ∃ e2, b e1 = .rt ret e2 ∧ S e2))) :
    (xs.all p = true ∧ ∃ e, forL f b xs e0 = .nx e ∧ S e) ∨ (xs.all p = false ∧ ∃ e, forL f b xs e0 = .rt ret e ∧ S e) := by
  refine forL_rule (fun i e => S e ∧ (xs.take i).all p = true) (fun r => (xs.all p = true ∧ ∃ e, r = .nx e ∧ S e) ∨ (xs.all p = false ∧ ∃ e, r = .rt ret e ∧ S e)) xs 0 e0 ⟨h0, rfl⟩ (fun i d e hd ⟨h1, h2⟩ => ?_) (fun e ⟨h1, h2⟩ => .inl ⟨by simpa using h2, e, rfl, h1⟩)
  rw [Nat.zero_add] at h2 ⊢
  obtain ⟨e1, g1, g2⟩ := hs d e (List.mem_of_getElem? hd) h1
  refine ⟨e1, g1, ?_⟩
  rcases g2 with ⟨g2, e2, g3, g4⟩ | ⟨g2, e2, g3, g4⟩
  · rw [g3]; exact ⟨g4, all_take h2 hd g2⟩
  · rw [g3]; exact .inr ⟨all_not hd g2, e2, rfl, g4⟩
theorem forL_allK {f : D → En → Option En} {b : SM} {xs : List D} {e0 : En} (R : Sr → Prop) (p : D → Bool) (ret : D) (S : En → Prop) (h0 : S e0) (hs : ∀ d e, d ∈ xs → S e → ∃ e1, f d e = some e1 ∧ ((p d = true ∧ ∃ e2, b e1 = .nx e2 ∧ S e2) ∨ (p d = false ∧ ∃ e2, b e1 = .rt ret e2 ∧ S e2)))
    (h1 : xs.all p = true → ∀ e, S e → R (.nx e)) (h2 : xs.all p = false → ∀ e, S e → R (.rt ret e)) : R (forL f b xs e0) := by
  rcases forL_all (p := p) (ret := ret) S h0 hs with ⟨k1, e, k2, k3⟩ | ⟨k1, e, k2, k3⟩
  · rw [k2]; exact h1 k1 e k3
  · rw [k2]; exact h2 k1 e k3
/-- while, by its invariant: I k with k turns left -/
theorem whN_rule {t : BM} {b : SM} (I : Nat → En → Prop) (R : Sr → Prop) (h0 : ∀ e, ¬ I 0 e) (hs : ∀ k e, I (k + 1) e → ∃ c e1, t e = .ok c e1 ∧ (c = false → R (.nx e1)) ∧ (c = true → (b e1).lp (I k) R)) : ∀ (k : Nat) (e : En), I k e → R (whN t b k e)
  | 0, e, h => absurd h (h0 e)
  | k + 1, e, h => by
    unfold whN
    obtain ⟨c, e1, h1, h2, h3⟩ := hs k e h
    rw [h1]
    simp only [Rt.st_ok, whB]
    cases c with
    | false => rw [if_neg Bool.false_ne_true]; exact h2 rfl
    | true =>
      rw [if_pos rfl]
      have h4 := h3 rfl
      cases eb : b e1 with
      | nx e2 => rw [eb] at h4; exact whN_rule I R h0 hs k e2 h4
      | ct e2 => rw [eb] at h4; exact whN_rule I R h0 hs k e2 h4
      | bk e2 => rw [eb] at h4; exact h4
      | rt d e2 => rw [eb] at h4; exact h4
      | exc x e2 => rw [eb] at h4; exact h4
      | bad => rw [eb] at h4; exact h4
/-! ### ints -/
def intsD (ns : List Int) : List D := ns.map .int
@[simp] theorem intsD_nil : intsD [] = [] := id rfl
@[simp] theorem intsD_cons {i : Int} {r : List Int} : intsD (i :: r) = .int i :: intsD r := id rfl
theorem intsD_app {a b : List Int} : intsD (a ++ b) = intsD a ++ intsD b := by simp [intsD]
@[simp] theorem intsD_len {a : List Int} : (intsD a).length = a.length := by simp [intsD]
@[simp] theorem intsD_pure : ∀ {a : List Int}, pureL (intsD a) = true
  | [] => rfl
  | _ :: r => by simp [intsD_pure (a := r)]
theorem intsD_dat : ∀ {a : List Int}, datL (intsD a) = true
  | [] => rfl
  | _ :: r => by simp [datL, D.dat, intsD_dat (a := r)]
theorem intsD_dep : ∀ {a : List Int}, depL (intsD a) = 0
  | [] => rfl
  | _ :: r => by simp [depL, D.dep, intsD_dep (a := r)]
theorem inL_ints {k : Int} : ∀ {a : List Int}, inL (.int k) (intsD a) = a.contains k
  | [] => rfl
  | x :: r => by
    have := inL_ints (k := k) (a := r)
    simp only [inL, intsD_cons, List.any_cons, List.contains_cons] at this ⊢
    rw [this]
    simp only [D.eqv]
    congr 1
    exact Bool.beq_comm (a := x) (b := k) |>.trans rfl
@[simp] theorem in_intsT {k : Int} {a : List Int} : pyIn (.int k) (.tup (intsD a)) = some (.bl (a.contains k)) := by simp [pyIn, D.dat, D.dep, intsD_dat, intsD_dep, inL_ints]
@[simp] theorem in_intsL {k : Int} {a : List Int} : pyIn (.int k) (.lst (intsD a)) = some (.bl (a.contains k)) := by simp [pyIn, D.dat, D.dep, intsD_dat, intsD_dep, inL_ints]
@[simp] theorem LIM_val : LIM = 16777216 := id rfl
theorem lp_of {I : En → Prop} {R : Sr → Prop} {r : Sr} {e : En} (h : r = .nx e) (hi : I e) : r.lp I R := by rw [h]; exact hi
end VS
/-! VS: is of flags; one value that makes a new list; range with the step -1. -/
namespace VS
open PySem PySem.Spec PyProof.Rows L2
/-! ### is, is not of flags -/
def pyIsB : D → D → Option D
  | .bl a, .bl b => some (.bl (decide (a = b)))
  | _, _ => none
def pyNotBl : D → D → Option D
  | .bl a, .bl b => some (.bl (!decide (a = b)))
  | _, _ => none
theorem isB_some {a b d : D} (e : pyIsB a b = some d) : ∃ x y, a = .bl x ∧ b = .bl y ∧ d = .bl (decide (x = y)) := by
  unfold pyIsB at e; split at e <;> cases e; exact ⟨_, _, rfl, rfl, rfl⟩
theorem notBl_some {a b d : D} (e : pyNotBl a b = some d) : ∃ x y, a = .bl x ∧ b = .bl y ∧ d = .bl (!decide (x = y)) := by
  unfold pyNotBl at e; split at e <;> cases e; exact ⟨_, _, rfl, rfl, rfl⟩
def mIsB (m1 m2 : EM) : EM := mBin false pyIsB m1 m2
def mNotBl (m1 m2 : EM) : EM := mBin false pyNotBl m1 m2
theorem pu_isB : ∀ a b d, pyIsB a b = some d → d.pure = true := fun a b d e => by obtain ⟨_, _, _, _, rfl⟩ := isB_some e; rfl
theorem pu_notBl : ∀ a b d, pyNotBl a b = some d → d.pure = true := fun a b d e => by obtain ⟨_, _, _, _, rfl⟩ := notBl_some e; rfl
theorem bl_isB : ∀ a b d, pyIsB a b = some d → ∃ k, d = .bl k := fun a b d e => by obtain ⟨_, _, _, _, rfl⟩ := isB_some e; exact ⟨_, rfl⟩
theorem bl_notBl : ∀ a b d, pyNotBl a b = some d → ∃ k, d = .bl k := fun a b d e => by obtain ⟨_, _, _, _, rfl⟩ := notBl_some e; exact ⟨_, rfl⟩
section
variable {X : Cx} {xv : XV} {μ : List Md} {W : WX} {pos p : Pos} {e tg a b c : Expr} {ro ro1 ro2 dp : Bool} {md md1 md2 : Md} {m m1 m2 : EM} {ms : AM}
theorem ops_isB : OpS (gx X xv) rIsB pyIsB := OpS.sc pu_isB fun H a b da db na nb d Q ra rb e q => by
  obtain ⟨x, y, rfl, rfl, rfl⟩ := isB_some e
  simp only [Rp] at ra rb
  exact ⟨x, y, ra.1, rb.1, q _ (by simp [Rp])⟩
theorem ops_notBl : OpS (gx X xv) rNotB pyNotBl := OpS.sc pu_notBl fun H a b da db na nb d Q ra rb e q => by
  obtain ⟨x, y, rfl, rfl, rfl⟩ := notBl_some e
  simp only [Rp] at ra rb
  exact ⟨x, y, ra.1, rb.1, q _ (by simp [Rp])⟩
section
variable (h1 : PEV X xv μ W a ro1 md1 m1) (h2 : PEV X xv μ W b ro2 md2 m2) (al : md1 = .al → ro2 = true := by decide)
include h1 h2 al
theorem v_isB : PEV X xv μ W (.Compare a [.Is] [b] pos) (ro1 && ro2) md (mIsB m1 m2) := v_cmp op_isBl ops_isB h1 h2 (nomark _) pu_isB al
theorem v_notBl : PEV X xv μ W (.Compare a [.IsNot] [b] pos) (ro1 && ro2) md (mNotBl m1 m2) := v_cmp op_notBl ops_notBl h1 h2 (nomark _) pu_notBl al
theorem t_isB : PTV X xv μ W (.Compare a [.Is] [b] pos) (ro1 && ro2) (bT (mIsB m1 m2)) := t_cmp op_isBl ops_isB h1 h2 (nomark _) bl_isB al
theorem t_notBl : PTV X xv μ W (.Compare a [.IsNot] [b] pos) (ro1 && ro2) (bT (mNotBl m1 m2)) := t_cmp op_notBl ops_notBl h1 h2 (nomark _) bl_notBl al
end
/-! ### one value that makes a new one, which may share -/
def mUnC2 (chk : Bool) (g : D → Option D) (d : D) (e : En) : Rt D := fin chk (g d) e
def mUnC (chk : Bool) (g : D → Option D) (m : EM) : EM := fun env => (m env).bind (mUnC2 chk g)
abbrev UnS (G : Gt) (r : V → Hp → VK → Prop) (g : D → Option D) : Prop := ∀ {H : Hp} {a : V} {da d : D} {na : List Addr} {Q : VK}, Rp G H da a na → g da = some d →
  (∀ v H' n, Rp G H' d v n → (∀ a o, H a = some o → H' a = some o) → (∀ x ∈ n, x ∈ na ∨ H x = none) → (∀ x, Own .r d n x → n.count x = 1 ∧ H x = none) → Q v H') → r a H Q
theorem v_unC {r : V → Hp → VK → Prop} {g : D → Option D} (hpe : ∀ te, PE X a te → PE X b (fun σ H Q => te σ H fun x H1 => r x H1 Q)) (hs : UnS (gx X xv) r g) (h : PEV X xv μ W a ro1 md1 m1) (chk : Bool) (hc : md1 = .al → chk = true := by decide) : PEV X xv μ W b ro1 .r (mUnC chk g m1) := by
  refine ⟨PE.imp (hpe _ h.pe) fun σ H Q ⟨env, N, R0, q⟩ => ⟨env, N, R0, ?_⟩, fun z env d e' k => ?_⟩
  · unfold mUnC at q
    cases e1 : m1 env with
    | bad => rw [e1] at q; exact q
    | exc x env1 => rw [e1] at q; exact q
    | ok da env1 =>
      rw [e1] at q
      simp only [Rt.bind_ok, mUnC2] at q
      intro v1 H1 N1 n1 R1 S1 r1 V1
      simp only [fin] at q
      cases eg : g da with
      | none => rw [eg] at q; exact q.elim
      | some d =>
        rw [eg] at q
        refine hs r1 eg fun v H4 n r4 k14 sub own => ?_
        have S4 : Stp μ ro1 env H N env1 H4 N1 := (S1.trans (Stp.new (ro := true) k14)).mono (by simp)
        by_cases hp : d.pure = true
        · have hn := r4.pure hp
          subst hn
          simp only [hp, Bool.true_or, Bool.not_true, Bool.and_false, Bool.false_eq_true, if_false] at q
          exact q v H4 N1 [] (R1.ext k14) S4 r4 .nil
        · have hcf : chk = false ∨ d.flat = true := by
            cases chk with
            | false => exact .inl rfl
            | true =>
              cases hf : d.flat with
              | true => exact .inr rfl
              | false => simp only [hp, hf, Bool.or_self, Bool.not_false, Bool.and_self, if_true] at q; exact q.elim
          have q' : EQ (gx X xv) μ W ro1 .r env N σ H Q (.ok d env1) := by
            rcases hcf with rfl | hf
            · simp only [Bool.false_and, Bool.false_eq_true, if_false] at q; exact q
            · simp only [hf, Bool.or_true, Bool.not_true, Bool.and_false, Bool.false_eq_true, if_false] at q; exact q
          refine q' v H4 N1 n (R1.ext k14) S4 r4 ⟨fun x hx => ?_, fun _ x hx w => ?_, fun x o => ⟨(own x o).1, fun w => R1.there w (own x o).2⟩, fun x o => .inr (S1.dom x (own x o).2)⟩
          · rcases sub x hx with z | z
            · exact V1.sub x z
            · exact .inr (S1.dom x z)
          · rcases hcf with rfl | hf
            · have z1 : md1 ≠ .al := fun z => by simpa using hc z
              rcases sub x hx with z | z
              · exact V1.nown z1 x z w
              · exact R1.there w.all z
            · obtain ⟨b, hb, hm⟩ := D.flat_one hf r4
              have ox : Own .r d n x := .inr ⟨rfl, hm, by rw [hb] at hx ⊢; simp only [List.mem_singleton] at hx; rw [hx]; rfl⟩
              exact R1.there w.all (own x ox).2
  · unfold mUnC at k
    cases e1 : m1 env with
    | bad => rw [e1] at k; cases k
    | exc x env1 => rw [e1] at k; cases k
    | ok da env1 =>
      rw [e1] at k
      simp only [Rt.bind_ok, mUnC2, fin] at k
      have q1 := h.rok z _ _ _ e1
      split at k
      · split at k
        · cases k
        · cases k; exact q1
      · cases k
/-- xs[::-1] -/
def pyRev : D → Option D
  | .lst xs => some (.lst xs.reverse)
  | _ => none
theorem v_rev {k : Nat} {p1 p2 p3 : Pos} (h : PEV X xv μ W a ro1 md1 m1) (chk : Bool) (hc : md1 = .al → chk = true := by decide) : PEV X xv μ W (.Subscript a (.Slice none none (some (.UnaryOp .USub (.Constant (.int 1) k p1) p2)) p3) pos) ro1 .r (mUnC chk pyRev m1) := by
  refine v_unC (r := fun x H1 Q => ∃ a xs, x = .ref a ∧ SqL X.K H1 a xs ∧ ∀ p, H1 p = none → Q (.ref p) (upd H1 p (.lst xs.reverse))) (fun te hte => pe_revL hte) (fun {H a da d na Q} r e q => ?_) h chk hc
  cases da <;> simp only [pyRev] at e <;> cases e
  simp only [Rp] at r
  obtain ⟨p, vs, n', rfl, h1, h2, rfl⟩ := r
  obtain ⟨m, r2, hm⟩ := h2.rev
  refine ⟨p, vs, rfl, SqL.of h1, fun l hl => q _ _ (l :: m) (Rp.newL hl r2) (ext_upd hl) (fun x hx => ?_) (own_newL hl (r2.fresh hl))⟩
  rcases List.mem_cons.mp hx with rfl | hx
  · exact .inr hl
  · exact .inl (List.mem_cons_of_mem _ (List.count_pos_iff.mp (by rw [← hm]; exact List.count_pos_iff.mpr hx)))
/-! ### range with the step -1 -/
def rngDn (lo : Int) (n : Nat) : List D := (List.range n).map fun i : Nat => D.int (lo + (i : Int) * -1)
theorem walk_rngD {G : Gt} {lo : Int} {k : Nat} : Walk G (Itc lo (-1) k) (rngDn lo k) [] [] (fun _ => True) where
  go := fun H i d p e => by
    unfold rngDn at e
    rw [List.getElem?_map] at e
    by_cases hi : i < k
    · rw [List.getElem?_range hi] at e
      cases e
      refine ⟨hi, fun x H3 y => ?_⟩
      obtain ⟨rfl, rfl⟩ := y
      exact ⟨fun _ _ k => k, trivial, [], by simp [Rp], by simp⟩
    · rw [List.getElem?_eq_none (by simpa using hi)] at e; cases e
  stop := fun H i p e => by show k ≤ i; simpa [rngDn] using e
  stay := fun H1 H2 Wp p k m nw => trivial
  there := fun H p b hb => by cases hb
  sub := fun b hb => hb
def rngOf3 (ds : List D) (e : En) : Rt (List D) := match ds with
  | [.int i, .int j, .int c] => if (okR i && okR j && c == -1) = true then .ok (rngDn i (i - j).toNat) e else .bad
  | _ => .bad
def iRng3 (ms : AM) : AM := fun env => (ms env).bind rngOf3
theorem RpL.three {G : Gt} {H : Hp} {d1 d2 d3 : D} {vs : List V} {n : List Addr} (h : RpL G H [d1, d2, d3] vs n) : ∃ v1 v2 v3 n1 n2 n3, vs = [v1, v2, v3] ∧ Rp G H d1 v1 n1 ∧ Rp G H d2 v2 n2 ∧ Rp G H d3 v3 n3 := by
  simp only [RpL] at h
  obtain ⟨v, vs', n1, n2, rfl, r1, ⟨v2, vs2, n3, n4, rfl, r2, ⟨v3, vs3, n5, n6, rfl, r3, ⟨rfl, _⟩, _⟩, _⟩, _⟩ := h
  exact ⟨_, _, _, _, _, _, rfl, r1, r2, r3⟩
theorem i_rng3 {al : Bool} (hg : Gl X "range") (hm : X.mg "range" = none) (h : PLV X xv μ W [a, b, c] ro al dp ms) (hs : starEach [a, b, c] X.env = (false, eval a X.env) :: starEach [b, c] X.env := by rfl) (hpl : (backTo pos (starEach [b, c] X.env)).any (·.1) = false := by rfl) : PIV X xv μ W tg (.Call (.Name "range" p) [a, b, c] [] pos) (iRng3 ms) := by
  refine ⟨PI.imp (pi_range3 hg hm h.pa hs hpl) fun σ H Rr ⟨env, N, R0, q⟩ => ⟨env, N, R0, ?_⟩⟩
  unfold iRng3 at q
  cases e1 : ms env with
  | bad => rw [e1] at q; exact q
  | exc x env1 => rw [e1] at q; exact q
  | ok ds env1 =>
    rw [e1] at q
    intro vs H1 N1 n R1 S1 rl A _
    simp only [Rt.bind_ok, rngOf3] at q
    split at q
    · split at q
      · rename_i i j c hj
        obtain ⟨v, w, u, n1, n2, n3, rfl, r1, r2, r3⟩ := RpL.three rl
        simp only [Rp] at r1 r2 r3
        unfold okR at hj
        rw [Bool.and_eq_true, Bool.and_eq_true, decide_eq_true_eq, decide_eq_true_eq, beq_iff_eq] at hj
        obtain ⟨⟨hi, hj⟩, rfl⟩ := hj
        exact ⟨i, j, -1, _, by rw [r1.1, r2.1, r3.1], RgC.neg (by omega) (by omega) (by omega) (by omega), q _ H1 N1 [] [] _ R1 (S1.mono (by simp)) walk_rngD trivial (by simp) (by simp) (by simp)⟩
      · exact q.elim
    · exact q.elim
end
/-! ### the meanings -/
section
variable {env e : En} {d : D} {m m1 m2 : EM} {ms : AM} {chk : Bool} {g : D → Option D}
@[simp] theorem e_mIsB : mIsB m1 m2 env = mBin false pyIsB m1 m2 env := id rfl
@[simp] theorem e_mNotBl : mNotBl m1 m2 env = mBin false pyNotBl m1 m2 env := id rfl
@[simp] theorem p_isB {x y : Bool} : pyIsB (.bl x) (.bl y) = some (.bl (decide (x = y))) := id rfl
@[simp] theorem p_notBl {x y : Bool} : pyNotBl (.bl x) (.bl y) = some (.bl (!decide (x = y))) := id rfl
@[simp] theorem e_mUnC : mUnC chk g m env = (m env).bind (mUnC2 chk g) := id rfl
@[simp] theorem e_mUnC2 : mUnC2 chk g d e = fin chk (g d) e := id rfl
@[simp] theorem p_rev {xs : List D} : pyRev (.lst xs) = some (.lst xs.reverse) := id rfl
@[simp] theorem e_iRng3 : iRng3 ms env = (ms env).bind rngOf3 := id rfl
@[simp] theorem e_rng3 {i j c : Int} : rngOf3 [.int i, .int j, .int c] e = if (okR i && okR j && c == -1) = true then .ok (rngDn i (i - j).toNat) e else .bad := id rfl
end
end VS
/-! VS: attributes of own objects. -/
namespace VS
open PySem PySem.Spec PyProof.Rows L2
/-- which class lets which attribute be read and stored -/
structure CFld (K : PySem.W.Frag) (mg : Str → Option Value) (tb : Str → Str → Bool) : Prop where
  at_ : ∀ c f, tb c f = true → ∀ C, mg c = some (.ref C) → Cls K C ∧ NoAttr K C f
def pyFld (tb : Str → Str → Bool) (f : Str) (d : D) : Option D := match d with
  | .obj c fs => if tb c f = true then fs.lookup f else none
  | _ => none
def putD (f : Str) (v : D) : List (Str × D) → List (Str × D)
  | [] => [(f, v)]
  | (g, x) :: r => if g = f then (g, v) :: r else (g, x) :: putD f v r
theorem RpF.lenF {G : Gt} {H : Hp} : ∀ {fs : List (Str × D)} {ws : List (Str × V)} {n : List Addr}, RpF G H fs ws n → fs.length = ws.length
  | [], ws, n, h => by simp only [RpF] at h; rw [h.1]; rfl
  | (g, d) :: r, ws, n, h => by
    simp only [RpF] at h
    obtain ⟨v, vs', n1, n2, rfl, _, h2, _⟩ := h
    simp [h2.lenF]
theorem RpF.get {G : Gt} {H : Hp} {f : Str} {d : D} : ∀ {fs : List (Str × D)} {ws : List (Str × V)} {n : List Addr}, RpF G H fs ws n → fs.lookup f = some d → ∃ v m, ws.lookup f = some v ∧ Rp G H d v m ∧ ∀ a ∈ m, a ∈ n
  | [], ws, n, h, e => by simp at e
  | (g, c) :: r, ws, n, h, e => by
    simp only [RpF] at h
    obtain ⟨v, vs', n1, n2, rfl, h1, h2, rfl⟩ := h
    rw [List.lookup_cons] at e ⊢
    cases z : (f == g) with
    | true =>
      rw [z] at e
      cases e
      exact ⟨v, n1, rfl, h1, fun a ha => by simp [ha]⟩
    | false =>
      rw [z] at e
      obtain ⟨w, m, e1, r1, hm⟩ := h2.get e
      exact ⟨w, m, e1, r1, fun a ha => by simp [hm a ha]⟩
theorem RpF.none {G : Gt} {H : Hp} {f : Str} : ∀ {fs : List (Str × D)} {ws : List (Str × V)} {n : List Addr}, RpF G H fs ws n → fs.lookup f = none → ws.lookup f = none
  | [], ws, n, h, e => by simp only [RpF] at h; rw [h.1]; rfl
  | (g, c) :: r, ws, n, h, e => by
    simp only [RpF] at h
    obtain ⟨v, vs', n1, n2, rfl, h1, h2, rfl⟩ := h
    rw [List.lookup_cons] at e ⊢
    cases z : (f == g) with
    | true => rw [z] at e; cases e
    | false => rw [z] at e; exact h2.none e
theorem RpF.put {G : Gt} {H : Hp} {f : Str} {d : D} {v : V} {m : List Addr} (r1 : Rp G H d v m) : ∀ {fs : List (Str × D)} {ws : List (Str × V)} {n : List Addr}, RpF G H fs ws n → ∃ k, RpF G H (putD f d fs) (putF f v ws) k ∧ ∀ x, k.count x ≤ n.count x + m.count x
  | [], ws, n, h => by
    simp only [RpF] at h
    obtain ⟨rfl, rfl⟩ := h
    exact ⟨m, by simp only [putD, putF, RpF]; exact ⟨v, [], m, [], rfl, r1, ⟨rfl, rfl⟩, by simp⟩, fun x => by simp⟩
  | (g, c) :: r, ws, n, h => by
    simp only [RpF] at h
    obtain ⟨w, vs', n1, n2, rfl, h1, h2, rfl⟩ := h
    by_cases z : g = f
    · refine ⟨m ++ n2, ?_, fun x => by rw [List.count_append, List.count_append]; omega⟩
      simp only [putD, putF, z, if_true, RpF]
      exact ⟨v, vs', m, n2, rfl, r1, h2, rfl⟩
    · obtain ⟨k, h3, h4⟩ := h2.put (f := f) r1
      refine ⟨n1 ++ k, ?_, fun x => ?_⟩
      · simp only [putD, putF, z, if_false, RpF]
        exact ⟨w, _, n1, k, rfl, h1, h3, rfl⟩
      · have := h4 x
        rw [List.count_append, List.count_append]
        omega
section
variable {X : Cx} {xv : XV} {μ : List Md} {W : WX} {pos apos p : Pos} {e o value : Expr} {f x : Str} {ro ro1 ro3 root : Bool} {md mdv rmd : Md} {m mv : EM} {pm : PM} {i : Nat} {tb : Str → Str → Bool}
/-- e.f -/
theorem v_fld (CF : CFld X.K X.mg tb) (h : PEV X xv μ W e ro md m) (hb : attributeBase e f X.env (eval e X.env) = eval e X.env := by rfl) : PEV X xv μ W (.Attribute e f pos) ro (itMd md) (mUn (pyFld tb f) m) := by
  refine ⟨PE.imp (pe_fld h.pe hb) fun σ H Q ⟨env, N, R0, q⟩ => ⟨env, N, R0, ?_⟩, mUn_ro h.rok⟩
  unfold mUn at q
  cases e1 : m env with
  | bad => rw [e1] at q; exact q
  | exc x env1 => rw [e1] at q; exact q
  | ok d env1 =>
    rw [e1] at q
    simp only [Rt.bind_ok, mUn2, fin, Bool.false_and, Bool.false_eq_true, if_false] at q
    intro v1 H1 N1 n1 R1 S1 r1 V1
    cases d <;> simp only [pyFld] at q <;> try exact q.elim
    rename_i c fs
    cases ht : tb c f with
    | false => rw [ht] at q; exact q.elim
    | true =>
      rw [ht] at q
      simp only [if_true] at q
      cases el : fs.lookup f with
      | none => rw [el] at q; exact q.elim
      | some dd =>
        rw [el] at q
        simp only [Rp] at r1
        obtain ⟨C, a, dx, ws, n', rfl, hc, h1, h2, rfl⟩ := r1
        obtain ⟨c1, c2⟩ := CF.at_ c f ht C hc
        obtain ⟨v, mm, l1, r2, hm⟩ := h2.get el
        refine ⟨a, C, dx, ws, v, rfl, h1, c1, c2, l1, q v H1 N1 mm R1 S1 r2 ⟨fun y hy => V1.sub y (by simp [hm y hy]), fun z y hy w => ?_, fun y o => ?_, fun y o => ?_⟩⟩
        · have z1 : md ≠ .al := fun y => by simp [itMd, y] at z
          exact V1.nown z1 y (by simp [hm y hy]) w
        all_goals
          unfold itMd at o
          split at o
          · exact absurd o Own.noA
          · exact absurd o Own.noS
/-! ### o.f = e -/
def gSetF (tb : Str → Str → Bool) (f : Str) (d : D) (ds : List D) : Option (D × D) := match d, ds with
  | .obj c fs, [y] => if (tb c f && decide (fs.length < 1000)) = true then some (.obj c (putD f y fs), .non) else none
  | _, _ => none
def rSetF (K : PySem.W.Frag) (f : Str) : V → List V → Hp → VK → Prop := fun o xs H Q => ∃ y a C dx fs, xs = [y] ∧ o = .ref a ∧ H a = some (.ins C dx fs) ∧ Cls K C ∧ NoAttr K C f ∧ fs.length < 1000 ∧ Q .non (upd H a (.ins C dx (putF f y fs)))
theorem mu_setF (CF : CFld X.K X.mg tb) : MutR (gx X xv) (rSetF X.K f) (gSetF tb f) := fun H a k d ds vs m d' ret Q r rl ak am e q => by
  unfold gSetF at e
  split at e
  · rename_i c fs y
    split at e
    · rename_i ht
      cases e
      rw [Bool.and_eq_true, decide_eq_true_eq] at ht
      simp only [RpL] at rl
      obtain ⟨w, vs', m1, m2, rfl, r1, ⟨rfl, rfl⟩, rfl⟩ := rl
      simp only [Rp] at r
      obtain ⟨C, b, dx, ws, n', e1, hc, h1, h2, e2⟩ := r
      cases e1
      cases e2
      obtain ⟨c1, c2⟩ := CF.at_ c f ht.1 C hc
      obtain ⟨k', h3, h4⟩ := h2.put (f := f) r1
      refine ⟨w, a, C, dx, ws, rfl, rfl, h1, c1, c2, by rw [← h2.lenF]; exact ht.2, q _ _ k' [] ?_ (by simp [Rp]) Keeps.updL fun x => by have := h4 x; simpa using this⟩
      simp only [Rp]
      refine ⟨C, a, dx, _, k', rfl, hc, upd_same, h3.keep (W := (· = a)) Keeps.updL (fun y e => by rw [e, h1]; trivial) fun y hy z => ?_, rfl⟩
      subst z
      have := h4 y
      have h5 := List.count_pos_iff.mpr hy
      rw [List.count_eq_zero.mpr ak, List.count_eq_zero.mpr (show y ∉ m1 from fun z => am (by simp [z]))] at this
      omega
    · cases e
  · cases e
def sPutF3 (i : Nat) (g : D → List D → Option (D × D)) (dv : D) (p : Plc) (e : En) : Sr := match g p.1 [dv] with
  | some (d', _) => .nx (e.set i (some (p.2 d')))
  | none => .bad
def sPutF2 (i : Nat) (g : D → List D → Option (D × D)) (pm : PM) (dv : D) (e : En) : Sr := (pm e).st (sPutF3 i g dv)
/-- place.f = e -/
def sPutF (i : Nat) (g : D → List D → Option (D × D)) (pm : PM) (mv : EM) : SM := fun env => (mv env).st (sPutF2 i g pm)
theorem gSetF_mut {d y d' r : D} (h : gSetF tb f d [y] = some (d', r)) : d.isMut = true := by
  unfold gSetF at h
  split at h
  · rfl
  · cases h
theorem s_putF (CF : CFld X.K X.mg tb) (h1 : PPV X xv (lockAt μ i) W o ro1 i root pm) (h3 : PEV X xv (lockAt μ i) W value ro3 mdv mv)
    (hl : (mdAt μ i).lock = false := by decide) (hd : (mdAt μ i).isD = true ∨ ((mdAt μ i).isR = true ∧ root = true) := by decide) (hmv : mdv = .s ∨ mdv = .r ∨ mdv = .d := by decide) (hdp : (mdAt μ i).isD = true → mdv = .d := by decide)
    (hs : swapsWith value (some (.Attribute o f apos)) pos.line X.env = pure false := by rfl) : PSV X xv μ W rmd (.Assign [.Attribute o f apos] value pos) (sPutF i (gSetF tb f) pm mv) := by
  refine ⟨PS.imp (ps_fld h1.pe h3.pe hs) fun E σ H q => ?_⟩
  have hR := mdR hd
  have hlk := lk_of hR
  obtain ⟨env, N, R0, q⟩ := q
  refine ⟨env, N, R0.dolock, ?_⟩
  unfold sPutF at q
  cases e1 : mv env with
  | bad => rw [e1] at q; exact q
  | exc x env1 => rw [e1] at q; exact XQ.unlock hR q.toX
  | ok dv env1 =>
    rw [e1] at q
    simp only [Rt.st_ok, sPutF2] at q
    intro v H1 N1 n1 R1 S1 r1 V1
    refine ⟨env1, N1, R1, ?_⟩
    cases e2 : pm env1 with
    | bad => rw [e2] at q; exact q
    | exc x env2 => rw [e2] at q; exact XQ.pre S1 (XQ.unlock hR q.toX)
    | ok p env2 =>
      rw [e2] at q
      simp only [Rt.st_ok, sPutF3] at q
      intro y H2 N2 R2 S2 F2
      have nal : mdv ≠ .al := by rcases hmv with h | h | h <;> rw [h] <;> simp
      have S12 : Stp μ false env H N env2 H2 N2 := ((S1.trans S2).unlock hR).mono (by simp)
      have r1' : Rp (gx X xv) H2 dv v n1 := S2.rp R1 r1 (V1.nown nal)
      cases eg : gSetF tb f p.1 [dv] with
      | none => rw [eg] at q; exact q.elim
      | some dr =>
        obtain ⟨d', ret⟩ := dr
        rw [eg] at q
        have nown : ∀ x ∈ n1, ¬ ownS μ env2 N2 x := fun x hx w => by
          rcases S2.own x (ownS_lock.mpr w) with t | t
          · exact V1.nown nal x hx t
          · exact r1.there hx t
        have key := mut_core (ro := false) (mm := n1) (ds := [dv]) (vs := [v]) (Q := fun w H4 => E.nx σ H4) (mu_setF (X := X) (xv := xv) (f := f) CF) hl hd R2.unlock S12 (gSetF_mut eg) F2 (by simp only [RpL]; exact ⟨v, [], n1, [], rfl, r1', ⟨rfl, rfl⟩, by simp⟩)
          ⟨fun x hx => V1.sub x hx, fun _ => nown⟩ (fun zz _ x hx => ?_) eg fun w H4 N4 nr R4 S4 r4 V4 => q σ H4 N4 R4 S4 .refl
        · obtain ⟨y', a, C, dx, fs, e', ev, ha, c1, c2, hl', q'⟩ := key
          cases e'
          exact ⟨a, C, dx, fs, ev, ha, c1, c2, hl', q'⟩
        · have hv := hdp zz
          subst hv
          obtain ⟨w1, w2⟩ := V1.uq x (.inl ⟨rfl, hx⟩)
          refine ⟨w1, fun t => ?_, (V1.osub x (.inl ⟨rfl, hx⟩)).imp wrS_lock (fun t => t)⟩
          rcases S2.all x t with t | t
          · exact w2 t
          · exact r1.there hx t
end
end VS
/-! VS: methods of own objects. -/
namespace VS
open PySem PySem.Spec PyProof.Rows L2
def tMethE (C : Addr) (mn : Str) (sp : Sp) (E : L2.St → XK) (ta : TE) (t : TA) : TE := fun σ H Q => ta σ H fun x H1 => ∃ a dx fs, x = .ref a ∧ H1 a = some (.ins C dx fs) ∧ fs.lookup mn = none ∧ t σ H1 fun vs H2 => sp (x :: vs) H2 Q (E σ)
section
variable {X : Cx} {CX : CXT} {k : Nat} {f C : Addr} {fd : FuncData} {ps : List Str} {sp : Sp} {E : L2.St → XK} {mn : Str} {apos pos : Pos} {e o : Expr} {es : List Expr} {ta : TE} {t : TA} {pl : Sem Bool}
theorem pe_methE (he : PE X o ta) (c : Cls X.K C) (hm : Meth X.K C mn f) (F : FnOk X.prog X.w X.K X.mg X.base CX k f fd ps sp) (hr : Room k X.A) (hb : Binds X.K fd ps []) (hx : ∀ σ, PassesAt CX X σ (E σ)) (ha : PA X (e :: es) t)
    (hst : starEach (e :: es) X.env = (false, eval e X.env) :: starEach es X.env) (hpl : (backTo pos (starEach es X.env)).any (·.1) = false)
    (ht : eval (.Call (.Attribute o mn apos) (e :: es) [] pos) X.env = (do
      let ov ← eval o X.env
      standAt apos.atName
      let (g, first) ← holding [ov] (getMethod ov mn pl)
      callWith pos g first (backTo pos (starEach (e :: es) X.env)) (backToKw pos (keywordEach [] X.env)))) :
    PE X (.Call (.Attribute o mn apos) (e :: es) [] pos) (tMethE C mn sp E ta t) := by
  refine ⟨fun pins s σ H Q J hq => ?_⟩
  refine PySem.W.methodCall_KW (pl := pl) (thn (he.run pins s σ H _ J hq) fun u s1 ⟨x, H1, J1, rx, a, dx, fs, ex, ea, l, q⟩ => ?_) ht
  subst ex
  obtain rfl : u = Value.ref a := rx
  refine getmeth_ok J1 ea c hm l ?_
  refine PySem.W.callWith_K (first := [.ref a]) (h₀ := X.base) J.ok.mod.kin hm.kp (thn (ha.run pos pins s1 σ H1 _ J1 q) fun us s2 ⟨vs, H2, J2, r, q2⟩ => ⟨J2.kIn, ?_⟩) hst hpl
  exact run_fnS (us := .ref a :: us) (vs := .ref a :: vs) F hr hb (hx σ) J2 (.cons rfl r) q2
theorem pe_methE0 (he : PE X o ta) (c : Cls X.K C) (hm : Meth X.K C mn f) (F : FnOk X.prog X.w X.K X.mg X.base CX k f fd ps sp) (hr : Room k X.A) (hb : Binds X.K fd ps []) (hx : ∀ σ, PassesAt CX X σ (E σ))
    (ht : eval (.Call (.Attribute o mn apos) [] [] pos) X.env = (do
      let ov ← eval o X.env
      standAt apos.atName
      let (g, first) ← holding [ov] (getMethod ov mn pl)
      callWith pos g first (backTo pos (starEach [] X.env)) (backToKw pos (keywordEach [] X.env)))) :
    PE X (.Call (.Attribute o mn apos) [] [] pos) (tMethE C mn sp E ta tNil) := by
  refine ⟨fun pins s σ H Q J hq => ?_⟩
  refine PySem.W.methodCall_KW (pl := pl) (thn (he.run pins s σ H _ J hq) fun u s1 ⟨x, H1, J1, rx, a, dx, fs, ex, ea, l, q⟩ => ?_) ht
  subst ex
  obtain rfl : u = Value.ref a := rx
  refine getmeth_ok J1 ea c hm l ?_
  exact PySem.W.callWith_K0 (first := [.ref a]) J1.kIn hm.kp (run_fnS (us := [.ref a]) (vs := [.ref a]) F hr hb (hx σ) J1 (.cons rfl .nil) q)
end
/-! ### the object of a method's call -/
def isObj (cn mn : Str) : D → Bool
  | .obj c fs => c == cn && (fs.lookup mn).isNone
  | _ => false
def mObj2 (cn mn : Str) (d : D) (e : En) : Rt D := if isObj cn mn d = true then .ok d e else .bad
def mObj (cn mn : Str) (m : EM) : EM := fun env => (m env).bind (mObj2 cn mn)
def mObjS (cn mn : Str) (j : Nat) (g : EM) : EM := fun env => match env[j]? with
  | some (some d) => if isObj cn mn d = true then g env else .bad
  | _ => .bad
theorem isObj_ins {G : Gt} {H : Hp} {cn mn : Str} {d : D} {v : V} {n : List Addr} {C : Addr} (hmc : G.mg cn = some (.ref C)) (h : isObj cn mn d = true) (r : Rp G H d v n) : ∃ a dx fs, v = .ref a ∧ H a = some (.ins C dx fs) ∧ fs.lookup mn = none := by
  cases d <;> simp only [isObj] at h <;> try cases h
  rename_i c fs
  rw [Bool.and_eq_true, beq_iff_eq, Option.isNone_iff_eq_none] at h
  obtain ⟨rfl, hn⟩ := h
  simp only [Rp] at r
  obtain ⟨C', a, dx, ws, n', rfl, hc, h1, h2, _⟩ := r
  rw [hmc] at hc
  cases hc
  exact ⟨a, dx, ws, rfl, h1, h2.none hn⟩
section
variable {X : Cx} {xv : XV} {μ π : List Md} {W : WX} {pos apos p : Pos} {e o : Expr} {es : List Expr} {ags : List Ag} {ro : Bool} {md rmd : Md} {F : FM} {x cn mn : Str} {k j : Nat} {f C : Addr} {fd : FuncData} {ps : List Str} {al : Bool} {m : EM}
theorem tG_obj {xs : List As} {K : List V → Hp → Prop} {σ : L2.St} {H : Hp} (hmc : X.mg cn = some (.ref C)) (hm : md ≠ .al) (q : tG (gx X xv) μ W (.val :: ags.map Ag.st) (agRun (.val (mObj cn mn m) :: ags)) σ H K) :
    tE (gx X xv) μ W ro md m σ H fun v H1 => (∃ a dx fs, v = .ref a ∧ H1 a = some (.ins C dx fs) ∧ fs.lookup mn = none) ∧ tG (gx X xv) μ W (ags.map Ag.st) (agRun ags) σ H1 fun vs H2 => K (v :: vs) H2 := by
  obtain ⟨env, N, R0, q⟩ := q
  refine ⟨env, N, R0, ?_⟩
  unfold agRun mObj at q
  cases e1 : m env with
  | bad => rw [e1] at q; exact q
  | exc x env1 => rw [e1] at q; exact q
  | ok d env1 =>
    rw [e1] at q
    simp only [Rt.bind_ok, mObj2] at q
    intro v1 H1 N1 n1 R1 S1 r1 V1
    cases ho : isObj cn mn d with
    | false => rw [ho] at q; exact q.elim
    | true =>
      rw [ho] at q
      simp only [if_true, Rt.bind_ok, gVal2] at q
      refine ⟨isObj_ins hmc ho r1, env1, N1, R1, ?_⟩
      cases e2 : agRun ags env1 with
      | bad => rw [e2] at q; exact q
      | exc x env2 => rw [e2] at q; exact XQ.pre S1 q
      | ok xs env2 =>
        rw [e2] at q
        simp only [Rt.bind_ok, gCons3] at q
        intro vs H2 N2 ns R2 S2 g
        refine q (v1 :: vs) H2 N2 (n1 :: ns) R2 ((S1.trans S2).mono (by simp)) ?_
        simp only [GA]
        refine ⟨_, xs, _, vs, _, ns, rfl, rfl, rfl, ⟨S2.rp R1 r1 (V1.nown hm), V1.sub, fun a ha w => ?_⟩, g.imp fun v n a x h => ?_⟩
        · rcases S2.own a w with y | y
          · exact V1.nown hm a ha y
          · exact r1.there ha y
        · cases a <;> cases x <;> simp only [AgOk] at h ⊢ <;> try exact h
          exact ⟨h.1, fun b hb => (h.2.1 b hb).elim (S1.all b) fun z => .inr (S1.dom b z), h.2.2⟩
/-- o.m(..), o a value -/
theorem v_methV {pl : Sem Bool} (h1 : PEV X xv μ W o ro md m) (hmc : X.mg cn = some (.ref C)) (c : Cls X.K C) (hm : Meth X.K C mn f) (Fn : FnOk X.prog X.w X.K X.mg X.base (L2.CX X.prog X.w) k f fd ps (spD ⟨X.K, X.mg, none⟩ π rmd F)) (hr : Room k X.A) (hb : Binds X.K fd ps []) (tk : Takes X W)
    (h : PGV X xv μ W (e :: es) ags) (P : Pass μ π (.val :: ags.map Ag.st)) (hal : brw μ π (.val :: ags.map Ag.st) = true → al = true) (hmd : md ≠ .al := by decide)
    (hst : starEach (e :: es) X.env = (false, eval e X.env) :: starEach es X.env := by rfl) (hpl : (backTo pos (starEach es X.env)).any (·.1) = false := by rfl)
    (ht : eval (.Call (.Attribute o mn apos) (e :: es) [] pos) X.env = (do
      let ov ← eval o X.env
      standAt apos.atName
      let (g, first) ← holding [ov] (getMethod ov mn pl)
      callWith pos g first (backTo pos (starEach (e :: es) X.env)) (backToKw pos (keywordEach [] X.env))) := by rfl) :
    PEV X xv μ W (.Call (.Attribute o mn apos) (e :: es) [] pos) false rmd (mCall π rmd al F (.val (mObj cn mn m) :: ags)) :=
  ⟨PE.imp (pe_methE (E := WE W) h1.pe c hm Fn hr hb (fun σ => passAt tk σ) h.pa hst hpl ht) fun σ H Q q => by
    obtain ⟨env, N, R0, q1⟩ := tG_obj (ro := ro) (md := md) (xs := []) hmc hmd (call_core (ags := .val (mObj cn mn m) :: ags) P hal q)
    refine ⟨env, N, R0, ?_⟩
    cases e1 : m env with
    | bad => rw [e1] at q1; exact q1
    | exc x env1 => rw [e1] at q1; exact q1
    | ok d env1 =>
      rw [e1] at q1
      intro v H' N' n R S r V
      obtain ⟨⟨a, dx, fs, ev, ha, hl⟩, g⟩ := q1 v H' N' n R S r V
      exact ⟨a, dx, fs, ev, ha, hl, g⟩, fun z => by cases z⟩
theorem v_methV0 {pl : Sem Bool} (h1 : PEV X xv μ W o ro md m) (hmc : X.mg cn = some (.ref C)) (c : Cls X.K C) (hm : Meth X.K C mn f) (Fn : FnOk X.prog X.w X.K X.mg X.base (L2.CX X.prog X.w) k f fd ps (spD ⟨X.K, X.mg, none⟩ π rmd F)) (hr : Room k X.A) (hb : Binds X.K fd ps []) (tk : Takes X W)
    (P : Pass μ π [.val]) (hal : brw μ π [.val] = true → al = true) (hmd : md ≠ .al := by decide)
    (ht : eval (.Call (.Attribute o mn apos) [] [] pos) X.env = (do
      let ov ← eval o X.env
      standAt apos.atName
      let (g, first) ← holding [ov] (getMethod ov mn pl)
      callWith pos g first (backTo pos (starEach [] X.env)) (backToKw pos (keywordEach [] X.env))) := by rfl) :
    PEV X xv μ W (.Call (.Attribute o mn apos) [] [] pos) false rmd (mCall π rmd al F [.val (mObj cn mn m)]) :=
  ⟨PE.imp (pe_methE0 (E := WE W) h1.pe c hm Fn hr hb (fun σ => passAt tk σ) ht) fun σ H Q q => by
    obtain ⟨env, N, R0, q1⟩ := tG_obj (ro := ro) (md := md) (ags := []) (xs := []) hmc hmd (call_core (ags := [.val (mObj cn mn m)]) P hal q)
    refine ⟨env, N, R0, ?_⟩
    cases e1 : m env with
    | bad => rw [e1] at q1; exact q1
    | exc x env1 => rw [e1] at q1; exact q1
    | ok d env1 =>
      rw [e1] at q1
      intro v H' N' n R S r V
      obtain ⟨⟨a, dx, fs, ev, ha, hl⟩, e2, N2, R2, g⟩ := q1 v H' N' n R S r V
      exact ⟨a, dx, fs, ev, ha, hl, g [] H' N2 [] R2 .refl (by simp [GA])⟩, fun z => by cases z⟩
theorem objS_core {K : TE} {σ : L2.St} {H : Hp} {Q : VK} {g : EM} (hmc : X.mg cn = some (.ref C)) (q : tE (gx X xv) μ W false rmd (mObjS cn mn j g) σ H Q) (hK : ∀ (env : En) (N : Nat → List Addr), Rep (gx X xv) μ env σ H N → EQ (gx X xv) μ W false rmd env N σ H Q (g env) → (∃ d, env[j]? = some (some d)) → ∀ v, σ[j]? = some (some v) → (∃ a dx fs, v = .ref a ∧ H a = some (.ins C dx fs) ∧ fs.lookup mn = none) → K σ H Q) : K σ H Q := by
  obtain ⟨env, N, R0, q⟩ := q
  unfold mObjS at q
  split at q
  · rename_i d ed
    split at q
    · rename_i ho
      obtain ⟨v, g1, g2⟩ := R0.rep j d ed
      exact hK env N R0 q ⟨d, ed⟩ v g1 (isObj_ins hmc ho g2)
    · exact q.elim
  · exact q.elim
/-- x.m(..), x a name that owns its object -/
theorem v_methS {pl : Sem Bool} (h1 : PE X (.Name x p) (tVar j)) (hmc : X.mg cn = some (.ref C)) (c : Cls X.K C) (hm : Meth X.K C mn f) (Fn : FnOk X.prog X.w X.K X.mg X.base (L2.CX X.prog X.w) k f fd ps (spD ⟨X.K, X.mg, none⟩ π rmd F)) (hr : Room k X.A) (hb : Binds X.K fd ps []) (tk : Takes X W)
    (h : PGV X xv μ W (e :: es) ags) (P : Pass μ π (.slot j :: ags.map Ag.st)) (hal : brw μ π (.slot j :: ags.map Ag.st) = true → al = true)
    (hst : starEach (e :: es) X.env = (false, eval e X.env) :: starEach es X.env := by rfl) (hpl : (backTo pos (starEach es X.env)).any (·.1) = false := by rfl)
    (ht : eval (.Call (.Attribute (.Name x p) mn apos) (e :: es) [] pos) X.env = (do
      let ov ← eval (.Name x p) X.env
      standAt apos.atName
      let (g, first) ← holding [ov] (getMethod ov mn pl)
      callWith pos g first (backTo pos (starEach (e :: es) X.env)) (backToKw pos (keywordEach [] X.env))) := by rfl) :
    PEV X xv μ W (.Call (.Attribute (.Name x p) mn apos) (e :: es) [] pos) false rmd (mObjS cn mn j (mCall π rmd al F (.slot j :: ags))) :=
  ⟨PE.imp (pe_methE (E := WE W) h1 c hm Fn hr hb (fun σ => passAt tk σ) h.pa hst hpl ht) fun σ H Q q => by
    refine objS_core hmc q fun env N R0 q1 ⟨d0, ed0⟩ v hv ⟨a, dx, fs, ev, ha, hl⟩ => ?_
    obtain ⟨env', N', R', q2⟩ := call_core (ags := .slot j :: ags) P hal ⟨env, N, R0, q1⟩
    refine ⟨v, hv, a, dx, fs, ev, ha, hl, ?_⟩
    unfold agRun at q2
    split at q2
    · rename_i d ed
      obtain ⟨v', g1, g2⟩ := R'.rep j d ed
      rw [hv] at g1
      cases g1
      refine ⟨env', N', R', ?_⟩
      cases e2 : agRun ags env' with
      | bad => rw [e2] at q2; exact q2
      | exc x env2 => rw [e2] at q2; exact q2
      | ok xs env2 =>
        rw [e2] at q2
        simp only [Rt.bind_ok, gCons3] at q2
        intro vs H2 N2 ns R2 S2 g
        refine q2 (v :: vs) H2 N2 ([] :: ns) R2 S2 ?_
        simp only [List.map_cons, GA, Ag.st]
        exact ⟨_, xs, _, vs, _, ns, rfl, rfl, rfl, ⟨hv, rfl⟩, g⟩
    · exact q2.elim, fun z => by cases z⟩
theorem v_methS0 {pl : Sem Bool} (h1 : PE X (.Name x p) (tVar j)) (hmc : X.mg cn = some (.ref C)) (c : Cls X.K C) (hm : Meth X.K C mn f) (Fn : FnOk X.prog X.w X.K X.mg X.base (L2.CX X.prog X.w) k f fd ps (spD ⟨X.K, X.mg, none⟩ π rmd F)) (hr : Room k X.A) (hb : Binds X.K fd ps []) (tk : Takes X W)
    (P : Pass μ π [.slot j]) (hal : brw μ π [.slot j] = true → al = true)
    (ht : eval (.Call (.Attribute (.Name x p) mn apos) [] [] pos) X.env = (do
      let ov ← eval (.Name x p) X.env
      standAt apos.atName
      let (g, first) ← holding [ov] (getMethod ov mn pl)
      callWith pos g first (backTo pos (starEach [] X.env)) (backToKw pos (keywordEach [] X.env))) := by rfl) :
    PEV X xv μ W (.Call (.Attribute (.Name x p) mn apos) [] [] pos) false rmd (mObjS cn mn j (mCall π rmd al F [.slot j])) :=
  ⟨PE.imp (pe_methE0 (E := WE W) h1 c hm Fn hr hb (fun σ => passAt tk σ) ht) fun σ H Q q => by
    refine objS_core hmc q fun env N R0 q1 ⟨d0, ed0⟩ v hv ⟨a, dx, fs, ev, ha, hl⟩ => ?_
    obtain ⟨env', N', R', q2⟩ := call_core (ags := [.slot j]) P hal ⟨env, N, R0, q1⟩
    refine ⟨v, hv, a, dx, fs, ev, ha, hl, ?_⟩
    unfold agRun at q2
    split at q2
    · rename_i d ed
      obtain ⟨v', g1, g2⟩ := R'.rep j d ed
      rw [hv] at g1
      cases g1
      simp only [agRun, Rt.bind_ok, gCons3] at q2
      refine q2 [v] H N' [[]] R' .refl ?_
      simp only [List.map_cons, List.map_nil, GA, Ag.st]
      exact ⟨_, [], _, [], _, [], rfl, rfl, rfl, ⟨hv, rfl⟩, rfl, rfl, rfl⟩
    · exact q2.elim, fun z => by cases z⟩
end
end VS
/-! VS: own classes made. -/
namespace VS
open PySem PySem.Spec PyProof.Rows L2
def tMakeE (C : Addr) (sp : Sp) (E : L2.St → XK) (t : TA) : TE := fun σ H Q => t σ H fun vs H1 => ∀ x dx, H1 x = none → H1 dx = none → dx ≠ x →
  sp (.ref x :: vs) (upd (upd H1 dx (.own x)) x (.ins C dx [])) (fun v H2 => v = .non ∧ Q (.ref x) H2) (E σ)
section
variable {X : Cx} {CX : CXT} {k : Nat} {f C : Addr} {fd : FuncData} {ps : List Str} {sp : Sp} {E : L2.St → XK} {x : Str} {p pos : Pos} {e : Expr} {es : List Expr} {t : TA}
theorem run_makeE {pins : List (Addr × Obj)} {σ : L2.St} {H : Hp} {s : Shared} {Q : VK} {us : List Value} {vs : List V} (M : Mk X.K C f) (F : FnOk X.prog X.w X.K X.mg X.base CX k f fd ps sp) (hr : Room (k + 1) X.A) (hb : Binds X.K fd ps [])
    (hx : PassesAt CX X σ (E σ)) (J : Inv X pins σ H s) (r : Vals vs us)
    (h : ∀ x dx, H x = none → H dx = none → dx ≠ x → sp (.ref x :: vs) (upd (upd H dx (.own x)) x (.ins C dx [])) (fun v H2 => v = .non ∧ Q (.ref x) H2) (E σ)) :
    wpAny (model X.prog X.w) X.A (call (.ref C) us) (EP X pins σ Q) X.xe s := by
  have hq := h (s.heap.objs.size + 1) s.heap.objs.size (J.hok.fresh (Nat.le_succ _)) (J.hok.fresh (Nat.le_refl _)) (Nat.ne_of_lt (Nat.lt_succ_self _))
  have J2 := Inv.made (C := C) J
  have r2 : Vals (V.ref (s.heap.objs.size + 1) :: vs) (Value.ref (s.heap.objs.size + 1) :: us) := .cons rfl r
  have hl : (Value.ref (s.heap.objs.size + 1) :: us).length = ps.length := by
    have e := r2.length
    rw [F.len _ _ _ _ hq] at e
    exact e.symm
  have b := hb _ (Value.ref (s.heap.objs.size + 1) :: us) J2.kIn (by rw [List.append_nil]; exact hl)
  rw [List.append_nil] at b
  refine wpAny_call (make_map (f := f) J.kIn M.makes M.init (beq_iff_eq.mp M.fn) (codeAny_mono (F.run _ X.stack _ _ ⟨Value.ref (s.heap.objs.size + 1) :: us, []⟩ (Value.ref (s.heap.objs.size + 1) :: us) _ _ (E σ) (hr.make C us [])
    (J2.env0.make C us []) b r2 hq) fun r s' hq' => ?_))
  cases r with
  | error e => exact hx pins _ _ e s' J2 hq'
  | ok fl =>
    cases fl with
    | ret u =>
      obtain ⟨v, H', J3, rv, ev, q3⟩ := J2.after hq'
      subst ev
      exact ⟨rv, ⟨V.ref (s.heap.objs.size + 1), H', J3, rfl, q3⟩⟩
    | next => exact False.elim hq'
    | brk => exact False.elim hq'
    | cont => exact False.elim hq'
theorem pe_makeE (M : Mk X.K C f) (F : FnOk X.prog X.w X.K X.mg X.base CX k f fd ps sp) (hr : Room (k + 1) X.A) (hg : Gl X x) (hm : X.mg x = some (.ref C)) (hb : Binds X.K fd ps []) (hx : ∀ σ, PassesAt CX X σ (E σ))
    (ha : PA X (e :: es) t) (hdb : (x == ("__debug__" : Str)) = false) (he : starEach (e :: es) X.env = (false, eval e X.env) :: starEach es X.env) (hpl : (backTo pos (starEach es X.env)).any (·.1) = false) :
    PE X (.Call (.Name x p) (e :: es) [] pos) (tMakeE C sp E t) := by
  refine ⟨fun pins s σ H Q J hq => ?_⟩
  refine wpAny_Call_Name_kw (ld_glob J hg hm ?_ hdb)
  refine PySem.W.callWith_K (h₀ := X.base) J.ok.mod.kin M.kp (thn (ha.run pos pins s σ H _ J hq) fun us s1 ⟨vs, H1, J1, r, q⟩ => ⟨J1.kIn, ?_⟩) he hpl
  exact run_makeE M F hr hb (hx σ) J1 r q
end
def mMake3 (π : List Md) (as : List As) (e : En) : FR → Rt D
  | .ok .non (o :: ds') => .ok o (wb π as ds' e)
  | .exc x (_ :: ds') => if pureF x.fs = true then .exc x (wb π as ds' e) else .bad
  | _ => .bad
def mMake2 (cn : Str) (π : List Md) (as : List As) (F : FM) (xs : List (Option D)) (e : En) : Rt D := match rsv as xs e with
  | some ds => mMake3 π as e (F (.obj cn [] :: ds))
  | none => .bad
/-- C(..): π, F of __init__, π without self -/
def mMake (cn : Str) (π : List Md) (F : FM) (ags : List Ag) : EM := fun env => (agRun ags env).bind (mMake2 cn π (ags.map Ag.st) F)
def mkMd (sm : Md) : Md := if sm = .fd then .d else .r
def consN (x : Addr) (N : Nat → List Addr) : Nat → List Addr
  | 0 => [x]
  | i + 1 => N i
section
variable {K : PySem.W.Frag} {mg : Str → Option Value} {π : List Md} {sm : Md} {ds : List D} {vs : List V} {H H1 H2 : Hp} {N Nc : Nat → List Addr} {x dx : Addr} {C : Addr} {cn : Str}
theorem mdAt_cons {i : Nat} : mdAt (sm :: π) (i + 1) = mdAt π i := rfl
theorem new_ext (hx : H1 x = none) (hdx : H1 dx = none) (hne : dx ≠ x) : ∀ a o, H1 a = some o → upd (upd H1 dx (.own x)) x (.ins C dx []) a = some o := fun a o e => by
  rw [upd_ne (ne_of_none e hx), upd_ne (ne_of_none e hdx)]; exact e
theorem new_dom {a : Addr} (hx : H1 x = none) (h : upd (upd H1 dx (.own x)) x (.ins C dx []) a = none) : H1 a = none := by
  by_cases z : a = x
  · rw [z]; exact hx
  · rw [upd_ne z] at h
    by_cases z2 : a = dx
    · rw [z2, upd_same] at h; cases h
    · rw [upd_ne z2] at h; exact h
theorem Rep.cons (R : Rep ⟨K, mg, none⟩ π (ds.map some) (vs.map some) H1 N) (hx : H1 x = none) (hdx : H1 dx = none) (hne : dx ≠ x) (hmc : mg cn = some (.ref C)) :
    Rep ⟨K, mg, none⟩ (sm :: π) ((D.obj cn [] :: ds).map some) ((V.ref x :: vs).map some) (upd (upd H1 dx (.own x)) x (.ins C dx [])) (consN x N) := by
  have k := new_ext (C := C) hx hdx hne
  refine ⟨by have := R.len; simpa using this, fun i d e => ?_, fun i e => ?_, fun i d a e o => ?_, fun y h => by cases h⟩
  · cases i with
    | zero =>
      simp only [List.map_cons, List.getElem?_cons_zero, Option.some.injEq] at e
      subst e
      refine ⟨.ref x, rfl, ?_⟩
      simp only [Rp, consN]
      exact ⟨C, x, dx, [], [], rfl, hmc, upd_same, by simp [RpF], rfl⟩
    | succ i =>
      obtain ⟨v, h1, h2⟩ := R.rep i d (by simpa using e)
      exact ⟨v, by simpa using h1, h2.ext k⟩
  · cases i with
    | zero => exact absurd rfl (e (.obj cn []))
    | succ i => exact R.emp i fun d z => e d (by simpa using z)
  · cases i with
    | zero =>
      have ha := o.mem
      simp only [consN, List.mem_singleton] at ha
      subst ha
      refine ⟨by simp [consN], fun j hj w => ?_⟩
      cases j with
      | zero => exact hj rfl
      | succ j => exact R.there ⟨j, w⟩ hx
    | succ i =>
      obtain ⟨c1, c2⟩ := R.uq i d a (by simpa using e) o
      refine ⟨c1, fun j hj w => ?_⟩
      cases j with
      | zero =>
        simp only [consN, List.mem_singleton] at w
        subst w
        exact R.there ⟨i, o.mem⟩ hx
      | succ j => exact c2 j (fun z => hj (by rw [z])) w
theorem Rep.uncons {d' : D} {ds' : List D} (R2 : Rep ⟨K, mg, none⟩ (sm :: π) ((d' :: ds').map some) ((V.ref x :: vs).map some) H2 Nc) : Rep ⟨K, mg, none⟩ π (ds'.map some) (vs.map some) H2 (fun i => Nc (i + 1)) := by
  refine ⟨by have := R2.len; simpa using this, fun i d e => ?_, fun i e => ?_, fun i d a e o => ?_, fun y h => by cases h⟩
  · obtain ⟨v, h1, h2⟩ := R2.rep (i + 1) d (by simpa using e)
    exact ⟨v, by simpa using h1, h2⟩
  · exact R2.emp (i + 1) fun d z => e d (by simpa using z)
  · obtain ⟨c1, c2⟩ := R2.uq (i + 1) d a (by simpa using e) o
    exact ⟨c1, fun j hj => c2 (j + 1) (by omega)⟩
theorem own_cons {d0 : D} {ds : List D} {n0 : Nat → List Addr} {a : Addr} (h : ownS π (ds.map some) (fun i => n0 (i + 1)) a) : ownS (sm :: π) ((d0 :: ds).map some) n0 a := by
  obtain ⟨i, d, e, o⟩ := h
  exact ⟨i + 1, d, by simpa using e, o⟩
theorem wr_cons {d0 : D} {ds : List D} {n0 : Nat → List Addr} {a : Addr} (h : wrS π (ds.map some) (fun i => n0 (i + 1)) a) : wrS (sm :: π) ((d0 :: ds).map some) n0 a := by
  obtain ⟨i, d, e, o⟩ := h
  exact ⟨i + 1, d, by simpa using e, o⟩
theorem own_consN {d0 : D} {a : Addr} (h : ownS (sm :: π) ((d0 :: ds).map some) (consN x N) a) : a = x ∨ ownS π (ds.map some) N a := by
  obtain ⟨i, d, e, o⟩ := h
  cases i with
  | zero => have := o.mem; simp only [consN, List.mem_singleton] at this; exact .inl this
  | succ i => exact .inr ⟨i, d, by simpa using e, o⟩
theorem wr_consN {d0 : D} {a : Addr} (h : wrS (sm :: π) ((d0 :: ds).map some) (consN x N) a) : a = x ∨ wrS π (ds.map some) N a := by
  obtain ⟨i, d, e, o⟩ := h
  cases i with
  | zero => have := o.2.mem; simp only [consN, List.mem_singleton] at this; exact .inl this
  | succ i => exact .inr ⟨i, d, by simpa using e, o⟩
theorem all_consN {a : Addr} (h : allS (consN x N) a) : a = x ∨ allS N a := by
  obtain ⟨i, h⟩ := h
  cases i with
  | zero => simp only [consN, List.mem_singleton] at h; exact .inl h
  | succ i => exact .inr ⟨i, h⟩
theorem Stp.uncons {d' : D} {ds' : List D} (hpar : ∀ i, (mdAt π i).par = true) (hx : H1 x = none) (hdx : H1 dx = none) (hne : dx ≠ x) (S : Stp (sm :: π) false ((D.obj cn [] :: ds).map some) (upd (upd H1 dx (.own x)) x (.ins C dx [])) (consN x N) ((d' :: ds').map some) H2 Nc) :
    Stp π false (ds.map some) H1 N (ds'.map some) H2 (fun i => Nc (i + 1)) where
  keep := fun a o h w => S.keep a o (new_ext (C := C) hx hdx hne a o h) fun z => by
    rcases wr_consN z with z | z
    · subst z; rw [hx] at h; cases h
    · exact w z
  dom := fun a h => new_dom hx (S.dom a h)
  own := fun a h => by
    rcases S.own a (own_cons h) with z | z
    · rcases own_consN z with z | z
      · subst z; exact .inr hx
      · exact .inl z
    · exact .inr (new_dom hx z)
  wr := fun a h => by
    rcases S.wr a (wr_cons h) with z | z
    · rcases wr_consN z with z | z
      · subst z; exact .inr hx
      · exact .inl z
    · exact .inr (new_dom hx z)
  all := fun a ⟨i, h⟩ => by
    rcases S.all a ⟨i + 1, h⟩ with z | z
    · rcases all_consN z with z | z
      · subst z; exact .inr hx
      · exact .inl z
    · exact .inr (new_dom hx z)
  lock := fun i h => by rw [Md.par_l (hpar i)] at h; cases h
  ro := fun z => by cases z
end
section
variable {X : Cx} {xv : XV} {μ π : List Md} {W : WX} {pos p : Pos} {e : Expr} {es : List Expr} {ags : List Ag} {sm : Md} {F : FM} {cn : Str} {k : Nat} {f C : Addr} {fd : FuncData} {ps : List Str}
theorem make_core (P : Pass μ π (ags.map Ag.st)) (hsm : sm = .fd ∨ (sm = .fr ∧ brw μ π (ags.map Ag.st) = false)) (hmc : X.mg cn = some (.ref C)) {σ : L2.St} {H : Hp} {Q : VK} (q : tE (gx X xv) μ W false (mkMd sm) (mMake cn π F ags) σ H Q) :
    tG (gx X xv) μ W (ags.map Ag.st) (agRun ags) σ H fun vs H1 => ∀ x dx, H1 x = none → H1 dx = none → dx ≠ x →
      spD ⟨X.K, X.mg, none⟩ (sm :: π) (mkMd sm) F (.ref x :: vs) (upd (upd H1 dx (.own x)) x (.ins C dx [])) (fun v H2 => v = .non ∧ Q (.ref x) H2) (fun cls d H' => W cls d σ H') := by
  obtain ⟨env, N, R0, q⟩ := q
  refine ⟨env, N, R0, ?_⟩
  unfold mMake at q
  cases e1 : agRun ags env with
  | bad => rw [e1] at q; exact q
  | exc x env1 => rw [e1] at q; exact q
  | ok xs env1 =>
    rw [e1] at q
    simp only [Rt.bind_ok, mMake2] at q
    intro vs H1 N1 ns R1 S1 g x dx hx hdx hne
    cases er : rsv (ags.map Ag.st) xs env1 with
    | none => rw [er] at q; exact q.elim
    | some ds =>
      rw [er] at q
      have l4 := rsv_len er
      have RA := Rep.pass P R1 g er
      refine ⟨.obj cn [] :: ds, consN x (N0 (ags.map Ag.st) ns N1), by simp [l4, P.len], Rep.cons RA hx hdx hne hmc, ?_⟩
      dsimp only at q
      cases ef : F (.obj cn [] :: ds) with
      | bad => rw [ef] at q; exact q
      | exc y ds' =>
        rw [ef] at q
        cases ds' with
        | nil => exact q.elim
        | cons d' ds' =>
          simp only [mMake3] at q
          split at q
          · rename_i hp
            intro cls dx' H2 Nc n R2 S ex hn hs
            obtain ⟨Rb, Sb, w1, w2, w3⟩ := Rep.back P R1 S1 g er R2.uncons (S.uncons P.par hx hdx hne)
            obtain ⟨C', c1, c2, c3⟩ := ex
            have hn0 : n = [] := by
              rcases c3 with c3 | ⟨a, ws, _, _, _, c3⟩
              · exact c3.2.1
              · exact c3.pure hp
            subst hn0
            refine q cls dx' H2 _ [] Rb Sb ⟨C', c1, c2, ?_⟩ (by simp) (by simp)
            rcases c3 with c3 | ⟨a, ws, c6, c4, c5, c3⟩
            · exact .inl c3
            · exact .inr ⟨a, ws, c6, c4, c5, c3.xv⟩
          · exact q.elim
      | ok d ds' =>
        rw [ef] at q
        cases ds' with
        | nil => cases d <;> exact q.elim
        | cons d' ds' =>
          cases d <;> simp only [mMake3] at q <;> try exact q.elim
          intro v H2 Nc n R2 S r V
          simp only [Rp] at r
          refine ⟨r.1, ?_⟩
          obtain ⟨Rb, Sb, w1, w2, w3⟩ := Rep.back P R1 S1 g er R2.uncons (S.uncons P.par hx hdx hne)
          obtain ⟨vx, v1, v2⟩ := R2.rep 0 d' rfl
          cases v1
          have notThere : ∀ a, H1 a = none → ∀ j, a ∉ N1 j := fun a z j w => R1.there ⟨j, w⟩ z
          -- what the object owns
          have md0 : ∀ {a : Addr}, Own (mkMd sm) d' (Nc 0) a → Own (mdAt (sm :: π) 0) d' (Nc 0) a := fun {a} o => by
            rcases hsm with h | ⟨h, _⟩ <;> subst h <;> exact o
          have ow : ∀ a, Own (mkMd sm) d' (Nc 0) a → wrS μ env1 N1 a ∨ H1 a = none := fun a o => by
            have hlk : (mdAt (sm :: π) 0).lock = false := by rcases hsm with h | ⟨h, _⟩ <;> subst h <;> rfl
            rcases S.wr a ⟨0, d', rfl, hlk, md0 o⟩ with z | z
            · rcases wr_consN z with z | z
              · subst z; exact .inr hx
              · exact .inl (w1 a z)
            · exact .inr (new_dom hx z)
          have apart : ∀ a, Own (mkMd sm) d' (Nc 0) a → ∀ j, ioOf π (ags.map Ag.st) j = none → a ∉ N1 j := fun a o j hj hin => by
            have hlk : (mdAt (sm :: π) 0).lock = false := by rcases hsm with h | ⟨h, _⟩ <;> subst h <;> rfl
            rcases S.wr a ⟨0, d', rfl, hlk, md0 o⟩ with z | z
            · rcases wr_consN z with z | ⟨k, d2, e2, w⟩
              · subst z; exact notThere _ hx j hin
              · obtain ⟨j2, h1, h2, h3, h4⟩ := own_in P er e2 w.2
                have : j2 ≠ j := fun y => absurd h1 (by rw [y]; exact ioOf_none hj h2)
                exact (R1.uq j2 d2 a h3 h4.2).2 j (Ne.symm this) hin
            · exact notThere _ (new_dom hx z) j hin
          refine q (.ref x) H2 _ (Nc 0) Rb Sb v2.xv ⟨fun a ha => ?_, fun _ a ha w => ?_, fun a o => ⟨(R2.uq 0 d' a rfl (md0 o)).1, fun w => ?_⟩, fun a o => ?_⟩
          · rcases S.all a ⟨0, ha⟩ with z | z
            · rcases all_consN z with z | ⟨k, y⟩
              · subst z; exact .inr (S1.dom _ hx)
              · rcases node_in P g y with ⟨j2, h4, h5⟩ | ⟨j2, h4, h5⟩ | h5
                · exact S1.all a ⟨j2, h5⟩
                · exact S1.all a ⟨j2, h5⟩
                · exact h5.1
            · exact .inr (S1.dom a (new_dom hx z))
          · rcases w2 a w with ⟨i, di, ei, oi⟩ | ⟨y, j, hj, hin⟩
            · exact (R2.uq (i + 1) di a (by simpa using ei) oi).2 0 (by omega) ha
            · rcases hsm with h | ⟨h, hb⟩
              · subst h
                exact apart a (.inl ⟨rfl, ha⟩) j hj hin
              · rcases S.all a ⟨0, ha⟩ with z | z
                · rcases all_consN z with z | ⟨k, t⟩
                  · subst z; exact notThere _ hx j hin
                  · rcases node_in P g t with ⟨j2, h4, h5⟩ | ⟨j2, h4, h5⟩ | h5
                    · have hk3 : k < (ags.map Ag.st).length := by
                        rcases Nat.lt_or_ge k (ags.map Ag.st).length with h | h
                        · exact h
                        · rw [List.getElem?_eq_none h] at h4; cases h4
                      unfold brw at hb
                      rw [List.any_eq_false] at hb
                      have hb := hb k (List.mem_range.mpr hk3)
                      rw [h4] at hb
                      cases hfx : (mdAt π k).fix with
                      | false => simp [hfx] at hb
                      | true =>
                        obtain ⟨jo, do_, eo, oo⟩ := y
                        have : j2 ≠ jo := fun t => by
                          subst t
                          by_cases hjj : j = j2
                          · subst hjj
                            exact absurd h4 (ioOf_none hj hfx)
                          · exact (R1.uq j2 do_ a eo oo).2 j hjj hin
                        exact (R1.uq jo do_ a eo oo).2 j2 this h5
                    · have hk3 : k < (ags.map Ag.st).length := by
                        rcases Nat.lt_or_ge k (ags.map Ag.st).length with h | h
                        · exact h
                        · rw [List.getElem?_eq_none h] at h4; cases h4
                      unfold brw at hb
                      rw [List.any_eq_false] at hb
                      have hb := hb k (List.mem_range.mpr hk3)
                      rw [h4] at hb
                      cases hfx : (mdAt π k).fix with
                      | false => simp [hfx] at hb
                      | true =>
                        obtain ⟨j', i1, _⟩ := P.io k hfx
                        rw [h4] at i1; cases i1
                    · exact h5.2.1 y
                · exact notThere _ (new_dom hx z) j hin
          · rcases w3 a w with ⟨i, y⟩ | ⟨j, hj, hin⟩
            · exact (R2.uq 0 d' a rfl (md0 o)).2 (i + 1) (by omega) y
            · exact apart a o j hj hin
          · rcases ow a o with y | y
            · exact S1.wr a y
            · exact .inr (S1.dom a y)
/-- C(..) -/
theorem v_make (M : Mk X.K C f) (Fn : FnOk X.prog X.w X.K X.mg X.base (L2.CX X.prog X.w) k f fd ps (spD ⟨X.K, X.mg, none⟩ (sm :: π) (mkMd sm) F)) (hr : Room (k + 1) X.A) (hg : Gl X cn) (hm : X.mg cn = some (.ref C)) (hb : Binds X.K fd ps []) (tk : Takes X W)
    (h : PGV X xv μ W (e :: es) ags) (P : Pass μ π (ags.map Ag.st)) (hsm : sm = .fd ∨ (sm = .fr ∧ brw μ π (ags.map Ag.st) = false))
    (hdb : (cn == ("__debug__" : Str)) = false := by decide) (he : starEach (e :: es) X.env = (false, eval e X.env) :: starEach es X.env := by rfl) (hpl : (backTo pos (starEach es X.env)).any (·.1) = false := by rfl) : PEV X xv μ W (.Call (.Name cn p) (e :: es) [] pos) false (mkMd sm) (mMake cn π F ags) :=
  ⟨PE.imp (pe_makeE (E := WE W) M Fn hr hg hm hb (fun σ => passAt tk σ) h.pa hdb he hpl) fun σ H Q q => make_core P hsm hm q, fun z => by cases z⟩
end
end VS
/-! VS: insert; list(range); str of an int; sorted(set(pairs)). -/
namespace VS
open PySem PySem.Spec PyProof.Rows L2
/-! ### strictly rising rows -/
theorem rise_uniq {α : Type} (f : α → Int) : ∀ (l m : List α), l.Pairwise (fun x y => f x < f y) → m.Pairwise (fun x y => f x < f y) → (∀ x, x ∈ l ↔ x ∈ m) → l = m
  | [], [], _, _, _ => rfl
  | [], y :: m, _, _, h => by have := (h y).mpr (by simp); cases this
  | x :: l, [], _, _, h => by have := (h x).mp (by simp); cases this
  | x :: l, y :: m, hl, hm, h => by
    rw [List.pairwise_cons] at hl hm
    have e : x = y := by
      rcases List.mem_cons.mp ((h x).mp (by simp)) with e | h1
      · exact e
      · rcases List.mem_cons.mp ((h y).mpr (by simp)) with e | h2
        · exact e.symm
        · have a := hm.1 x h1
          have b := hl.1 y h2
          omega
    subst e
    have : l = m := rise_uniq f l m hl.2 hm.2 fun z => by
      constructor
      · intro hz
        rcases List.mem_cons.mp ((h z).mp (by simp [hz])) with e | h1
        · subst e; have := hl.1 z hz; omega
        · exact h1
      · intro hz
        rcases List.mem_cons.mp ((h z).mpr (by simp [hz])) with e | h1
        · subst e; have := hm.1 z hz; omega
        · exact h1
    rw [this]
/-! ### pairs of small ints -/
def pairD (p : Int × Int) : D := .tup [.int p.1, .int p.2]
def pairOf : D → Option (Int × Int)
  | .tup [.int x, .int y] => some (x, y)
  | _ => none
def pairsOf : List D → Option (List (Int × Int))
  | [] => some []
  | d :: r => match pairOf d, pairsOf r with
    | some p, some ps => some (p :: ps)
    | _, _ => none
theorem pairOf_some {d : D} {p : Int × Int} (h : pairOf d = some p) : d = pairD p := by
  unfold pairOf at h
  split at h
  · cases h; rfl
  · cases h
theorem pairOf_pairD {p : Int × Int} : pairOf (pairD p) = some p := rfl
theorem pairsOf_some : ∀ {xs : List D} {ps : List (Int × Int)}, pairsOf xs = some ps → xs = ps.map pairD
  | [], ps, h => by simp only [pairsOf, Option.some.injEq] at h; subst h; rfl
  | d :: r, ps, h => by
    unfold pairsOf at h
    split at h
    · rename_i p qs h1 h2
      cases h
      rw [pairOf_some h1, pairsOf_some h2]
      rfl
    · cases h
theorem pairsOf_map : ∀ {ps : List (Int × Int)}, pairsOf (ps.map pairD) = some ps
  | [] => rfl
  | p :: r => by
    rw [List.map_cons, pairsOf, pairsOf_map (ps := r), pairOf_pairD]
def cdP (p : Int × Int) : Int := p.1 * 64 + p.2
def inB (p : Int × Int) : Bool := decide (0 ≤ p.1 ∧ p.1 < 64 ∧ 0 ≤ p.2 ∧ p.2 < 64)
theorem cdP_inj {p q : Int × Int} (hp : inB p = true) (hq : inB q = true) (h : cdP p = cdP q) : p = q := by
  unfold inB at hp hq
  rw [decide_eq_true_eq] at hp hq
  unfold cdP at h
  obtain ⟨a, b⟩ := p
  obtain ⟨c, d⟩ := q
  simp only at hp hq h
  have : a = c := by omega
  subst this
  have : b = d := by omega
  rw [this]
def insP (p : Int × Int) : List (Int × Int) → List (Int × Int)
  | [] => [p]
  | q :: r => if cdP p < cdP q then p :: q :: r else if cdP p = cdP q then q :: r else q :: insP p r
def srtP (ps : List (Int × Int)) : List (Int × Int) := ps.foldr insP []
theorem insP_mem {p : Int × Int} : ∀ {l : List (Int × Int)}, (∀ x ∈ p :: l, inB x = true) → ∀ x, x ∈ insP p l ↔ x = p ∨ x ∈ l
  | [], _, x => by simp [insP]
  | q :: r, h, x => by
    unfold insP
    split
    · simp
    · split
      · rename_i h1 h2
        have e : p = q := cdP_inj (h p (by simp)) (h q (by simp)) h2
        subst e
        simp
      · have := insP_mem (p := p) (l := r) (fun y hy => h y (by rcases List.mem_cons.mp hy with z | z <;> simp [z])) x
        simp only [List.mem_cons, this]
        constructor
        · rintro (a | a | a) <;> simp [a]
        · rintro (a | a | a) <;> simp [a]
theorem insP_rise {p : Int × Int} : ∀ {l : List (Int × Int)}, (∀ x ∈ p :: l, inB x = true) → l.Pairwise (fun x y => cdP x < cdP y) → (insP p l).Pairwise (fun x y => cdP x < cdP y)
  | [], _, _ => by simp [insP]
  | q :: r, h, hl => by
    rw [List.pairwise_cons] at hl
    unfold insP
    split
    · rename_i h1
      refine List.pairwise_cons.mpr ⟨fun y hy => ?_, List.pairwise_cons.mpr hl⟩
      rcases List.mem_cons.mp hy with z | z
      · rw [z]; exact h1
      · have := hl.1 y z; omega
    · split
      · exact List.pairwise_cons.mpr hl
      · rename_i h1 h2
        have hh : ∀ x ∈ p :: r, inB x = true := fun y hy => h y (by rcases List.mem_cons.mp hy with z | z <;> simp [z])
        refine List.pairwise_cons.mpr ⟨fun y hy => ?_, insP_rise hh hl.2⟩
        rcases (insP_mem hh y).mp hy with z | z
        · subst z; omega
        · exact hl.1 y z
theorem srtP_mem : ∀ {ps : List (Int × Int)}, (∀ x ∈ ps, inB x = true) → ∀ x, x ∈ srtP ps ↔ x ∈ ps
  | [], _, x => by simp [srtP]
  | p :: r, h, x => by
    have ih := srtP_mem (ps := r) (fun y hy => h y (by simp [hy]))
    show x ∈ insP p (srtP r) ↔ _
    rw [insP_mem (fun y hy => ?_), ih, List.mem_cons]
    rcases List.mem_cons.mp hy with z | z
    · rw [z]; exact h p (by simp)
    · exact h y (by simp [(ih y).mp z])
theorem srtP_rise : ∀ {ps : List (Int × Int)}, (∀ x ∈ ps, inB x = true) → (srtP ps).Pairwise (fun x y => cdP x < cdP y)
  | [], _ => by simp [srtP]
  | p :: r, h => by
    have ih := srtP_mem (ps := r) (fun y hy => h y (by simp [hy]))
    exact insP_rise (fun y hy => by
      rcases List.mem_cons.mp hy with z | z
      · rw [z]; exact h p (by simp)
      · exact h y (by simp [(ih y).mp z])) (srtP_rise (fun y hy => h y (by simp [hy])))
def gSortSet : List D → Option D
  | [.lst xs] => match pairsOf xs with
    | some ps => if (decide (ps.length < 64) && ps.all inB) = true then some (.lst ((srtP ps).map pairD)) else none
    | none => none
  | _ => none
def pL (p : Int × Int) : List Int := [p.1, p.2]
theorem pairs_ks {G : Gt} {H : Hp} : ∀ {ps : List (Int × Int)} {us : List V} {m : List Addr}, RpL G H (ps.map pairD) us m → ∃ ks : List (Addr × List Int), us = ks.map (fun p => V.ref p.1) ∧ ks.map (·.2) = ps.map pL ∧ (∀ p ∈ ks, H p.1 = some (.tup (p.2.map V.int)))
  | [], us, m, h => by simp only [List.map_nil, RpL] at h; exact ⟨[], h.1, rfl, by simp⟩
  | p :: r, us, m, h => by
    simp only [List.map_cons, RpL, pairD, Rp] at h
    obtain ⟨v, vs', n1, n2, rfl, ⟨a, ws, rfl, h1, w1, ws', m1, m2, rfl, ⟨rfl, _⟩, ⟨w2, ws2, m3, m4, rfl, ⟨rfl, _⟩, ⟨rfl, _⟩, _⟩, _⟩, h2, _⟩ := h
    obtain ⟨ks, e1, e2, e3⟩ := pairs_ks h2
    refine ⟨(a, pL p) :: ks, by rw [e1]; rfl, by rw [List.map_cons, e2]; rfl, fun q hq => ?_⟩
    rcases List.mem_cons.mp hq with z | z
    · subst z; exact h1
    · exact e3 q z
theorem ks_pairs {G : Gt} {H : Hp} : ∀ {ks : List (Addr × List Int)} {ps : List (Int × Int)}, ks.map (·.2) = ps.map pL → (∀ p ∈ ks, H p.1 = some (.tup (p.2.map V.int))) → RpL G H (ps.map pairD) (ks.map fun p => V.ref p.1) []
  | [], [], _, _ => by simp [RpL]
  | [], _ :: _, h, _ => by simp at h
  | _ :: _, [], h, _ => by simp at h
  | k :: ks, p :: ps, h, hk => by
    simp only [List.map_cons, List.cons.injEq] at h
    have h1 := hk k (by simp)
    rw [h.1] at h1
    simp only [List.map_cons, RpL, pairD, Rp]
    exact ⟨_, _, [], [], rfl, ⟨k.1, _, rfl, h1, _, _, [], [], rfl, ⟨rfl, rfl⟩, ⟨_, _, [], [], rfl, ⟨rfl, rfl⟩, ⟨rfl, rfl⟩, rfl⟩, rfl⟩, ks_pairs h.2 fun q hq => hk q (by simp [hq]), rfl⟩
theorem code_pL (p : Int × Int) : TS.code 64 (pL p) = cdP p := code_pair p.1 p.2
section
variable {X : Cx} {xv : XV} {μ : List Md} {W : WX} {pos apos p p2 pos2 : Pos} {e o b : Expr} {es : List Expr} {i : Nat} {ro ro1 ro2 root al dp : Bool} {md md1 md2 : Md} {m m1 m2 : EM} {pm : PM} {ms : AM}
def rSrtSet (X : Cx) : List V → Hp → VK → Prop := fun xs H Q => rSetOfT X.K X.prog X.w xs H fun y H2 => rSortedT X.K X.prog X.w [y] H2 Q
theorem cs_sortSet : CallS (gx X xv) (rSrtSet X) gSortSet := fun H vs ds n d Q rl e q => by
  unfold gSortSet at e
  split at e
  · rename_i xs
    split at e
    · rename_i ps hps
      split at e
      · rename_i hc
        cases e
        rw [Bool.and_eq_true, decide_eq_true_eq, List.all_eq_true] at hc
        obtain ⟨hlen, hb⟩ := hc
        obtain ⟨v, rfl, r⟩ := rl.one
        simp only [Rp] at r
        obtain ⟨a, us, m, rfl, h1, h2, rfl⟩ := r
        rw [pairsOf_some hps] at h2
        obtain ⟨ks, rfl, e2, e3⟩ := pairs_ks h2
        have kl : ks.length = ps.length := by have := congrArg List.length e2; simpa using this
        have mem_ps : ∀ x, x ∈ ks → ∃ p ∈ ps, x.2 = pL p := fun x hx => by
          have : x.2 ∈ ks.map (·.2) := List.mem_map.mpr ⟨x, hx, rfl⟩
          rw [e2, List.mem_map] at this
          obtain ⟨p, h, e⟩ := this
          exact ⟨p, h, e.symm⟩
        refine ⟨a, ks, rfl, SqL.of h1, fun p hp => SqT.of (e3 p hp), by omega, fun a' L ha' hs hall => ?_⟩
        have k1 := ext_upd (o := SetTO X.prog X.w a' L) ha'
        have LL : ∀ x ∈ L, ∃ p ∈ ps, x.2 = pL p := fun x hx => mem_ps x (hs x hx)
        refine ⟨a', L, 2, 64, rfl, upd_same, fun p hp => SqT.of (k1 _ _ (e3 p (hs p hp))), by omega, fun p hp => ?_, fun L' p pm nd l64 pw hp => ?_⟩
        · obtain ⟨q, hq, e⟩ := LL p hp
          have hB := hb q hq
          unfold inB at hB
          rw [decide_eq_true_eq] at hB
          rw [e]
          refine ⟨rfl, fun x hx => ?_⟩
          simp only [pL, List.mem_cons, List.not_mem_nil, or_false] at hx
          rcases hx with hx | hx <;> subst hx <;> omega
        · have L'L : ∀ x, x ∈ L' → x ∈ L := fun x hx => pm.mem_iff.mp hx
          -- the rows of the result
          have key : L'.map (·.2) = (srtP ps).map pL := by
            refine rise_uniq (TS.code 64) _ _ ?_ ?_ fun x => ?_
            · rw [List.pairwise_map]
              rw [List.nodup_iff_pairwise_ne, List.pairwise_map] at nd
              refine (pw.and nd).imp_of_mem fun {x y} hx hy h => ?_
              obtain ⟨p1, hp1, q1⟩ := LL x (L'L x hx)
              obtain ⟨p2, hp2, q2⟩ := LL y (L'L y hy)
              have h0 := h.1
              have hne := h.2
              rw [q1, q2] at h0 hne ⊢
              rw [code_pL, code_pL] at h0 ⊢
              rcases Int.lt_or_eq_of_le h0 with z | z
              · exact z
              · exact absurd (by rw [cdP_inj (hb p1 hp1) (hb p2 hp2) z]) hne
            · rw [List.pairwise_map]
              exact (srtP_rise hb).imp fun {x y} h => by rw [code_pL, code_pL]; exact h
            · constructor
              · intro hx
                obtain ⟨y, hy, rfl⟩ := List.mem_map.mp hx
                obtain ⟨p1, hp1, q1⟩ := LL y (L'L y hy)
                rw [q1]
                exact List.mem_map.mpr ⟨p1, (srtP_mem hb p1).mpr hp1, rfl⟩
              · intro hx
                obtain ⟨p1, hp1, rfl⟩ := List.mem_map.mp hx
                have hp1 := (srtP_mem hb p1).mp hp1
                have : pL p1 ∈ ks.map (·.2) := by rw [e2]; exact List.mem_map.mpr ⟨p1, hp1, rfl⟩
                obtain ⟨y, hy, ey⟩ := List.mem_map.mp this
                obtain ⟨z, hz, ez⟩ := List.mem_map.mp (hall y hy)
                exact List.mem_map.mpr ⟨z, pm.mem_iff.mpr hz, ez.trans ey⟩
          have k2 := ext_upd (o := .lst (L'.map fun q => V.ref q.1)) hp
          have r2 : RpL (gx X xv) (upd (upd H a' (SetTO X.prog X.w a' L)) p (.lst (L'.map fun q => V.ref q.1))) ((srtP ps).map pairD) (L'.map fun q => V.ref q.1) [] := ks_pairs key fun q hq => k2 _ _ (k1 _ _ (e3 q (hs q (L'L q hq))))
          refine q _ _ [p] (by simp only [Rp]; exact ⟨p, _, [], rfl, upd_same, r2, rfl⟩) (fun x o h => k2 _ _ (k1 _ _ h)) (fun x hx => ?_) fun x o => ?_
          · rw [List.mem_singleton] at hx
            subst hx
            refine .inr ?_
            by_cases z : x = a'
            · subst z; rw [upd_same] at hp; cases hp
            · rw [upd_ne z] at hp; exact hp
          · have hx := o.mem
            rw [List.mem_singleton] at hx
            subst hx
            refine ⟨by simp, ?_⟩
            by_cases z : x = a'
            · subst z; rw [upd_same] at hp; cases hp
            · rw [upd_ne z] at hp; exact hp
      · cases e
    · cases e
  · cases e
/-- sorted(set(e)), e a row of pairs -/
theorem v_sortSet {k : Nat} (hcalm : X.calm = true) (hr : Room k X.A) (hg1 : Gl X "sorted") (hm1 : X.mg "sorted" = none) (hg2 : Gl X "set") (hm2 : X.mg "set" = none) (h : PLV X xv μ W [e] ro al dp ms) (chk : Bool) (hc : al = true → chk = true)
    (he : starEach [e] X.env = (false, eval e X.env) :: starEach [] X.env := by rfl) (hpl : (backTo pos2 (starEach [] X.env)).any (·.1) = false := by rfl)
    (he2 : starEach [.Call (.Name "set" p2) [e] [] pos2] X.env = (false, eval (.Call (.Name "set" p2) [e] [] pos2) X.env) :: starEach [] X.env := by rfl) (hpl2 : (backTo pos (starEach [] X.env)).any (·.1) = false := by rfl) :
    PEV X xv μ W (.Call (.Name "sorted" p) [.Call (.Name "set" p2) [e] [] pos2] [] pos) ro .r (mArg chk gSortSet ms) := by
  refine v_args cs_sortSet (fun {t} ht => ?_) h chk hc
  have h1 := pe_callTy (p := p2) (cr_setOfT hcalm hr.units) hg2 hm2 (by decide +kernel) ht (by decide) (by decide) he hpl
  have h2 := pe_callB (p := p) (cr_sortedT hcalm) hg1 hm1 (by decide +kernel) (pa_cons h1 pa_nil he2) (by decide) (by decide) he2 hpl2
  exact PE.imp h2 fun σ H Q q => q
/-! ### insert -/
def gInsert (d : D) (ds : List D) : Option (D × D) := match d, ds with
  | .lst xs, [.int i, y] => if (decide (xs.length < LIM) && decide (0 ≤ i ∧ i < 2 ^ 62)) = true then some (.lst (xs.take i.toNat ++ [y] ++ xs.drop i.toNat), .non) else none
  | _, _ => none
def rInsM : V → List V → Hp → VK → Prop := fun x vs H Q => ∃ (l : Addr) (xs : List V) (i : Int) (y : V), x = .ref l ∧ vs = [.int i, y] ∧ H l = some (.lst xs) ∧ xs.length < sizeLine ∧ 0 ≤ i ∧ i < 2 ^ 63 ∧
    Q .non (upd H l (.lst (xs.take i.toNat ++ [y] ++ xs.drop i.toNat)))
theorem RpL.takeC {G : Gt} {H : Hp} : ∀ {xs : List D} {vs : List V} {n : List Addr} (k : Nat), RpL G H xs vs n → ∃ m1 m2, RpL G H (xs.take k) (vs.take k) m1 ∧ RpL G H (xs.drop k) (vs.drop k) m2 ∧ ∀ x, m1.count x + m2.count x = n.count x
  | [], _, _, k, h => by simp only [RpL] at h; obtain ⟨rfl, rfl⟩ := h; exact ⟨[], [], by simp [RpL], by simp [RpL], by simp⟩
  | d :: r, _, n, 0, h => ⟨[], n, by simp [RpL], h, by simp⟩
  | d :: r, _, _, k + 1, h => by
    simp only [RpL] at h
    obtain ⟨v, vs', n1, n2, rfl, h1, h2, rfl⟩ := h
    obtain ⟨m1, m2, g1, g2, g3⟩ := h2.takeC k
    refine ⟨n1 ++ m1, m2, ?_, g2, fun x => by have := g3 x; rw [List.count_append, List.count_append]; omega⟩
    simp only [List.take_succ_cons, RpL]
    exact ⟨v, _, n1, m1, rfl, h1, g1, rfl⟩
theorem mu_insert : MutR (gx X xv) rInsM gInsert := fun H a k d ds vs m d' ret Q r rl ak am e q => by
  unfold gInsert at e
  split at e
  · split at e
    · rename_i xs i y hz
      cases e
      rw [Bool.and_eq_true, decide_eq_true_eq, decide_eq_true_eq] at hz
      obtain ⟨w1, w2, m1, m2, rfl, r1, r2, rfl⟩ := rl.two
      simp only [Rp] at r1
      obtain ⟨rfl, rfl⟩ := r1
      simp only [Rp] at r
      obtain ⟨b, us, k0, e1, h1, h2, e2⟩ := r
      cases e1
      cases e2
      obtain ⟨k1, k2, g1, g2, g3⟩ := h2.takeC i.toNat
      have g4 : RpL (gx X xv) H (xs.take i.toNat ++ [y] ++ xs.drop i.toNat) (us.take i.toNat ++ [w2] ++ us.drop i.toNat) (k1 ++ m2 ++ k2) := RpL.append (RpL.append g1 (by simp only [RpL]; exact ⟨w2, [], m2, [], rfl, r2, ⟨rfl, rfl⟩, by simp⟩)) g2
      refine ⟨a, us, i, w2, rfl, rfl, h1, by rw [← h2.len, LIM_eq]; exact hz.1, hz.2.1, by omega, q _ _ _ [] (Rp.lstUpd g4 (by rw [h1]; trivial) fun z => ?_) (by simp [Rp]) Keeps.updL fun x => ?_⟩
      · have g3' := g3 a
        rw [List.count_eq_zero.mpr ak] at g3'
        simp only [List.mem_append] at z
        rcases z with (z | z) | z
        · have := List.count_pos_iff.mpr z; omega
        · exact am (by simp [z])
        · have := List.count_pos_iff.mpr z; omega
      · have := g3 x
        rw [List.count_append, List.count_append]
        simp only [List.nil_append, List.count_nil, Nat.add_zero]
        omega
    · cases e
  · cases e
theorem v_insert (h1 : PPV X xv (lockAt μ i) W o ro1 i root pm) (h2 : PLV X xv (lockAt μ i) W (e :: es) ro2 false dp ms) (hl : (mdAt μ i).lock = false := by decide) (hd : (mdAt μ i).isD = true ∨ ((mdAt μ i).isR = true ∧ root = true) := by decide) (hdp : (mdAt μ i).isD = true → dp = true := by decide)
    (hbase : attributeBase o "insert" X.env (eval o X.env) = eval o X.env := by rfl)
    (hfew : ((backTo pos (starEach (e :: es) X.env)).all (fun x => !x.1) && (backToKw pos (keywordEach [] X.env)).all (fun x => x.1.isSome)
      && decide ((e :: es).length + ([] : List Keyword).length + (if ([] : List Keyword).isEmpty then 0 else 1) < 30)) = true := by rfl)
    (hline : (apos.endLine == pos.line) = true := by rfl) (hst : starEach (e :: es) X.env = (false, eval e X.env) :: starEach es X.env := by rfl) (hplain : (backTo pos (starEach es X.env)).any (·.1) = false := by rfl) :
    PEV X xv μ W (.Call (.Attribute o "insert" apos) (e :: es) [] pos) false (rtMd (mdAt μ i)) (mMut D.isL i gInsert pm ms) :=
  v_mut PySem.F.plainAttrs_list PySem.F.slot_list_insert PySem.F.type_list_insert mt_insert (fun H d a k => isL_ty) isL_mut mu_insert hl hd h1 h2 hdp hbase hfew hline hst hplain
/-! ### list(range(..)) -/
theorem v_argsX {ex : Expr} {r : List V → Hp → VK → Prop} {g : List D → Option D} (hs : CallS (gx X xv) r g) (hp : ∀ {t : TA}, PA X es t → PE X ex (fun σ H Q => t σ H fun vs H1 => r vs H1 Q)) (h : PLV X xv μ W es ro al dp ms) : PEV X xv μ W ex ro .r (mArg al g ms) := v_args hs hp h al fun z => z
def gLRng1 : List D → Option D
  | [.int n] => if decide (-(2 ^ 62) ≤ n ∧ n ≤ 16777216) = true then some (.lst (rngL 0 n.toNat)) else none
  | _ => none
def gLRng2 : List D → Option D
  | [.int a, .int b] => if decide (-(2 ^ 62) ≤ a ∧ a < 2 ^ 62 ∧ -(2 ^ 62) ≤ b ∧ b < 2 ^ 62 ∧ (b - a).toNat ≤ 16777216) = true then some (.lst (rngL a (b - a).toNat)) else none
  | _ => none
theorem RpL.rngG {G : Gt} {H : Hp} {f : Nat → Int} : ∀ {l : List Nat}, RpL G H (l.map fun i => D.int (f i)) (l.map fun i => V.int (f i)) []
  | [] => by simp [RpL]
  | i :: r => by
    simp only [List.map_cons, RpL]
    exact ⟨_, _, [], [], rfl, by simp [Rp], RpL.rngG, rfl⟩
theorem RpL.rng {G : Gt} {H : Hp} (a b : Int) : RpL G H (rngL a (b - a).toNat) (rgV a b) [] := RpL.rngG (f := fun i : Nat => a + (i : Int))
theorem cs_rng1 : CallS (gx X xv) (fun xs H Q => ∃ n, xs = [.int n] ∧ RgOk 0 n ∧ ∀ q, H q = none → Q (.ref q) (upd H q (.lst (rgV 0 n)))) gLRng1 := fun H vs ds n d Q rl e q => by
  unfold gLRng1 at e
  split at e
  · split at e
    · rename_i k hk
      cases e
      rw [decide_eq_true_eq] at hk
      obtain ⟨v, rfl, r⟩ := rl.one
      simp only [Rp] at r
      obtain ⟨rfl, _⟩ := r
      refine ⟨_, rfl, ⟨by omega, by omega, by omega, by omega, by omega⟩, fun l hl => ?_⟩
      have z : RpL (gx X xv) H (rngL 0 k.toNat) (rgV 0 k) [] := by
        have := RpL.rng (G := gx X xv) (H := H) 0 k
        rwa [Int.sub_zero] at this
      refine q _ _ [l] (Rp.newL hl z) (ext_upd hl) (fun x hx => ?_) (own_newL hl (by simp))
      rw [List.mem_singleton] at hx
      subst hx
      exact .inr hl
    · cases e
  · cases e
theorem cs_rng2 : CallS (gx X xv) (fun xs H Q => ∃ a b, xs = [.int a, .int b] ∧ RgOk a b ∧ ∀ q, H q = none → Q (.ref q) (upd H q (.lst (rgV a b)))) gLRng2 := fun H vs ds n d Q rl e q => by
  unfold gLRng2 at e
  split at e
  · split at e
    · rename_i a b hk
      cases e
      rw [decide_eq_true_eq] at hk
      obtain ⟨v, w, n1, n2, rfl, r1, r2, _⟩ := rl.two
      simp only [Rp] at r1 r2
      obtain ⟨rfl, _⟩ := r1
      obtain ⟨rfl, _⟩ := r2
      refine ⟨_, _, rfl, ⟨by omega, by omega, by omega, by omega, by omega⟩, fun l hl => ?_⟩
      refine q _ _ [l] (Rp.newL hl (RpL.rng a b)) (ext_upd hl) (fun x hx => ?_) (own_newL hl (by simp))
      rw [List.mem_singleton] at hx
      subst hx
      exact .inr hl
    · cases e
  · cases e
theorem prgA1 {t : TA} {a : Expr} (hg : Gl X "range") (hm : X.mg "range" = none) (ha : PA X [a] t) (hs : starEach [a] X.env = (false, eval a X.env) :: starEach [] X.env) (hpl : (backTo pos2 (starEach [] X.env)).any (·.1) = false) :
    PRg X (.Call (.Name "range" p2) [a] [] pos2) (fun σ H Q => t σ H fun vs H1 => ∃ n, vs = [.int n] ∧ Q 0 n H1) := by
  intro pins s σ H Q J hq
  refine Call_ (ld_blt J hg hm boot_range (PyProof.Rows.callWith_type1 (thn (ha.run pos2 pins s σ H _ J hq) fun us s1 ⟨vs, H1, J1, r1, q1⟩ => ?_) hs hpl))
  obtain ⟨n, e, q⟩ := q1
  subst e
  cases r1 with
  | cons r rr =>
    cases rr
    obtain ⟨t, rfl⟩ := r
    exact call_range_1 ⟨_, 0, n, _, _, _, H1, rfl, IsRange.new _ _ _ _ _ _ _, J1.kept fun b u e => Heap.get?_push_of_some _ e, q⟩
theorem prgA2 {t : TA} {a b : Expr} (hg : Gl X "range") (hm : X.mg "range" = none) (ha : PA X [a, b] t) (hs : starEach [a, b] X.env = (false, eval a X.env) :: starEach [b] X.env) (hpl : (backTo pos2 (starEach [b] X.env)).any (·.1) = false) :
    PRg X (.Call (.Name "range" p2) [a, b] [] pos2) (fun σ H Q => t σ H fun vs H1 => ∃ i j, vs = [.int i, .int j] ∧ Q i j H1) := by
  intro pins s σ H Q J hq
  refine Call_ (ld_blt J hg hm boot_range (PyProof.Rows.callWith_type1 (thn (ha.run pos2 pins s σ H _ J hq) fun us s1 ⟨vs, H1, J1, r1, q1⟩ => ?_) hs hpl))
  obtain ⟨i, j, e, q⟩ := q1
  subst e
  cases r1 with
  | cons r rr =>
    cases rr with
    | cons r' rr =>
      cases rr
      obtain ⟨t, rfl⟩ := r
      obtain ⟨t', rfl⟩ := r'
      exact call_range_2 ⟨_, i, j, _, _, _, H1, rfl, IsRange.new _ _ _ _ _ _ _, J1.kept fun b u e => Heap.get?_push_of_some _ e, q⟩
theorem v_lrng1 (hcalm : X.calm = true) (hg1 : Gl X "list") (hm1 : X.mg "list" = none) (hg2 : Gl X "range") (hm2 : X.mg "range" = none) (h : PLV X xv μ W [e] ro al dp ms)
    (na : starEach [.Call (.Name "range" p2) [e] [] pos2] X.env = (false, eval (.Call (.Name "range" p2) [e] [] pos2) X.env) :: starEach [] X.env := by rfl) (nb : starEach [e] X.env = (false, eval e X.env) :: starEach [] X.env := by rfl) (hpl : (backTo pos2 (starEach [] X.env)).any (·.1) = false := by rfl) :
    PEV X xv μ W (.Call (.Name "list" p) [.Call (.Name "range" p2) [e] [] pos2] [] pos) ro .r (mArg al gLRng1 ms) :=
  v_argsX cs_rng1 (fun {t} ht => PE.imp (pe_listRg hcalm hg1 hm1 (prgA1 hg2 hm2 ht nb hpl) na) fun σ H Q q => q) h
theorem v_lrng2 (hcalm : X.calm = true) (hg1 : Gl X "list") (hm1 : X.mg "list" = none) (hg2 : Gl X "range") (hm2 : X.mg "range" = none) (h : PLV X xv μ W [e, b] ro al dp ms)
    (na : starEach [.Call (.Name "range" p2) [e, b] [] pos2] X.env = (false, eval (.Call (.Name "range" p2) [e, b] [] pos2) X.env) :: starEach [] X.env := by rfl) (nb : starEach [e, b] X.env = (false, eval e X.env) :: starEach [b] X.env := by rfl) (hpl : (backTo pos2 (starEach [b] X.env)).any (·.1) = false := by rfl) :
    PEV X xv μ W (.Call (.Name "list" p) [.Call (.Name "range" p2) [e, b] [] pos2] [] pos) ro .r (mArg al gLRng2 ms) :=
  v_argsX cs_rng2 (fun {t} ht => PE.imp (pe_listRg hcalm hg1 hm1 (prgA2 hg2 hm2 ht nb hpl) na) fun σ H Q q => q) h
/-! ### str of an int -/
def gStr : List D → Option D
  | [.int i] => if decide (i.natAbs.log2 < 1920) = true then some (.str (toString i)) else none
  | [.str z] => some (.str z)
  | _ => none
theorem pu_str : ∀ ds d, gStr ds = some d → d.pure = true := fun ds d e => by
  unfold gStr at e
  split at e <;> (first | (split at e <;> cases e <;> rfl) | (cases e; try rfl))
theorem cs_str : CallS (gx X xv) (fun xs H Q => (∃ i, xs = [.int i] ∧ i.natAbs.log2 < 1920 ∧ Q (.str (toString i)) H) ∨ (∃ a, xs = [.str a] ∧ Q (.str a) H)) gStr := CallS.sc pu_str fun H vs ds n d Q rl e q => by
  unfold gStr at e
  split at e
  · split at e
    · rename_i hk
      cases e
      rw [decide_eq_true_eq] at hk
      obtain ⟨v, rfl, r⟩ := rl.one
      simp only [Rp] at r
      obtain ⟨rfl, _⟩ := r
      exact .inl ⟨_, rfl, hk, q _ (by simp [Rp])⟩
    · cases e
  · cases e
    obtain ⟨v, rfl, r⟩ := rl.one
    simp only [Rp] at r
    obtain ⟨rfl, _⟩ := r
    exact .inr ⟨_, rfl, q _ (by simp [Rp])⟩
  · cases e
theorem cr_str : CallR X (.type "str") (fun xs H Q => (∃ i, xs = [.int i] ∧ i.natAbs.log2 < 1920 ∧ Q (.str (toString i)) H) ∨ (∃ a, xs = [.str a] ∧ Q (.str a) H)) := CallR.or call_str_int SkE.call_str_str
end
/-! ### the meanings -/
section
variable {env e : En} {xs : List D} {y : D} {i a b : Int} {ps : List (Int × Int)}
@[simp] theorem g_insert : gInsert (.lst xs) [.int i, y] = if (decide (xs.length < LIM) && decide (0 ≤ i ∧ i < 2 ^ 62)) = true then some (.lst (xs.take i.toNat ++ [y] ++ xs.drop i.toNat), .non) else none := id rfl
@[simp] theorem g_lrng1 : gLRng1 [.int i] = if decide (-(2 ^ 62) ≤ i ∧ i ≤ 16777216) = true then some (.lst (rngL 0 i.toNat)) else none := id rfl
@[simp] theorem g_lrng2 : gLRng2 [.int a, .int b] = if decide (-(2 ^ 62) ≤ a ∧ a < 2 ^ 62 ∧ -(2 ^ 62) ≤ b ∧ b < 2 ^ 62 ∧ (b - a).toNat ≤ 16777216) = true then some (.lst (rngL a (b - a).toNat)) else none := id rfl
@[simp] theorem g_strI : gStr [.int i] = if decide (i.natAbs.log2 < 1920) = true then some (.str (toString i)) else none := id rfl
@[simp] theorem g_strS {z : Str} : gStr [.str z] = some (.str z) := id rfl
@[simp] theorem g_absI : gAbs [.int i] = some (.int (if i < 0 then -i else i)) := id rfl
@[simp] theorem rngL_len {lo : Int} {n : Nat} : (rngL lo n).length = n := by simp [rngL]
@[simp] theorem rngDn_len {lo : Int} {n : Nat} : (rngDn lo n).length = n := by simp [rngDn]
theorem rngL_at {lo : Int} {n i : Nat} {d : D} (h : (rngL lo n)[i]? = some d) : i < n ∧ d = .int (lo + i) := by
  have hi : i < n := by
    have := (List.getElem?_eq_some_iff.mp h).1
    simpa [rngL] using this
  rw [rngL, List.getElem?_map, List.getElem?_range hi] at h
  exact ⟨hi, (Option.some.inj h).symm⟩
theorem rngL_get {lo : Int} {n i : Nat} (h : i < n) : (rngL lo n)[i]? = some (.int (lo + i)) := by
  rw [rngL, List.getElem?_map, List.getElem?_range h]; rfl
theorem rngDn_at {lo : Int} {n i : Nat} {d : D} (h : (rngDn lo n)[i]? = some d) : i < n ∧ d = .int (lo - i) := by
  have hi : i < n := by
    have := (List.getElem?_eq_some_iff.mp h).1
    simpa [rngDn] using this
  rw [rngDn, List.getElem?_map, List.getElem?_range hi] at h
  refine ⟨hi, (Option.some.inj h).symm.trans ?_⟩
  show D.int (lo + (i : Int) * -1) = D.int (lo - i)
  rw [show lo + (i : Int) * -1 = lo - i by omega]
theorem g_sortSet (h1 : ps.length < 64) (h2 : ps.all inB = true) : gSortSet [.lst (ps.map pairD)] = some (.lst ((srtP ps).map pairD)) := by
  simp only [gSortSet]
  rw [pairsOf_map]
  simp only [h1, h2, decide_true, Bool.and_self, if_true]
theorem seq_nx {s1 s2 : SM} {env e1 : En} (h : s1 env = .nx e1) : sSeq s1 s2 env = s2 e1 := by rw [e_sSeq, h]; rfl
theorem nox_ok {d : D} {e : En} : Rt.nox (.ok d e) = .ok d e := rfl
end
end VS
/-! VS: tuple(x), list(x) of a name that owns its list's own object alone. -/
namespace VS
open PySem PySem.Spec PyProof.Rows L2
def gTupR : D → Option D
  | .lst xs => some (.tup xs)
  | _ => none
def gLstR : D → Option D
  | .lst xs => some (.lst xs)
  | _ => none
def mCpR (g : D → Option D) (i : Nat) : EM := fun env => match env[i]? with
  | some (some d) => mUn2 g d env
  | _ => .bad
section
variable {X : Cx} {xv : XV} {μ : List Md} {W : WX} {pos p p2 : Pos} {x : Str} {i : Nat}
theorem part_free {env : En} {σ : L2.St} {H : Hp} {N : Nat → List Addr} {G : Gt} (R : Rep G μ env σ H N) (hR : (mdAt μ i).isR = true) {xs : List D} {v : V} {a : Addr} {m : List Addr} (e : env[i]? = some (some (.lst xs))) (hn : N i = a :: m) : ∀ y ∈ m, ¬ ownS μ env N y := fun y hy ⟨j, d', e', o⟩ => by
  have oa : Own (mdAt μ i) (.lst xs) (N i) a := .inr ⟨hR, rfl, by rw [hn]; rfl⟩
  by_cases hj : j = i
  · subst hj
    rw [e] at e'
    cases e'
    have hD : (mdAt μ j).isD = false := by cases z : mdAt μ j <;> simp [z, Md.isR] at hR <;> rfl
    rcases o with o | ⟨_, _, o⟩
    · rw [hD] at o; cases o.1
    · rw [hn] at o
      simp only [List.head?_cons, Option.some.injEq] at o
      subst o
      have := (R.uq j _ a e oa).1
      rw [hn, List.count_cons_self] at this
      have := List.count_pos_iff.mpr hy
      omega
  · exact (R.uq j d' y e' o).2 i (Ne.symm hj) (by rw [hn]; simp [hy])
theorem v_tupR (h : PE X (.Name x p2) (tVar i)) (hg : Gl X "tuple") (hm : X.mg "tuple" = none) (hv : bootBuiltins "tuple" = some (.type "tuple")) (hR : (mdAt μ i).isR = true := by decide)
    (he : starEach [.Name x p2] X.env = (false, eval (.Name x p2) X.env) :: starEach [] X.env := by rfl) (hpl : (backTo pos (starEach [] X.env)).any (·.1) = false := by rfl) : PEV X xv μ W (.Call (.Name "tuple" p) [.Name x p2] [] pos) true .r (mCpR gTupR i) := by
  refine ⟨PE.imp (pe_callTy (p := p) call_tuple_of hg hm hv (pa_cons h pa_nil he) (by decide) (by decide) he hpl) fun σ H Q ⟨env, N, R, q⟩ => ?_, fun _ env d e' k => ?_⟩
  · unfold mCpR at q
    split at q
    · rename_i d ed
      obtain ⟨v, h1, h2⟩ := R.rep i d ed
      refine ⟨v, h1, ?_⟩
      cases d <;> simp only [gTupR, mUn2] at q <;> try exact q.elim
      rename_i xs
      simp only [fin, Bool.false_and, Bool.false_eq_true, if_false] at q
      simp only [Rp] at h2
      obtain ⟨a, vs, m, rfl, g1, g2, hn⟩ := h2
      refine ⟨a, vs, rfl, .inl ⟨SqL.of g1, fun l hl => ?_⟩⟩
      have k := ext_upd (o := .tup vs) hl
      refine q (.ref l) _ N m (R.ext k) (Stp.new k) (Rp.newT hl g2) ⟨fun y hy => .inl ⟨i, by rw [hn]; simp [hy]⟩, fun _ y hy => part_free (v := .ref a) R hR ed hn y hy, fun y o => absurd o (own_tup y), fun y o => absurd o (own_tup y)⟩
    · exact q.elim
  · unfold mCpR at k
    split at k
    · simp only [mUn2, fin, Bool.false_and, Bool.false_eq_true, if_false] at k
      split at k
      · cases k; rfl
      · cases k
    · cases k
theorem v_lstR (h : PE X (.Name x p2) (tVar i)) (hg : Gl X "list") (hm : X.mg "list" = none) (hv : bootBuiltins "list" = some (.type "list")) (hR : (mdAt μ i).isR = true := by decide)
    (he : starEach [.Name x p2] X.env = (false, eval (.Name x p2) X.env) :: starEach [] X.env := by rfl) (hpl : (backTo pos (starEach [] X.env)).any (·.1) = false := by rfl) : PEV X xv μ W (.Call (.Name "list" p) [.Name x p2] [] pos) true .r (mCpR gLstR i) := by
  refine ⟨PE.imp (pe_callTy (p := p) call_list_of hg hm hv (pa_cons h pa_nil he) (by decide) (by decide) he hpl) fun σ H Q ⟨env, N, R, q⟩ => ?_, fun _ env d e' k => ?_⟩
  · unfold mCpR at q
    split at q
    · rename_i d ed
      obtain ⟨v, h1, h2⟩ := R.rep i d ed
      refine ⟨v, h1, ?_⟩
      cases d <;> simp only [gLstR, mUn2] at q <;> try exact q.elim
      rename_i xs
      simp only [fin, Bool.false_and, Bool.false_eq_true, if_false] at q
      simp only [Rp] at h2
      obtain ⟨a, vs, m, rfl, g1, g2, hn⟩ := h2
      refine ⟨a, vs, rfl, .inl (SqL.of g1), fun l hl => ?_⟩
      have k := ext_upd (o := .lst vs) hl
      have own := own_newL (ds := xs) hl (g2.fresh hl)
      refine q (.ref l) _ N (l :: m) (R.ext k) (Stp.new k) (Rp.newL hl g2) ⟨fun y hy => ?_, fun _ y hy => ?_, fun y o => ⟨(own y o).1, fun w => R.there w (own y o).2⟩, fun y o => .inr (own y o).2⟩
      · rcases List.mem_cons.mp hy with rfl | hy
        · exact .inr hl
        · exact .inl ⟨i, by rw [hn]; simp [hy]⟩
      · rcases List.mem_cons.mp hy with rfl | hy
        · exact fun w => R.there w.all hl
        · exact part_free (v := .ref a) R hR ed hn y hy
    · exact q.elim
  · unfold mCpR at k
    split at k
    · simp only [mUn2, fin, Bool.false_and, Bool.false_eq_true, if_false] at k
      split at k
      · cases k; rfl
      · cases k
    · cases k
end
@[simp] theorem e_mCpR {g : D → Option D} {i : Nat} {env : En} : mCpR g i env = match env[i]? with | some (some d) => mUn2 g d env | _ => .bad := id rfl
@[simp] theorem g_tupR {xs : List D} : gTupR (.lst xs) = some (.tup xs) := id rfl
@[simp] theorem g_lstR {xs : List D} : gLstR (.lst xs) = some (.lst xs) := id rfl
end VS
namespace VS
@[simp] theorem e_mMove {i : Nat} {env : En} : mMove i env = match env[i]? with | some (some d) => .ok d (env.set i none) | _ => .bad := id rfl
end VS
/-! VS: place[b] = e with an e that changes the place's slot, too; methods of texts; sorted(dict). -/
namespace VS
open PySem PySem.Spec PyProof.Rows L2
section
variable {X : Cx} {xv : XV} {μ : List Md} {W : WX} {pos : Pos} {i : Nat} {o b value : Expr} {ro1 ro2 ro3 root : Bool} {pm : PM} {m mv : EM} {md mdv rmd : Md} {tset : TSet}
theorem set_atU {r : V → List V → Hp → VK → Prop} {g : D → List D → Option (D × D)} (hs : MutR (gx X xv) r g) (ht : ∀ y z x H (Q : Hp → Prop), r y [z, x] H (fun _ => Q) → tset y z x H Q) (h1 : PPV X xv (lockAt μ i) W o ro1 i root pm) (h2 : PEV X xv (lockAt μ i) W b ro2 md m) (h3 : PEV X xv μ W value ro3 mdv mv)
    (hl : (mdAt μ i).lock = false) (hd : (mdAt μ i).isD = true ∨ ((mdAt μ i).isR = true ∧ root = true)) (hmv : mdv = .s ∨ mdv = .r ∨ mdv = .d) (hdp : (mdAt μ i).isD = true → mdv = .d) (hmk : md ≠ .al) (hmk2 : (mdAt μ i).isD = true → md = .d)
    {E : Ends} {σ : L2.St} {H : Hp} (q : tS (gx X xv) μ W rmd (sPut i g pm m mv) E σ H) :
    tE (gx X xv) μ W ro3 mdv mv σ H fun x H1 => tP (gx X xv) (lockAt μ i) W ro1 i root pm σ H1 fun y H2 => tE (gx X xv) (lockAt μ i) W ro2 md m σ H2 fun z H3 => tset y z x H3 fun H4 => E.nx σ H4 := by
  have hR := mdR hd
  have hlk := lk_of hR
  obtain ⟨env, N, R0, q⟩ := q
  refine ⟨env, N, R0, ?_⟩
  unfold sPut at q
  cases e1 : mv env with
  | bad => rw [e1] at q; exact q
  | exc x env1 => rw [e1] at q; exact q.toX
  | ok dv env1 =>
    rw [e1] at q
    simp only [Rt.st_ok, sPut2] at q
    intro v H1 N1 n1 R1 S1 r1 V1
    refine ⟨env1, N1, R1.dolock, ?_⟩
    cases e2 : pm env1 with
    | bad => rw [e2] at q; exact q
    | exc x env2 => rw [e2] at q; exact XQ.unlock hR (XQ.pre S1 q.toX)
    | ok p env2 =>
      rw [e2] at q
      simp only [Rt.st_ok, sPut3] at q
      split at q
      · rename_i hpm
        intro y H2 N2 R2 S2 F2
        refine ⟨env2, N2, R2, ?_⟩
        cases e3 : m env2 with
        | bad => rw [e3] at q; exact q
        | exc x env3 => rw [e3] at q; exact XQ.pre S2 (XQ.unlock hR (XQ.pre S1 q.toX))
        | ok dk env3 =>
          rw [e3] at q
          simp only [Rt.st_ok, sPut4] at q
          intro z H3 N3 n3 R3 S3 r3 V3
          have F3 := S3.foc R2 hlk F2 (.inr (.inr (R2.nowr hlk)))
          have S2u := S2.unlock hR
          have S12 := S1.trans S2u
          have S123 : Stp μ false env H N env3 H3 N3 := (S12.trans (S3.unlock hR)).mono (by simp)
          have nal : mdv ≠ .al := by rcases hmv with h | h | h <;> rw [h] <;> simp
          have S23 := S2.trans S3
          have r1' : Rp (gx X xv) H3 dv v n1 := S23.rp R1.dolock r1 fun a ha w => V1.nown nal a ha (ownS_lock.mp w)
          cases eg : g p.1 [dk, dv] with
          | none => rw [eg] at q; exact q.elim
          | some dr =>
            obtain ⟨d', ret⟩ := dr
            rw [eg] at q
            have nown : ∀ x ∈ n3 ++ n1, ¬ ownS μ env3 N3 x := fun x hx w => by
              rcases List.mem_append.mp hx with hx | hx
              · exact V3.nown hmk x hx (ownS_lock.mpr w)
              · rcases S23.own x (ownS_lock.mpr w) with t | t
                · exact V1.nown nal x hx (ownS_lock.mp t)
                · exact r1.there hx t
            refine ht _ _ _ _ _ ?_
            refine mut_core (ro := false) (mm := n3 ++ n1) (ds := [dk, dv]) (vs := [z, v]) hs hl hd R3.unlock S123 hpm F3 (by simp only [RpL]; exact ⟨z, _, n3, n1, rfl, r3, ⟨v, [], n1, [], rfl, r1', ⟨rfl, rfl⟩, by simp⟩, rfl⟩) ⟨fun x hx => ?_, fun _ => nown⟩ (fun zz _ x hx => ?_) eg fun w H4 N4 nr R4 S4 r4 V4 => q σ H4 N4 R4 S4 .refl
            · rcases List.mem_append.mp hx with hx | hx
              · exact (V3.sub x hx).elim (S12.all x) fun t => .inr (S12.dom x t)
              · exact V1.sub x hx
            · have hv := hdp zz
              have hk := hmk2 zz
              subst hv hk
              rw [List.count_append]
              have u1 : ∀ x ∈ n1, n1.count x = 1 ∧ ¬ allS N1 x := fun x hx => V1.uq x (.inl ⟨rfl, hx⟩)
              have ap : ∀ x ∈ n1, x ∉ n3 := fun x hx hx3 => by
                rcases V3.sub x hx3 with t | t
                · rcases S2.all x t with t | t
                  · exact (u1 x hx).2 t
                  · exact r1.there hx t
                · exact r1.there hx (S2.dom x t)
              rcases List.mem_append.mp hx with hx | hx
              · obtain ⟨w1, w2⟩ := V3.uq x (.inl ⟨rfl, hx⟩)
                refine ⟨by rw [w1, List.count_eq_zero.mpr fun t => ap x t hx], w2, ?_⟩
                rcases V3.osub x (.inl ⟨rfl, hx⟩) with t | t
                · rcases S12.wr x (wrS_lock t) with t | t
                  · exact .inl t
                  · exact .inr t
                · exact .inr (S12.dom x t)
              · obtain ⟨w1, w2⟩ := u1 x hx
                refine ⟨by rw [w1, List.count_eq_zero.mpr (ap x hx)], fun t => ?_, V1.osub x (.inl ⟨rfl, hx⟩)⟩
                rcases S23.all x t with t | t
                · exact w2 t
                · exact r1.there hx t
      · exact q.elim
/-- place[b] = e; e itself may change the slot -/
theorem s_setLU {k : Nat} (hr : Room k X.A) (h1 : PPV X xv (lockAt μ i) W o ro1 i root pm) (h2 : PEV X xv (lockAt μ i) W b ro2 md m) (h3 : PEV X xv μ W value ro3 mdv mv)
    (hl : (mdAt μ i).lock = false := by decide) (hd : (mdAt μ i).isD = true ∨ ((mdAt μ i).isR = true ∧ root = true) := by decide) (hmv : mdv = .s ∨ mdv = .r ∨ mdv = .d := by decide) (hdp : (mdAt μ i).isD = true → mdv = .d := by decide) (hmk : md ≠ .al := by decide) (hmk2 : (mdAt μ i).isD = true → md = .d := by decide)
    {tpos : Pos} (hs : swapsWithSole [.Subscript o b tpos] value pos.line X.env = pure false := by rfl) (hw : swappedStores [.Subscript o b tpos] value X.env = pure none := by rfl)
    (h5 : (assignEach [.Subscript o b tpos] X.env).map (·.2) = [assign (.Subscript o b tpos) X.env] := by rfl) 
    (ha : ∀ v, assign (.Subscript o b tpos) X.env v = (do
      let ov ← holding [v] (eval o X.env)
      let iv ← holding [v, ov] (eval b X.env)
      standAt tpos
      holding [v, ov, iv] (setItem ov iv v)
      release [v, ov, iv] []) := by intro _; rfl) : PSV X xv μ W rmd (.Assign [.Subscript o b tpos] value pos) (sPut i gSetL pm m mv) :=
  ⟨PS.imp (ps_asg h3.pe (pg_sub h1.pe h2.pe (set_any (by have := hr.un; omega)) ha) hs hw h5) fun E σ H q => set_atU mu_setL (fun y z x H Q ⟨i, v, e, h⟩ => by cases e; exact h) h1 h2 h3 hl hd hmv hdp hmk hmk2 q⟩
end
/-! ### methods of a text, with one argument, whose answer is a scalar -/
def mS13 (g : Str → D → Option D) (a : Str) (d : D) (e : En) : Rt D := fin false (g a d) e
def mS12 (g : Str → D → Option D) (m2 : EM) (d : D) (e : En) : Rt D := match d with
  | .str a => (m2 e).bind (mS13 g a)
  | _ => .bad
def mS1 (g : Str → D → Option D) (m1 m2 : EM) : EM := fun env => (m1 env).bind (mS12 g m2)
section
variable {X : Cx} {xv : XV} {μ : List Md} {W : WX} {pos apos : Pos} {o e ex : Expr} {ro1 ro2 : Bool} {m1 m2 : EM} {md md1 md2 : Md}
theorem v_s1 {r : V → List V → Hp → VK → Prop} {g : Str → D → Option D} (hp : ∀ {to te : TE}, PE X o to → PE X e te → PE X ex (tM1 r to te))
    (hs : ∀ H a y dy n d (Q : VK), Rp (gx X xv) H dy y n → g a dy = some d → (∀ v, Rp (gx X xv) H d v [] → Q v H) → r (.str a) [y] H Q) (h1 : PEV X xv μ W o ro1 md1 m1) (h2 : PEV X xv μ W e ro2 md2 m2) :
    PEV X xv μ W ex (ro1 && ro2) md (mS1 g m1 m2) := by
  refine ⟨PE.imp (hp h1.pe h2.pe) fun σ H Q ⟨env, N, R0, q⟩ => ⟨env, N, R0, ?_⟩, fun z env d e' k => ?_⟩
  · unfold mS1 at q
    cases e1 : m1 env with
    | bad => rw [e1] at q; exact q
    | exc x env1 => rw [e1] at q; exact q
    | ok d1 env1 =>
      rw [e1] at q
      intro v H1 N1 n1 R1 S1 r1 V1
      simp only [Rt.bind_ok] at q
      cases d1 <;> simp only [mS12] at q <;> try exact q.elim
      rename_i a
      simp only [Rp] at r1
      obtain ⟨rfl, _⟩ := r1
      refine ⟨⟨a, rfl⟩, env1, N1, R1, ?_⟩
      cases e2 : m2 env1 with
      | bad => rw [e2] at q; exact q
      | exc x env2 => rw [e2] at q; exact XQ.pre S1 q
      | ok d2 env2 =>
        rw [e2] at q
        intro y H2 N2 n2 R2 S2 r2 V2
        simp only [Rt.bind_ok, mS13, fin, Bool.false_and, Bool.false_eq_true, if_false] at q
        cases eg : g a d2 with
        | none => rw [eg] at q; exact q.elim
        | some d =>
          rw [eg] at q
          exact hs H2 a y d2 n2 d Q r2 eg fun v rv => q v H2 N2 [] R2 (S1.trans S2) rv .nil
  · rw [Bool.and_eq_true] at z
    unfold mS1 at k
    cases e1 : m1 env with
    | bad => rw [e1] at k; cases k
    | exc x env1 => rw [e1] at k; cases k
    | ok d1 env1 =>
      rw [e1] at k
      simp only [Rt.bind_ok] at k
      cases d1 <;> simp only [mS12] at k <;> try cases k
      rename_i a
      have q1 := h1.rok z.1 _ _ _ e1
      cases e2 : m2 env1 with
      | bad => rw [e2] at k; cases k
      | exc x env2 => rw [e2] at k; cases k
      | ok d2 env2 =>
        rw [e2] at k
        simp only [Rt.bind_ok, mS13, fin, Bool.false_and, Bool.false_eq_true, if_false] at k
        have q2 := h2.rok z.2 _ _ _ e2
        cases eg : g a d2 with
        | none => rw [eg] at k; cases k
        | some d => rw [eg] at k; cases k; exact q2.trans q1
def gCount (a : Str) : D → Option D
  | .str b => some (.int (Txt.count a b))
  | _ => none
def gStarts (a : Str) : D → Option D
  | .str b => some (.bl (Txt.startswith a b))
  | _ => none
def strsOf : List D → Option (List Str)
  | [] => some []
  | .str a :: r => (strsOf r).map (a :: ·)
  | _ => none
def gJoin (a : Str) : D → Option D
  | .lst xs => match strsOf xs with
    | some ys => if (ys.map (·.length)).sum + ys.length * a.length ≤ 16777216 then some (.str (Txt.join a ys)) else none
    | none => none
  | _ => none
theorem strsOf_eq : ∀ {xs : List D} {ys : List Str}, strsOf xs = some ys → xs = ys.map D.str
  | [], ys, h => by cases h; rfl
  | .str a :: r, ys, h => by
    simp only [strsOf] at h
    cases e : strsOf r with
    | none => rw [e] at h; cases h
    | some zs => rw [e] at h; cases h; rw [strsOf_eq e]; rfl
  | .non :: _, _, h | .bl _ :: _, _, h | .int _ :: _, _, h | .ty _ :: _, _, h | .cls _ :: _, _, h | .tup _ :: _, _, h | .lst _ :: _, _, h | .dct _ _ :: _, _, h | .obj _ _ :: _, _, h | .scr _ :: _, _, h => by simp [strsOf] at h
theorem RpL.strs {G : Gt} {H : Hp} : ∀ {ys : List Str} {vs : List V} {n : List Addr}, RpL G H (ys.map D.str) vs n → vs = ys.map V.str ∧ n = []
  | [], _, _, h => by simp only [List.map_nil, RpL] at h; exact h
  | a :: r, _, _, h => by
    simp only [List.map_cons, RpL, Rp] at h
    obtain ⟨v, vs', n1, n2, rfl, ⟨rfl, rfl⟩, h2, rfl⟩ := h
    obtain ⟨rfl, rfl⟩ := RpL.strs h2
    exact ⟨rfl, rfl⟩
theorem RpL.strsI {G : Gt} {H : Hp} : ∀ {ys : List Str}, RpL G H (ys.map D.str) (ys.map V.str) []
  | [] => by simp [RpL]
  | a :: r => by
    simp only [List.map_cons, RpL]
    exact ⟨.str a, _, [], [], rfl, by simp [Rp], RpL.strsI, rfl⟩
/-- x.count(y) -/
theorem v_count (h1 : PEV X xv μ W o ro1 md1 m1) (h2 : PEV X xv μ W e ro2 md2 m2) (hs : starEach [e] X.env = [(false, eval e X.env)] := by rfl) (hbase : attributeBase o "count" X.env (eval o X.env) = eval o X.env := by rfl) (hline : (apos.endLine == pos.line) = true := by rfl) :
    PEV X xv μ W (.Call (.Attribute o "count" apos) [e] [] pos) (ro1 && ro2) md (mS1 gCount m1 m2) :=
  v_s1 (fun ho he => pe_m1 PySem.F.slot_str_count PySem.F.type_str_count mt_count ho he hs hbase hline) (fun H a y dy n d Q r e q => by
    unfold gCount at e
    split at e <;> cases e
    simp only [Rp] at r
    exact ⟨a, _, rfl, by rw [r.1], q _ (by simp [Rp])⟩) h1 h2
theorem v_starts (h1 : PEV X xv μ W o ro1 md1 m1) (h2 : PEV X xv μ W e ro2 md2 m2) (hs : starEach [e] X.env = [(false, eval e X.env)] := by rfl) (hbase : attributeBase o "startswith" X.env (eval o X.env) = eval o X.env := by rfl) (hline : (apos.endLine == pos.line) = true := by rfl) :
    PEV X xv μ W (.Call (.Attribute o "startswith" apos) [e] [] pos) (ro1 && ro2) md (mS1 gStarts m1 m2) :=
  v_s1 (fun ho he => pe_m1 PySem.F.slot_str_startswith PySem.F.type_str_startswith mt_startswith ho he hs hbase hline) (fun H a y dy n d Q r e q => by
    unfold gStarts at e
    split at e <;> cases e
    simp only [Rp] at r
    exact ⟨a, _, rfl, by rw [r.1], q _ (by simp [Rp])⟩) h1 h2
theorem v_join (h1 : PEV X xv μ W o ro1 md1 m1) (h2 : PEV X xv μ W e ro2 md2 m2) (hs : starEach [e] X.env = [(false, eval e X.env)] := by rfl) (hbase : attributeBase o "join" X.env (eval o X.env) = eval o X.env := by rfl) (hline : (apos.endLine == pos.line) = true := by rfl) :
    PEV X xv μ W (.Call (.Attribute o "join" apos) [e] [] pos) (ro1 && ro2) md (mS1 gJoin m1 m2) :=
  v_s1 (fun ho he => pe_join ho he hs hbase hline) (fun H a y dy n d Q r e q => by
    unfold gJoin at e
    split at e
    · rename_i xs
      split at e
      · rename_i ys es
        split at e
        · cases e
          simp only [Rp] at r
          obtain ⟨p, vs, m, rfl, g1, g2, _⟩ := r
          rw [strsOf_eq es] at g2
          obtain ⟨rfl, _⟩ := g2.strs
          exact ⟨a, p, ys, rfl, rfl, .inl (SqL.of g1), by assumption, q _ (by simp [Rp])⟩
        · cases e
      · cases e
    · cases e) h1 h2
end
end VS
/-! VS: sorted(dict), keys texts. -/
namespace VS
open PySem PySem.Spec PyProof.Rows L2
/-! ### texts in order -/
def leS (a b : Str) : Bool := !ltCps b.cps.toList a.cps.toList
theorem leS_iff {a b : Str} : leS a b = true ↔ a.cps.toList ≤ b.cps.toList := by
  unfold leS
  rw [ltCps_eq, Bool.not_eq_true', decide_eq_false_iff_not]
  exact List.not_lt
theorem str_ext {a b : Str} (h : a.cps.toList = b.cps.toList) : a = b := by
  obtain ⟨⟨x⟩⟩ := a
  obtain ⟨⟨y⟩⟩ := b
  simp at h
  rw [h]
theorem leS_trans {a b c : Str} (h1 : leS a b = true) (h2 : leS b c = true) : leS a c = true := leS_iff.mpr (List.le_trans (leS_iff.mp h1) (leS_iff.mp h2))
theorem leS_anti {a b : Str} (h1 : leS a b = true) (h2 : leS b a = true) : a = b := str_ext (List.le_antisymm (leS_iff.mp h1) (leS_iff.mp h2))
theorem leS_total {a b : Str} : leS a b = true ∨ leS b a = true := by
  rw [leS_iff, leS_iff]
  exact List.le_total _ _
def srtS (l : List Str) : List Str := l.mergeSort leS
theorem srtS_perm {l : List Str} : (srtS l).Perm l := List.mergeSort_perm l leS
theorem srtS_pw {l : List Str} : (srtS l).Pairwise (fun a b => leS a b = true) :=
  List.pairwise_mergeSort (le := leS) (fun a b c => leS_trans) (fun a b => by rw [Bool.or_eq_true]; exact leS_total) l
theorem srt_uniq {α : Type} {le : α → α → Prop} (anti : ∀ a b, le a b → le b a → a = b) : ∀ {l m : List α}, l.Pairwise le → m.Pairwise le → l.Perm m → l = m
  | [], m, _, _, p => (List.Perm.nil_eq p)
  | x :: l, [], _, _, p => absurd p.length_eq (by simp)
  | x :: l, y :: m, hl, hm, p => by
    rw [List.pairwise_cons] at hl hm
    have e : x = y := by
      rcases List.mem_cons.mp (p.mem_iff.mp (by simp : x ∈ x :: l)) with e | h1
      · exact e
      · rcases List.mem_cons.mp (p.mem_iff.mpr (by simp : y ∈ y :: m)) with e | h2
        · exact e.symm
        · exact anti x y (hl.1 y h2) (hm.1 x h1)
    subst e
    rw [srt_uniq anti hl.2 hm.2 p.cons_inv]
theorem rising_pw : ∀ {l : List Str} {p : Str}, risingS p l = true → (∀ x ∈ l, leS p x = true) ∧ l.Pairwise (fun a b => leS a b = true)
  | [], p, _ => ⟨by simp, .nil⟩
  | x :: r, p, h => by
    simp only [risingS, Bool.and_eq_true] at h
    obtain ⟨h1, h2⟩ := rising_pw h.2
    have hp : leS p x = true := h.1
    exact ⟨fun y hy => by
      rcases List.mem_cons.mp hy with rfl | hy
      · exact hp
      · exact leS_trans hp (h1 y hy), List.pairwise_cons.mpr ⟨h1, h2⟩⟩
theorem sortedS_pw {l : List Str} (h : sortedS l = true) : l.Pairwise (fun a b => leS a b = true) := by
  cases l with
  | nil => exact .nil
  | cons x r => exact List.pairwise_cons.mpr (rising_pw h)
theorem srtS_uniq {l ys : List Str} (p : ys.Perm l) (h : ys.Pairwise (fun a b => leS a b = true)) : ys = srtS l :=
  srt_uniq (fun a b => leS_anti) h srtS_pw (p.trans srtS_perm.symm)
def gSortD : List D → Option D
  | [.dct ⟨false, _⟩ kvs] => match strsOf (kvs.map (·.1)) with
    | some ks => if ks.length < 64 then some (.lst ((srtS ks).map D.str)) else none
    | none => none
  | _ => none
theorem kD_strs : ∀ {kk : List Key} {ks : List Str}, kk.map kD = ks.map D.str → kk = ks.map Sum.inr
  | [], [], _ => rfl
  | [], _ :: _, h => by simp at h
  | _ :: _, [], h => by simp at h
  | k :: kk, s :: ks, h => by
    simp only [List.map_cons, List.cons.injEq] at h
    rw [kD_strs h.2]
    cases k <;> simp [kD] at h
    rw [h.1]
    rfl
section
variable {X : Cx} {xv : XV} {μ : List Md} {W : WX} {pos p : Pos} {e : Expr} {ro al dp : Bool} {ms : AM}
def rSortD : List V → Hp → VK → Prop := fun xs H Q => ∃ (a : Addr) (kvs : List (Key × V)) (ks : List Str), xs = [.ref a] ∧ Rd H a (.dK kvs) ∧ kvs.map (·.1) = ks.map Sum.inr ∧ ks.length < 64 ∧
    ∀ ys p, ys.Perm ks → sortedS ys = true → H p = none → Q (.ref p) (upd H p (.lst (ys.map V.str)))
theorem cs_sortD : CallS (gx X xv) rSortD gSortD := fun H vs ds n d Q rl e q => by
  unfold gSortD at e
  split at e
  · rename_i f kvs
    split at e
    · rename_i ks hk
      split at e
      · rename_i h64
        cases e
        obtain ⟨v, rfl, r⟩ := rl.one
        simp only [Rp] at r
        obtain ⟨a, ws, m, rfl, h1, h2, rfl⟩ := r
        rcases h1 with ⟨_, kk, e1, l, nd, h1⟩ | ⟨t0, _⟩
        · rw [strsOf_eq hk] at e1
          have := kD_strs e1
          subst this
          refine ⟨a, _, ks, rfl, h1.rd, ?_, h64, fun ys p hp hs hn => ?_⟩
          · rw [List.map_fst_zip]
            omega
          · have := srtS_uniq hp (sortedS_pw hs)
            subst this
            exact q _ _ [p] (by simp only [Rp]; exact ⟨p, _, [], rfl, upd_same, RpL.strsI, rfl⟩) (ext_upd hn) (fun x hx => by rw [List.mem_singleton] at hx; rw [hx]; exact .inr hn) fun x o => by
              have hx := o.mem
              rw [List.mem_singleton] at hx
              subst hx
              exact ⟨by simp, hn⟩
        · cases t0
      · cases e
    · cases e
  · cases e
/-- sorted(d), a dict whose keys are texts -/
theorem v_sortD (hcalm : X.calm = true) (hg : Gl X "sorted") (hm : X.mg "sorted" = none) (h : PLV X xv μ W [e] ro al dp ms) (chk : Bool) (hc : al = true → chk = true)
    (he : starEach [e] X.env = (false, eval e X.env) :: starEach [] X.env := by rfl) (hpl : (backTo pos (starEach [] X.env)).any (·.1) = false := by rfl) :
    PEV X xv μ W (.Call (.Name "sorted" p) [e] [] pos) ro .r (mArg chk gSortD ms) :=
  v_callB (call_sortedD hcalm) cs_sortD hg hm (by decide +kernel) h chk hc (by decide) (by decide) he hpl
end
end VS
/-! VS: sorted(xs), xs pairs of unlike texts and ints or texts. -/
namespace VS
open PySem PySem.Spec PyProof.Rows L2
def ltT (a b : Str) : Bool := decide (a.cps.toList < b.cps.toList)
theorem ltT_leS {a b : Str} : ltT b a = false ↔ leS a b = true := by
  rw [leS_iff]
  unfold ltT
  rw [decide_eq_false_iff_not]
  exact List.not_lt
theorem swoT {α : Type} (k : α → Str) : SrtO.Swo fun x y => ltT (k x) (k y) := by
  refine ⟨fun x y h => ?_, fun x y z h1 h2 => ?_⟩
  · have : ltT (k y) (k x) = false := by
      unfold ltT at h ⊢
      rw [decide_eq_true_eq] at h
      rw [decide_eq_false_iff_not]
      exact List.lt_asymm h
    exact this
  · exact ltT_leS.mpr (leS_trans (ltT_leS.mp h1) (ltT_leS.mp h2))
section
variable {prog : Program} {w : World} {A : Around} {s : Shared}
/-- v is a tuple of the text x and an int or a text -/
def IsSP (h : Heap) (v : Value) (x : Str) : Prop := ∃ a o t y n, v = .ref a ∧ h.get? a = some o ∧ o.cls = .type "tuple" ∧ o.data = .seq #[.str x t, y] n ∧ ((∃ i u, y = .int i u) ∨ ∃ z u, y = .str z u)
theorem IsSP.keeps {h h' : Heap} {v : Value} {x : Str} (p : IsSP h v x) (k : ∀ b o, h.get? b = some o → o.cls = .type "tuple" → h'.get? b = some o) : IsSP h' v x := by
  obtain ⟨a, o, t, y, n, e, ho, hc, r⟩ := p
  exact ⟨a, o, t, y, n, e, k _ _ ho hc, hc, r⟩
theorem sp_cmp {vs : List Value} {k : Value → Str} (hp : ∀ v ∈ vs, IsSP s.heap v (k v)) (inj : ∀ v ∈ vs, ∀ u ∈ vs, k v = k u → v = u) : SrtO.Cmp prog w A s (tuples' true) (fun p => p.1 ∈ vs) (SrtO.lt2 fun v u => ltT (k v) (k u)) := by
  intro p q hm hm'
  show wpAny (model prog w) A (keyLt' (tuples' true) p.1 q.1) (fun r s' => s' = s ∧ r = ltT (k p.1) (k q.1)) (fun _ _ => False) s
  have h1 := hp _ hm
  have h2 := hp _ hm'
  by_cases e0 : k p.1 = k q.1
  · have e1 := inj _ hm _ hm' e0
    rw [← e1]
    generalize k p.1 = x at h1 ⊢
    obtain ⟨a, o, t, y, n, e, ho, hc, hd, hy⟩ := h1
    have fin : ltT x x = false := ltT_leS.mpr (by rcases leS_total (a := x) (b := x) with h | h <;> exact h)
    rw [e, fin]
    refine PySem.W.kat_lt ho hd ho hd ?_
    show PySem.W.KatLex prog w A true (decide (2 < 2)) _ [(.str x t, .str x t), (y, y)] 0 s
    refine PySem.W.kat_cons (SeqAt.EqAt.str_str x t x t prog w _ _ ?_)
    refine PySem.W.kat_go (fun _ => ?_) (fun e2 => by simp at e2)
    refine PySem.W.kat_yes ?_
    have last : PySem.W.KatLex prog w A true (decide (2 < 2)) (fun r s' => s' = s ∧ r = false) [] 2 s := PySem.W.kat_nil ⟨rfl, by decide⟩
    rcases hy with ⟨i, u, rfl⟩ | ⟨z, u, rfl⟩
    · refine PySem.W.kat_cons (SeqAt.EqAt.int_int i u i u prog w _ _ ?_)
      exact PySem.W.kat_go (fun _ => PySem.W.kat_yes last) (fun e2 => by simp at e2)
    · refine PySem.W.kat_cons (SeqAt.EqAt.str_str z u z u prog w _ _ ?_)
      exact PySem.W.kat_go (fun _ => PySem.W.kat_yes last) (fun e2 => by simp at e2)
  · generalize k p.1 = x at h1 e0 ⊢
    generalize k q.1 = x' at h2 e0 ⊢
    obtain ⟨a, o, t, y, n, e, ho, hc, hd, hy⟩ := h1
    obtain ⟨a', o', t', y', n', e', ho', hc', hd', hy'⟩ := h2
    rw [e, e']
    refine PySem.W.kat_lt ho hd ho' hd' ?_
    show PySem.W.KatLex prog w A true (decide (2 < 2)) _ [(.str x t, .str x' t'), (y, y')] 0 s
    refine PySem.W.kat_cons (SeqAt.EqAt.str_str x t x' t' prog w _ _ ?_)
    refine PySem.W.kat_go (fun e2 => absurd (by simpa using e2) e0) (fun _ => ?_)
    exact PySem.W.kat_no (oneLt_str ⟨rfl, rfl⟩)
theorem firsts_sp {h : Heap} : ∀ {vs : List Value}, (∀ v ∈ vs, ∃ x, IsSP h v x) → ∃ fs : List Value, PySem.W.KatTups h vs fs ∧ fs.length = vs.length ∧ ∀ f ∈ fs, ∃ x t, f = Value.str x t
  | [], _ => ⟨[], PySem.W.KatTups.nil, rfl, fun _ hm => by simp at hm⟩
  | v :: vs, hp => by
    obtain ⟨fs, h1, h2, h3⟩ := firsts_sp (vs := vs) fun v' hm => hp v' (List.mem_cons_of_mem _ hm)
    obtain ⟨x, a, o, t, y, n, e, ho, hc, hd, _⟩ := hp v List.mem_cons_self
    subst e
    refine ⟨.str x t :: fs, PySem.W.KatTups.cons ho hc hd rfl h1, by rw [List.length_cons, List.length_cons, h2], fun f hm => ?_⟩
    rcases List.mem_cons.mp hm with rfl | hm
    · exact ⟨x, t, rfl⟩
    · exact h3 f hm
theorem sp_sortable {a : Addr} {vs : List Value} {k : Value → Str} (h0 : 0 < vs.length) (hp : ∀ v ∈ vs, IsSP s.heap v (k v)) (inj : ∀ v ∈ vs, ∀ u ∈ vs, k v = k u → v = u) (ha : ∀ o, s.heap.get? a = some o → o.cls ≠ .type "tuple") : SrtO.SortableO prog w A s a vs fun v u => ltT (k v) (k u) := by
  intro h' keep
  have hp' : ∀ v ∈ vs, IsSP h' v (k v) := fun v hm => (hp v hm).keeps fun b o e c => keep b o (fun z => by subst z; exact ha o e c) e
  obtain ⟨fs, h1, h2, h3⟩ := firsts_sp fun v hm => ⟨_, hp' v hm⟩
  refine ⟨tuples' true, fun Q E hq => ?_, sp_cmp hp' inj⟩
  refine PySem.W.kat_kind (T := .type "str") h1 (by omega) (fun f hm => ?_) (by rfl) ?_
  · obtain ⟨x, t, rfl⟩ := h3 f hm
    exact PySem.W.Looks.now
  · have e : (Value.type "str" != Value.type "tuple") = true := by first | decide +kernel | rfl | decide
    rw [e]
    exact hq
end
section
variable {X : Cx}
/-- sorted(xs), xs pairs of a text (k says which) and an int or a text -/
def rSortSP (K : PySem.W.Frag) : List V → Hp → VK → Prop := fun vs H Q => ∃ (a : Addr) (xs : List V) (k : V → Str), vs = [V.ref a] ∧ SqL K H a xs ∧ (∀ x ∈ xs, ∃ t y, x = V.ref t ∧ H t = some (.tup [.str (k x), y]) ∧ ((∃ i, y = .int i) ∨ ∃ z, y = .str z)) ∧
  (∀ x ∈ xs, ∀ y ∈ xs, k x = k y → x = y) ∧ ∀ ys p, ys.Perm xs → ys.Pairwise (fun x y => leS (k x) (k y) = true) → H p = none → Q (.ref p) (upd H p (.lst ys))
theorem cr_sortSP : CallR X (.builtin "sorted") (rSortSP X.K) := by
  intro pins s σ H vs us Q I r h
  obtain ⟨a, xs, k, rfl, hs, hx, inj, q⟩ := h
  obtain ⟨its, rv, hl, hz⟩ := I.list hs
  obtain ⟨u, rfl, ru⟩ := vals1 r
  obtain rfl : u = Value.ref a := ru
  obtain ⟨e1, e2⟩ := refs_back rv fun x m => by
    obtain ⟨t, y, e, _⟩ := hx x m
    exact ⟨t, e⟩
  have hp : ∀ v ∈ its, IsSP s.heap v (k (backV v)) := fun v hv => by
    obtain ⟨t, rfl⟩ := e2 v hv
    have hm : V.ref t ∈ xs := by rw [e1]; exact List.mem_map.mpr ⟨_, hv, rfl⟩
    obtain ⟨t', y, e, ht, hy⟩ := hx _ hm
    cases e
    obtain ⟨_, its2, r2, o, ho, hc, n, hd⟩ := I.hok _ _ ht
    obtain ⟨u1, u2, rfl, ri, rj⟩ := vals2 r2
    obtain ⟨t1, rfl⟩ := ri
    refine ⟨t, o, t1, u2, n, rfl, ho, hc, hd, ?_⟩
    rcases hy with ⟨i, rfl⟩ | ⟨z, rfl⟩
    · obtain ⟨t2, rfl⟩ := rj; exact .inl ⟨i, t2, rfl⟩
    · obtain ⟨t2, rfl⟩ := rj; exact .inr ⟨z, t2, rfl⟩
  have inj' : ∀ v ∈ its, ∀ u ∈ its, k (backV v) = k (backV u) → v = u := fun v hv u hu e => by
    obtain ⟨t, rfl⟩ := e2 v hv
    obtain ⟨t', rfl⟩ := e2 u hu
    have := inj _ (by rw [e1]; exact List.mem_map.mpr ⟨_, hv, rfl⟩) _ (by rw [e1]; exact List.mem_map.mpr ⟨_, hu, rfl⟩) e
    cases this
    rfl
  refine SrtO.sorted_ord (swoT fun v => k (backV v)) hl.isList (by rw [← rv.length]; exact hz) (fun h2 h₁ a ha kk => ?_) fun out hs2 hb => ?_
  · refine sp_sortable (s := { s with heap := h₁ }) (by omega) (fun v hm => (hp v hm).keeps fun b o e _ => (kk b o e).2) inj' fun o e => ?_
    have e' : some o = some (seqObj "list" its.toArray 0) := e.symm.trans ha
    cases e'
    intro c
    exact absurd (Value.type.inj c) (by decide)
  · have h3 : ∀ u ∈ out, ∃ a, u = Value.ref a := fun u hu => e2 u (hb.perm.mem_iff.mp hu)
    have hlen := hb.perm.length_eq
    obtain ⟨n, hn⟩ := sortedAll_at s.heap its out.toArray
    refine ⟨.ref (s.heap.objs.size + 1), upd H (s.heap.objs.size + 1) (.lst (out.map backV)), I.laid (t' := s.toks) (fun b o e => sortedAll_old e) (Nat.le_succ _) ⟨?_, out, n, vals_back h3, hn⟩, rfl, q _ _ ?_ ?_ (I.hok.fresh (Nat.le_succ _))⟩
    · rw [List.length_map, hlen, ← rv.length]; exact hz
    · rw [e1]; exact hb.perm.map backV
    · exact List.pairwise_map.mpr (hs2.imp fun {x y} h => ltT_leS.mp h)
end
/-! ### by trees -/
def keyS : D → Str
  | .tup (.str a :: _) => a
  | _ => ⟨#[]⟩
def isSP : D → Bool
  | .tup [.str _, .int _] | .tup [.str _, .str _] => true
  | _ => false
def srtSP (xs : List D) : List D := xs.mergeSort fun a b => leS (keyS a) (keyS b)
def nodupS : List Str → Bool
  | [] => true
  | x :: r => !r.contains x && nodupS r
theorem nodupS_iff : ∀ {l : List Str}, nodupS l = true ↔ l.Nodup
  | [] => by simp [nodupS]
  | x :: r => by simp [nodupS, nodupS_iff (l := r)]
def gSortSP : List D → Option D
  | [.lst xs] => if (xs.all isSP && nodupS (xs.map keyS)) = true then some (.lst (srtSP xs)) else none
  | _ => none
theorem RpL.permS {G : Gt} {H : Hp} : ∀ {vs ys : List V}, ys.Perm vs → ∀ {xs : List D}, RpL G H xs vs [] → ∃ xs', xs'.Perm xs ∧ RpL G H xs' ys [] := by
  intro vs ys p
  induction p with
  | nil => exact fun {xs} h => ⟨xs, .refl _, h⟩
  | cons x p ih =>
    intro xs h
    cases xs with
    | nil => simp [RpL] at h
    | cons d r =>
      simp only [RpL] at h
      obtain ⟨v, vs', n1, n2, e, h1, h2, e3⟩ := h
      cases e
      obtain ⟨rfl, rfl⟩ := List.append_eq_nil_iff.mp e3.symm
      obtain ⟨xs', p', r'⟩ := ih h2
      exact ⟨d :: xs', p'.cons d, by simp only [RpL]; exact ⟨x, _, [], [], rfl, h1, r', rfl⟩⟩
  | swap x y l =>
    intro xs h
    cases xs with
    | nil => simp [RpL] at h
    | cons d r =>
      cases r with
      | nil =>
        simp only [RpL] at h
        obtain ⟨v, vs', n1, n2, e, h1, ⟨h2, _⟩, e3⟩ := h
        cases e
        cases h2
      | cons d2 r =>
        simp only [RpL] at h
        obtain ⟨v, vs', n1, n2, e, h1, ⟨v2, vs2, n3, n4, e2, h2, h3, e4⟩, e3⟩ := h
        cases e
        cases e2
        obtain ⟨rfl, rfl⟩ := List.append_eq_nil_iff.mp e3.symm
        obtain ⟨rfl, rfl⟩ := List.append_eq_nil_iff.mp e4.symm
        exact ⟨d2 :: d :: r, .swap _ _ _, by simp only [RpL]; exact ⟨_, _, [], [], rfl, h2, ⟨_, _, [], [], rfl, h1, h3, rfl⟩, rfl⟩⟩
  | trans p1 p2 ih1 ih2 =>
    intro xs h
    obtain ⟨xs1, q1, r1⟩ := ih2 h
    obtain ⟨xs2, q2, r2⟩ := ih1 r1
    exact ⟨xs2, q2.trans q1, r2⟩
theorem RpL.pw {G : Gt} {H : Hp} {k : V → Str} {kd : D → Str} (hk : ∀ d v n, Rp G H d v n → isSP d = true → k v = kd d) : ∀ {xs : List D} {vs : List V} {n : List Addr}, RpL G H xs vs n → xs.all isSP = true → vs.Pairwise (fun x y => leS (k x) (k y) = true) → xs.Pairwise (fun x y => leS (kd x) (kd y) = true)
  | [], _, _, _, _, _ => .nil
  | d :: r, vs, n, h, ha, hp => by
    simp only [RpL] at h
    obtain ⟨v, vs', n1, n2, rfl, h1, h2, rfl⟩ := h
    rw [List.all_cons, Bool.and_eq_true] at ha
    rw [List.pairwise_cons] at hp
    refine List.pairwise_cons.mpr ⟨fun y hy => ?_, RpL.pw hk h2 ha.2 hp.2⟩
    obtain ⟨j, hj⟩ := List.mem_iff_getElem?.mp hy
    obtain ⟨u, m, e1, r1, _⟩ := h2.get hj
    have := hp.1 u (List.mem_of_getElem? e1)
    rw [hk _ _ _ h1 ha.1, hk _ _ _ r1 (List.all_eq_true.mp ha.2 y hy)] at this
    exact this
theorem pure_sp {d : D} (h : isSP d = true) : d.pure = true := by
  unfold isSP at h
  split at h <;> first | rfl | cases h
section
variable {X : Cx} {xv : XV} {μ : List Md} {W : WX} {pos p : Pos} {e : Expr} {ro al dp : Bool} {ms : AM}
theorem cs_sortSP : CallS (gx X xv) (rSortSP X.K) gSortSP := fun H vs ds n d Q rl e q => by
  unfold gSortSP at e
  split at e
  · rename_i xs
    split at e
    · rename_i hc
      cases e
      rw [Bool.and_eq_true, nodupS_iff] at hc
      obtain ⟨v, rfl, r⟩ := rl.one
      simp only [Rp] at r
      obtain ⟨a, vs, m, rfl, h1, h2, rfl⟩ := r
      have hpu : pureL xs = true := pureL_iff.mpr fun d hd => pure_sp (List.all_eq_true.mp hc.1 d hd)
      obtain rfl := h2.pure hpu
      -- the key of a value
      obtain ⟨k, hk⟩ : ∃ k : V → Str, ∀ d v n, Rp (gx X xv) H d v n → isSP d = true → k v = keyS d := by
        refine ⟨fun v => match v with
          | .ref b => (match H b with
            | some (.tup (.str z :: _)) => z
            | _ => ⟨#[]⟩)
          | _ => ⟨#[]⟩, fun d v n r hd => ?_⟩
        unfold isSP at hd
        split at hd
        · simp only [Rp, RpL] at r
          obtain ⟨b, us, rfl, hb, v1, us1, n1, n2, rfl, ⟨rfl, _⟩, _⟩ := r
          simp only [hb, keyS]
        · simp only [Rp, RpL] at r
          obtain ⟨b, us, rfl, hb, v1, us1, n1, n2, rfl, ⟨rfl, _⟩, _⟩ := r
          simp only [hb, keyS]
        · cases hd
      refine ⟨a, vs, k, rfl, SqL.of h1, fun x hx => ?_, fun x hx y hy e => ?_, fun ys p hp hs hn => ?_⟩
      · obtain ⟨j, hj⟩ := List.mem_iff_getElem?.mp hx
        have hj2 : j < xs.length := by rw [h2.len]; exact (List.getElem?_eq_some_iff.mp hj).1
        obtain ⟨u, m, e1, r1, _⟩ := h2.get (List.getElem?_eq_getElem hj2)
        rw [hj] at e1
        cases e1
        have hd := List.all_eq_true.mp hc.1 _ (List.getElem_mem hj2)
        rw [hk _ _ _ r1 hd]
        unfold isSP at hd
        split at hd
        · rename_i s i ed
          rw [ed] at r1 ⊢
          simp only [Rp, RpL] at r1
          obtain ⟨b, us, rfl, hb, v1, us1, n1, n2, rfl, ⟨rfl, _⟩, ⟨v2, us2, n3, n4, rfl, ⟨rfl, _⟩, ⟨rfl, _⟩, _⟩, _⟩ := r1
          exact ⟨b, _, rfl, hb, .inl ⟨i, rfl⟩⟩
        · rename_i s z ed
          rw [ed] at r1 ⊢
          simp only [Rp, RpL] at r1
          obtain ⟨b, us, rfl, hb, v1, us1, n1, n2, rfl, ⟨rfl, _⟩, ⟨v2, us2, n3, n4, rfl, ⟨rfl, _⟩, ⟨rfl, _⟩, _⟩, _⟩ := r1
          exact ⟨b, _, rfl, hb, .inr ⟨z, rfl⟩⟩
        · cases hd
      · obtain ⟨j, hj⟩ := List.mem_iff_getElem?.mp hx
        obtain ⟨i, hi⟩ := List.mem_iff_getElem?.mp hy
        have hj2 : j < xs.length := by rw [h2.len]; exact (List.getElem?_eq_some_iff.mp hj).1
        have hi2 : i < xs.length := by rw [h2.len]; exact (List.getElem?_eq_some_iff.mp hi).1
        obtain ⟨u, m, e1, r1, _⟩ := h2.get (List.getElem?_eq_getElem hj2)
        obtain ⟨u', m', e1', r1', _⟩ := h2.get (List.getElem?_eq_getElem hi2)
        rw [hj] at e1
        rw [hi] at e1'
        cases e1
        cases e1'
        rw [hk _ _ _ r1 (List.all_eq_true.mp hc.1 _ (List.getElem_mem hj2)), hk _ _ _ r1' (List.all_eq_true.mp hc.1 _ (List.getElem_mem hi2))] at e
        have hji : j = i := by
          refine (List.getElem_inj (h₀ := by simpa using hj2) (h₁ := by simpa using hi2) hc.2).mp ?_
          simpa using e
        subst hji
        rw [hj] at hi
        cases hi
        rfl
      · obtain ⟨xs', p', r'⟩ := RpL.permS hp h2
        have ha' : xs'.all isSP = true := List.all_eq_true.mpr fun d hd => List.all_eq_true.mp hc.1 d (p'.mem_iff.mp hd)
        have pw := r'.pw hk ha' hs
        have key : xs' = srtSP xs := by
          have np : (xs.map keyS).Nodup := hc.2
          refine srt_uniq (le := fun a b => (a ∈ xs ∧ b ∈ xs) ∧ leS (keyS a) (keyS b) = true) (fun a b h1 h2 => ?_) ?_ ?_ (p'.trans (List.mergeSort_perm xs _).symm)
          · obtain ⟨j, hj, ej⟩ := List.mem_iff_getElem.mp h1.1.1
            obtain ⟨i, hi, ei⟩ := List.mem_iff_getElem.mp h1.1.2
            have e := leS_anti h1.2 h2.2
            have hji : j = i := by
              refine (List.getElem_inj (h₀ := by simpa using hj) (h₁ := by simpa using hi) np).mp ?_
              simpa [ej, ei] using e
            subst hji
            rw [← ej, ← ei]
          · exact List.Pairwise.imp_of_mem (fun {a b} ha hb h => ⟨⟨p'.mem_iff.mp ha, p'.mem_iff.mp hb⟩, h⟩) pw
          · refine List.Pairwise.imp_of_mem (fun {a b} ha hb h => ⟨⟨(List.mergeSort_perm xs _).mem_iff.mp ha, (List.mergeSort_perm xs _).mem_iff.mp hb⟩, h⟩) (List.pairwise_mergeSort (le := fun a b => leS (keyS a) (keyS b)) (fun a b c => leS_trans) (fun a b => by rw [Bool.or_eq_true]; exact leS_total) xs)
        subst key
        have k2 := ext_upd (o := .lst ys) hn
        exact q _ _ [p] (by simp only [Rp]; exact ⟨p, ys, [], rfl, upd_same, r'.ext k2, rfl⟩) k2 (fun x hx => by rw [List.mem_singleton] at hx; rw [hx]; exact .inr hn) fun x o => by
          have hx := o.mem
          rw [List.mem_singleton] at hx
          subst hx
          exact ⟨by simp, hn⟩
    · cases e
  · cases e
/-- sorted(xs), pairs of unlike texts and ints or texts -/
theorem v_sortSP (hg : Gl X "sorted") (hm : X.mg "sorted" = none) (h : PLV X xv μ W [e] ro al dp ms) (chk : Bool) (hc : al = true → chk = true)
    (he : starEach [e] X.env = (false, eval e X.env) :: starEach [] X.env := by rfl) (hpl : (backTo pos (starEach [] X.env)).any (·.1) = false := by rfl) :
    PEV X xv μ W (.Call (.Name "sorted" p) [e] [] pos) ro .r (mArg chk gSortSP ms) :=
  v_callB cr_sortSP cs_sortSP hg hm (by decide +kernel) h chk hc (by decide) (by decide) he hpl
end
end VS
/-! VS: targets that are tuples. -/
namespace VS
open PySem PySem.Spec PyProof.Rows L2
structure TGsV (X : Cx) (xv : XV) (μ : List Md) (tgs : List Expr) (sl : List Nat) (gs : TGs) (f : List D → En → Option En) : Prop where
  pgs : PGs X tgs gs
  law : ∀ (σ : L2.St) (H : Hp) (env env' : En) (N : Nat → List Addr) (ds : List D) (vs : List V) (n : List Addr) (Q : L2.St → Hp → Prop), Rep (gx X xv) μ env σ H N → RpL (gx X xv) H ds vs n → (∀ a ∈ n, ¬ ownS μ env N a) → f ds env = some env' →
    (∀ σ' N', Rep (gx X xv) μ env' σ' H N' → (∀ a, ownS μ env' N' a → ownS μ env N a) → (∀ a, wrS μ env' N' a → wrS μ env N a) → (∀ a, allS N' a → allS N a ∨ a ∈ n) → (∀ i, (mdAt μ i).lock = true → env'[i]? = env[i]? ∧ N' i = N i) → Fx μ σ σ' → Sl sl σ σ' N N' → Q σ' H) → gs vs σ H Q
def gNilT (ds : List D) (e : En) : Option En := match ds with
  | [] => some e
  | _ => none
def gConsT (f : D → En → Option En) (fs : List D → En → Option En) (ds : List D) (e : En) : Option En := match ds with
  | [] => none
  | d :: r => (f d e).bind (fs r)
def gTupT (fs : List D → En → Option En) (n : Nat) (d : D) (e : En) : Option En := match d with
  | .tup ds => if ds.length = n then fs ds e else none
  | _ => none
section
variable {X : Cx} {xv : XV} {μ : List Md} {pos : Pos} {e : Expr} {es : List Expr} {sl sls : List Nat} {g : TG} {gs : TGs} {f : D → En → Option En} {fs : List D → En → Option En}
theorem gs_nil : TGsV X xv μ [] [] L2.gNil gNilT := ⟨pgs_nil, fun σ H env env' N ds vs n Q R r hn e q => by
  cases ds with
  | nil =>
    cases e
    simp only [RpL] at r
    obtain ⟨rfl, rfl⟩ := r
    exact ⟨rfl, q σ N R (fun _ h => h) (fun _ h => h) (fun _ h => .inl h) (fun _ _ => ⟨rfl, rfl⟩) .refl ⟨rfl, fun _ _ => ⟨rfl, rfl⟩⟩⟩
  | cons d r => cases e⟩
theorem gs_cons (h1 : TGV X xv μ e sl g f) (h2 : TGsV X xv μ es sls gs fs) (hs : (assignEach (e :: es) X.env).map (·.2) = assign e X.env :: (assignEach es X.env).map (·.2) := by rfl) :
    TGsV X xv μ (e :: es) (sl ++ sls) (L2.gCons g gs) (gConsT f fs) := ⟨pgs_cons h1.pg h2.pgs hs, fun σ H env env' N ds vs n Q R r hn e q => by
  cases ds with
  | nil => cases e
  | cons d dr =>
    simp only [gConsT] at e
    cases e1 : f d env with
    | none => rw [e1] at e; cases e
    | some env1 =>
      rw [e1] at e
      simp only [Option.bind_some] at e
      simp only [RpL] at r
      obtain ⟨v, vs', n1, n2, rfl, r1, r2, rfl⟩ := r
      refine ⟨v, vs', rfl, h1.law σ H env env1 N d v n1 _ R r1 (fun a ha => hn a (by simp [ha])) e1 fun σ1 N1 R1 ow1 wr1 al1 lk1 F1 S1 => ?_⟩
      refine h2.law σ1 H env1 env' N1 dr vs' n2 _ R1 r2 (fun a ha w => hn a (by simp [ha]) (ow1 a w)) e fun σ2 N2 R2 ow2 wr2 al2 lk2 F2 S2 => ?_
      refine q σ2 N2 R2 (fun a h => ow1 a (ow2 a h)) (fun a h => wr1 a (wr2 a h)) (fun a h => ?_) (fun i h => ⟨(lk2 i h).1.trans (lk1 i h).1, (lk2 i h).2.trans (lk1 i h).2⟩) (F1.trans F2) ⟨S2.1.trans S1.1, fun j hj => ?_⟩
      · rcases al2 a h with z | z
        · exact (al1 a z).imp id fun z => by simp [z]
        · exact .inr (by simp [z])
      · simp only [List.mem_append, not_or] at hj
        exact ⟨(S2.2 j hj.2).1.trans (S1.2 j hj.1).1, (S2.2 j hj.2).2.trans (S1.2 j hj.1).2⟩⟩
theorem g_tup {k : Nat} (n : Nat) (hc : X.calm = true) (h : TGsV X xv μ es sls gs fs) (hn : (assignEach es X.env).length = n := by rfl) (hst : (assignEach es X.env).findIdx? (·.1) = none := by rfl) :
    TGV X xv μ (.Tuple es k pos) sls (L2.gTup X.K n gs) (gTupT fs n) := ⟨pg_tup hc h.pgs hn hst, fun σ H env env' N d v m Q R r hm e q => by
  unfold gTupT at e
  split at e
  · split at e
    · rename_i ds hl
      simp only [Rp] at r
      obtain ⟨a, vs, rfl, h1, h2⟩ := r
      exact ⟨a, vs, rfl, SqT.of h1, by rw [← h2.len]; exact hl, h.law σ H env env' N ds vs m Q R h2 hm e q⟩
    · cases e
  · cases e⟩
/-- a, b = e -/
def sTgt2 (f : D → En → Option En) (d : D) (e : En) : Sr := match f d e with
  | some e => .nx e
  | none => .bad
def sTgt (f : D → En → Option En) (m : EM) : SM := fun env => (m env).st (sTgt2 f)
variable {W : WX} {rmd md : Md} {tg : Expr} {ro : Bool} {m : EM}
theorem s_tgt (hg : TGV X xv μ tg sl g f) (h : PEV X xv μ W e ro md m) (hm : md ≠ .al := by decide) (hs : swapsWithSole [tg] e pos.line X.env = pure false := by rfl) (hw : swappedStores [tg] e X.env = pure none := by rfl)
    (h1 : (assignEach [tg] X.env).map (·.2) = [assign tg X.env] := by rfl) : PSV X xv μ W rmd (.Assign [tg] e pos) (sTgt f m) := by
  refine ⟨PS.imp (ps_asg h.pe hg.pg hs hw h1) fun E σ H q => ?_⟩
  obtain ⟨env, N, R0, q⟩ := q
  refine ⟨env, N, R0, ?_⟩
  unfold sTgt at q
  cases e1 : m env with
  | bad => rw [e1] at q; exact q
  | exc x env1 => rw [e1] at q; exact SXQ.toX q
  | ok d env1 =>
    rw [e1] at q
    simp only [Rt.st_ok, sTgt2] at q
    intro v H1 N1 n R1 S1 r V
    cases ef : f d env1 with
    | none => rw [ef] at q; exact q.elim
    | some env2 =>
      rw [ef] at q
      refine hg.law σ H1 env1 env2 N1 d v n _ R1 r (V.nown hm) ef fun σ2 N2 R2 ow wr al lk F S => ?_
      refine q σ2 H1 N2 R2 ?_ F
      exact {
        keep := S1.keep
        dom := S1.dom
        own := fun a h => S1.own a (ow a h)
        wr := fun a h => S1.wr a (wr a h)
        all := fun a h => (al a h).elim (S1.all a) (V.sub a)
        lock := fun j hj => ⟨(lk j hj).1.trans (S1.lock j hj).1, (lk j hj).2.trans (S1.lock j hj).2⟩
        ro := fun z => by cases z }
end
end VS
/-! VS: a dict is locked while it is walked. -/
namespace VS
open PySem PySem.Spec PyProof.Rows L2
/-! ### locks of any slot -/
def Md.lkA : Md → Md
  | .s => .ls
  | m => m.lk
def lockA (μ : List Md) (i : Nat) : List Md := μ.set i (mdAt μ i).lkA
theorem own_lkA {m : Md} {d : D} {n : List Addr} {a : Addr} : Own m.lkA d n a ↔ Own m d n a := by
  cases m <;> simp [Md.lkA, Md.lk, Own, Md.isR, Md.isD]
theorem mdAt_lockA {μ : List Md} {i : Nat} (j : Nat) (hi : i < μ.length) : mdAt (lockA μ i) j = if j = i then (mdAt μ i).lkA else mdAt μ j := by
  unfold lockA mdAt
  by_cases h : j = i
  · subst h
    rw [if_pos rfl]
    simp [hi]
  · rw [if_neg h]
    simp [List.getElem?_set, Ne.symm h]
theorem own_lockA {μ : List Md} {i j : Nat} (hi : i < μ.length) {d : D} {n : List Addr} {a : Addr} : Own (mdAt (lockA μ i) j) d n a ↔ Own (mdAt μ j) d n a := by
  rw [mdAt_lockA j hi]
  split
  · rename_i h; subst h; exact own_lkA
  · rfl
theorem lockA_of {μ : List Md} {i j : Nat} (hi : i < μ.length) (h : (mdAt μ j).lock = true) : (mdAt (lockA μ i) j).lock = true := by
  rw [mdAt_lockA j hi]
  split
  · rename_i e; subst e; cases z : mdAt μ j <;> simp [z, Md.lock] at h <;> rfl
  · exact h
theorem fixA_of {μ : List Md} {i j : Nat} (hi : i < μ.length) (h : (mdAt μ j).fix = true) : (mdAt (lockA μ i) j).fix = true := by
  rw [mdAt_lockA j hi]
  split
  · rename_i e; subst e; cases z : mdAt μ j <;> simp [z, Md.fix] at h <;> rfl
  · exact h
theorem lockA_self {μ : List Md} {i : Nat} (hi : i < μ.length) (h : mdAt μ i ≠ .al) : (mdAt (lockA μ i) i).lock = true ∧ (mdAt (lockA μ i) i).fix = true := by
  rw [mdAt_lockA i hi, if_pos rfl]
  cases z : mdAt μ i <;> first | exact absurd z h | exact ⟨rfl, rfl⟩
/-! ### the dict of a slot -/
def frzO : D → Option D
  | .dct ⟨t, false⟩ kvs => if pureL (kvs.map (·.2)) = true then some (.dct ⟨t, true⟩ kvs) else none
  | _ => none
def frzFs (f : Str) : List (Str × D) → Option (List (Str × D))
  | [] => none
  | (g, d) :: r => if g = f then (if pureF r = true then (frzO d).map (fun d' => (g, d') :: r) else none) else if d.pure = true then (frzFs f r).map ((g, d) :: ·) else none
def frzD (p : Option Str) (d : D) : Option D := match p, d with
  | none, d => frzO d
  | some f, .obj c fs => (frzFs f fs).map (.obj c ·)
  | _, _ => none
def IsDO (u : HO) : Prop := (∃ k, u = .dK k) ∨ ∃ k, u = .dT k
theorem IsDO.mut {u : HO} (h : IsDO u) : MutO (some u) ∧ Mut (some u) ∧ ∀ od, MutO (some (.frz od u)) := by
  rcases h with ⟨k, rfl⟩ | ⟨k, rfl⟩ <;> exact ⟨trivial, trivial, fun _ => trivial⟩
section
variable {G : Gt} {H : Hp}
theorem frzO_rp {d d' : D} {v : V} {n : List Addr} (e : frzO d = some d') (r : Rp G H d v n) : ∃ a u, n = [a] ∧ H a = some u ∧ IsDO u ∧ d.isMut = true ∧ d'.isMut = true ∧
    ∀ (H' : Hp) od, (∀ b o, H b = some o → b ≠ a → H' b = some o) → H' a = some (.frz od u) → Rp G H' d' v [a] := by
  unfold frzO at e
  split at e
  · rename_i t kvs
    split at e
    · rename_i hp
      cases e
      simp only [Rp] at r
      obtain ⟨a, ws, m, rfl, h1, h2, rfl⟩ := r
      have hm := h2.pure hp
      subst hm
      have fin : ∀ (H' : Hp), (∀ b o, H b = some o → b ≠ a → H' b = some o) → RpP G H' kvs ws [] := fun H' k => h2.keep (W := (· = a)) (fun b o e w => k b o e w) (fun b e => by rw [e]; exact h1.mut) (by simp)
      rcases h1 with ⟨t0, kk, e, l, nd, h1⟩ | ⟨t0, kk, e, l, nd, h1⟩
      · refine ⟨a, _, rfl, h1.un rfl, .inl ⟨_, rfl⟩, rfl, rfl, fun H' od k ha => ?_⟩
        simp only [Rp]
        exact ⟨a, ws, [], rfl, .inl ⟨t0, kk, e, l, nd, .inr ⟨rfl, od, ha⟩⟩, fin H' k, rfl⟩
      · refine ⟨a, _, rfl, h1.un rfl, .inr ⟨_, rfl⟩, rfl, rfl, fun H' od k ha => ?_⟩
        simp only [Rp]
        exact ⟨a, ws, [], rfl, .inr ⟨t0, kk, e, l, nd, .inr ⟨rfl, od, ha⟩⟩, fin H' k, rfl⟩
    · cases e
  · cases e
theorem frzFs_rp {f : Str} : ∀ {fs fs' : List (Str × D)} {ws : List (Str × V)} {n : List Addr}, frzFs f fs = some fs' → RpF G H fs ws n → ∃ a u, n = [a] ∧ H a = some u ∧ IsDO u ∧
    ∀ (H' : Hp) od, (∀ b o, H b = some o → b ≠ a → H' b = some o) → H' a = some (.frz od u) → RpF G H' fs' ws [a]
  | [], _, _, _, e, _ => by cases e
  | (g, d) :: r, fs', ws, n, e, h => by
    unfold frzFs at e
    simp only [RpF] at h
    obtain ⟨v, vs', n1, n2, rfl, h1, h2, rfl⟩ := h
    split at e
    · split at e
      · rename_i hp
        cases e1 : frzO d with
        | none => rw [e1] at e; cases e
        | some d1 =>
          rw [e1] at e
          cases e
          obtain ⟨a, u, rfl, g1, g2, _, _, g3⟩ := frzO_rp e1 h1
          have := h2.pure hp
          subst this
          refine ⟨a, u, rfl, g1, g2, fun H' od k ha => ?_⟩
          simp only [RpF]
          exact ⟨v, vs', [a], [], rfl, g3 H' od k ha, h2.keep (W := (· = a)) (fun b o e w => k b o e w) (fun b e => by rw [e, g1]; exact g2.mut.1) (by simp), rfl⟩
      · cases e
    · split at e
      · rename_i hp
        cases e1 : frzFs f r with
        | none => rw [e1] at e; cases e
        | some r1 =>
          rw [e1] at e
          cases e
          obtain ⟨a, u, rfl, g1, g2, g3⟩ := frzFs_rp e1 h2
          have := h1.pure hp
          subst this
          refine ⟨a, u, rfl, g1, g2, fun H' od k ha => ?_⟩
          simp only [RpF]
          exact ⟨v, vs', [], [a], rfl, h1.keep (W := (· = a)) (fun b o e w => k b o e w) (fun b e => by rw [e, g1]; exact g2.mut.1) (by simp), g3 H' od k ha, rfl⟩
      · cases e
theorem frzD_rp {p : Option Str} {d d' : D} {v : V} {n : List Addr} (e : frzD p d = some d') (r : Rp G H d v n) : ∃ a u, a ∈ n ∧ (p = none → n.head? = some a) ∧ H a = some u ∧ IsDO u ∧ d.isMut = true ∧ d'.isMut = true ∧
    ∀ (H' : Hp) od, (∀ b o, H b = some o → b ≠ a → H' b = some o) → H' a = some (.frz od u) → Rp G H' d' v n := by
  unfold frzD at e
  split at e
  · obtain ⟨a, u, rfl, g1, g2, g3, g4, g5⟩ := frzO_rp e r
    exact ⟨a, u, by simp, fun _ => rfl, g1, g2, g3, g4, g5⟩
  · rename_i f c fs
    cases e1 : frzFs f fs with
    | none => rw [e1] at e; cases e
    | some fs1 =>
      rw [e1] at e
      cases e
      simp only [Rp] at r
      obtain ⟨C, b, dx, ws, m, rfl, hc, hb, h2, rfl⟩ := r
      obtain ⟨a, u, rfl, g1, g2, g3⟩ := frzFs_rp e1 h2
      have hab : b ≠ a := fun z => by
        rw [z, g1] at hb
        cases hb
        rcases g2 with ⟨_, g2⟩ | ⟨_, g2⟩ <;> cases g2
      refine ⟨a, u, by simp, (fun z => nomatch z), g1, g2, rfl, rfl, fun H' od k ha => ?_⟩
      simp only [Rp]
      exact ⟨C, b, dx, ws, [a], rfl, hc, k _ _ hb hab, g3 H' od k ha, rfl⟩
  · cases e
end
/-! ### no other slot has the dict -/
def pureLst : D → Bool
  | .lst xs => pureL xs
  | _ => false
def ownsP (m : Md) (p : Option Str) : Bool := m.isD || (m.isR && p.isNone)
def othJ (m : Md) : Option (Option D) → Bool
  | some (some d) => m.isD || (d.pure || pureLst d)
  | _ => true
def othOk (μ : List Md) (i : Nat) (p : Option Str) (env : En) : Bool := ownsP (mdAt μ i) p || (List.range env.length).all fun j => j == i || othJ (mdAt μ j) env[j]?
theorem oth_ok {G : Gt} {μ : List Md} {env : En} {σ : L2.St} {H : Hp} {N : Nat → List Addr} {i : Nat} {p : Option Str} {d : D} {a : Addr} {u : HO} (R : Rep G μ env σ H N) (h : othOk μ i p env = true) (e : env[i]? = some (some d)) (hd : d.isMut = true) (ha : a ∈ N i) (hp : p = none → (N i).head? = some a)
    (hu : H a = some u) (hx : ∀ xs, u ≠ .lst xs) : ∀ j, j ≠ i → a ∉ N j := by
  unfold othOk ownsP at h
  rw [Bool.or_eq_true, Bool.or_eq_true, Bool.and_eq_true] at h
  rcases h with (h | h) | h
  · exact (R.uq i d a e (.inl ⟨h, ha⟩)).2
  · exact (R.uq i d a e (.inr ⟨h.1, hd, hp (by simpa using h.2)⟩)).2
  · intro j hj hin
    rw [List.all_eq_true] at h
    have hjl : j < env.length := by
      rcases Nat.lt_or_ge j env.length with z | z
      · exact z
      · rw [R.emp j fun d e => by rw [List.getElem?_eq_none z] at e; cases e] at hin; cases hin
    have h := h j (List.mem_range.mpr hjl)
    rw [Bool.or_eq_true] at h
    rcases h with h | h
    · exact hj (by simpa using h)
    · cases ej : env[j]? with
      | none => rw [R.emp j (by simp [ej])] at hin; cases hin
      | some o =>
        cases o with
        | none => rw [R.emp j (by simp [ej])] at hin; cases hin
        | some dj =>
          rw [ej] at h
          simp only [othJ, Bool.or_eq_true] at h
          obtain ⟨v, _, r⟩ := R.rep j dj ej
          rcases h with h | h | h
          · exact (R.uq j dj a ej (.inl ⟨h, hin⟩)).2 i (Ne.symm hj) ha
          · rw [r.pure h] at hin; cases hin
          · unfold pureLst at h
            split at h
            · simp only [Rp] at r
              obtain ⟨b, vs, m, _, hb, h2, hn⟩ := r
              rw [hn, h2.pure h, List.mem_singleton] at hin
              subst hin
              rw [hu] at hb
              cases hb
              exact hx _ rfl
            · cases h
end VS
/-! VS: a dict is locked while it is walked: expressions, statements. -/
namespace VS
open PySem PySem.Spec PyProof.Rows L2
section
variable {G : Gt} {μ : List Md} {i : Nat} {p : Option Str} {env env2 : En} {σ σ2 : L2.St} {H H2 : Hp} {N N2 : Nat → List Addr} {d d' : D} {a : Addr} {u : HO} {od : Obj} {ro : Bool}
theorem Rep.ofA (hi : i < μ.length) (R : Rep G (lockA μ i) env σ H N) : Rep G μ env σ H N := ⟨R.len, R.rep, R.emp, fun j d a e o => R.uq j d a e ((own_lockA hi).mpr o), R.ex⟩
theorem lk_in (R : Rep G μ env σ H N) (hi : i < μ.length) (e : env[i]? = some (some d)) (hf : frzD p d = some d') (ho : othOk μ i p env = true) : ∃ a u, H a = some u ∧ IsDO u ∧ a ∈ N i ∧ (p = none → (N i).head? = some a) ∧ d.isMut = true ∧ d'.isMut = true ∧ (∀ j, j ≠ i → a ∉ N j) ∧
    ∀ od, Rep G (lockA μ i) (env.set i (some d')) σ (upd H a (.frz od u)) N := by
  obtain ⟨v, hv, r⟩ := R.rep i d e
  obtain ⟨a, u, g1, g2, g3, g4, g5, g6, g7⟩ := frzD_rp hf r
  have ap := oth_ok R ho e g5 g1 g2 g3 (fun xs z => by rcases g4 with ⟨k, g4⟩ | ⟨k, g4⟩ <;> rw [g4] at z <;> cases z)
  refine ⟨a, u, g3, g4, g1, g2, g5, g6, ap, fun od => ?_⟩
  have hil : i < env.length := (List.getElem?_eq_some_iff.mp e).1
  have ku : Keeps H (upd H a (.frz od u)) (· = a) := fun b o e w => by rw [upd_ne w]; exact e
  refine ⟨by rw [List.length_set]; exact R.len, fun j dj ej => ?_, fun j hj => ?_, fun j dj b ej o => ?_, R.exK ku (fun b w => by rw [w, g3]; exact g4.mut.1) fun x hx => rfl⟩
  · by_cases hj : j = i
    · subst hj
      rw [List.getElem?_set_self hil] at ej
      cases ej
      exact ⟨v, hv, g7 _ od (fun b o e w => by rw [upd_ne w]; exact e) upd_same⟩
    · rw [List.getElem?_set_ne (Ne.symm hj)] at ej
      obtain ⟨w, hw, rw'⟩ := R.rep j dj ej
      exact ⟨w, hw, rw'.keep ku (fun b w => by rw [w, g3]; exact g4.mut.1) fun b hb z => ap j hj (z ▸ hb)⟩
  · refine R.emp j fun dj ej => ?_
    by_cases hji : j = i
    · subst hji
      exact hj d' (List.getElem?_set_self hil)
    · exact hj dj (by rw [List.getElem?_set_ne (Ne.symm hji)]; exact ej)
  · have oo := (own_lockA hi).mp o
    by_cases hj : j = i
    · subst hj
      rw [List.getElem?_set_self hil] at ej
      cases ej
      refine R.uq j d b e ?_
      rcases oo with oo | ⟨o1, _, o3⟩
      · exact .inl oo
      · exact .inr ⟨o1, g5, o3⟩
    · rw [List.getElem?_set_ne (Ne.symm hj)] at ej
      exact R.uq j dj b ej oo
theorem lk_out (R : Rep G μ env σ H N) (hi : i < μ.length) (hm : mdAt μ i ≠ .al) (e : env[i]? = some (some d)) (g1 : H a = some u) (g2 : IsDO u) (g3 : a ∈ N i) (g4 : p = none → (N i).head? = some a) (g5 : d.isMut = true) (g6 : d'.isMut = true) (g7 : ∀ j, j ≠ i → a ∉ N j)
    (R2 : Rep G (lockA μ i) env2 σ2 H2 N2) (S2 : Stp (lockA μ i) ro (env.set i (some d')) (upd H a (.frz od u)) N env2 H2 N2) (F2 : σ2[i]? = σ[i]?) (ho : othOk μ i p env2 = true) :
    H2 a = some (.frz od u) ∧ Rep G μ (env2.set i (some d)) σ2 (upd H2 a u) N2 ∧ Stp μ false env H N (env2.set i (some d)) (upd H2 a u) N2 ∧ (∀ j, j ≠ i → a ∉ N2 j) ∧ N2 i = N i ∧ ∀ dv v n, Rp G H2 dv v n → a ∉ n → Rp G (upd H2 a u) dv v n := by
  have hil : i < env.length := (List.getElem?_eq_some_iff.mp e).1
  obtain ⟨l1, l2⟩ := S2.lock i (lockA_self hi hm).1
  rw [List.getElem?_set_self hil] at l1
  have hil2 : i < env2.length := (List.getElem?_eq_some_iff.mp l1).1
  -- who writes while it is locked
  have nwA : ∀ b, wrS (lockA μ i) (env.set i (some d')) N b → wrS μ env N b ∧ b ∉ N i := fun b ⟨j, dj, ej, w⟩ => by
    have hj : j ≠ i := fun z => by
      subst z
      have := w.1
      rw [(lockA_self hi hm).1] at this
      cases this
    rw [List.getElem?_set_ne (Ne.symm hj)] at ej
    have o := (own_lockA hi).mp w.2
    refine ⟨⟨j, dj, ej, ?_, o⟩, fun z => (R.uq j dj b ej o).2 i (Ne.symm hj) z⟩
    cases z : (mdAt μ j).lock with
    | false => rfl
    | true => have w1 := w.1; rw [lockA_of hi z] at w1; cases w1
  have ha2 : H2 a = some (.frz od u) := S2.keep a _ upd_same fun w => (nwA a w).2 g3
  have ap2 : ∀ j, j ≠ i → a ∉ N2 j := oth_ok (R2.ofA hi) ho l1 g6 (by rw [l2]; exact g3) (by rw [l2]; exact g4) ha2 (fun xs z => nomatch z)
  have ku : Keeps H2 (upd H2 a u) (· = a) := fun b o e w => by rw [upd_ne w]; exact e
  have mu : ∀ b, b = a → MutO (H2 b) := fun b z => by rw [z, ha2]; exact g2.mut.2.2 od
  have kH : ∀ b o, H b = some o → ¬ wrS (lockA μ i) (env.set i (some d')) N b → upd H2 a u b = some o := fun b o eb w => by
    by_cases hb : b = a
    · subst hb
      rw [upd_same, ← g1]
      exact eb
    · rw [upd_ne hb]
      exact S2.keep b o (by rw [upd_ne hb]; exact eb) w
  have owm : ∀ {dd : D} {b : Addr} {m : Md} {n : List Addr}, Own m d n b → Own m d' n b := fun {dd b m n} o => by
    rcases o with o | ⟨o1, _, o3⟩
    · exact .inl o
    · exact .inr ⟨o1, g6, o3⟩
  have owm' : ∀ {b : Addr} {m : Md} {n : List Addr}, Own m d' n b → Own m d n b := fun {b m n} o => by
    rcases o with o | ⟨o1, _, o3⟩
    · exact .inl o
    · exact .inr ⟨o1, g5, o3⟩
  have hN : ∀ b, upd H2 a u b = none → H b = none := fun b hb => by
    by_cases z : b = a
    · rw [z, upd_same] at hb; cases hb
    · rw [upd_ne z] at hb
      have := S2.dom b hb
      rw [upd_ne z] at this
      exact this
  have hN2 : ∀ b, upd H a (.frz od u) b = none → H b = none := fun b hb => by
    by_cases z : b = a
    · rw [z, upd_same] at hb; cases hb
    · rw [upd_ne z] at hb; exact hb
  have own2 : ∀ b, ownS μ (env2.set i (some d)) N2 b → ownS (lockA μ i) env2 N2 b := fun b ⟨j, dj, ej, o⟩ => by
    by_cases hj : j = i
    · subst hj
      rw [List.getElem?_set_self hil2] at ej
      cases ej
      exact ⟨j, d', l1, (own_lockA hi).mpr (owm (dd := d) o)⟩
    · rw [List.getElem?_set_ne (Ne.symm hj)] at ej
      exact ⟨j, dj, ej, (own_lockA hi).mpr o⟩
  have own1 : ∀ b, ownS (lockA μ i) (env.set i (some d')) N b → ownS μ env N b := fun b ⟨j, dj, ej, o⟩ => by
    have oo := (own_lockA hi).mp o
    by_cases hj : j = i
    · subst hj
      rw [List.getElem?_set_self hil] at ej
      cases ej
      exact ⟨j, d, e, owm' oo⟩
    · rw [List.getElem?_set_ne (Ne.symm hj)] at ej
      exact ⟨j, dj, ej, oo⟩
  refine ⟨ha2, ⟨by rw [List.length_set]; exact R2.len, fun j dj ej => ?_, fun j hj => ?_, fun j dj b ej o => ?_, R2.exK ku mu fun x hx => rfl⟩, ⟨fun b o eb w => kH b o eb fun z => w (nwA b z).1, hN, fun b h => ?_, fun b h => ?_, fun b h => (S2.all b h).imp id (hN2 b), fun j hj => ?_, fun z => by cases z⟩, ap2, l2, fun dv v n r hn => r.keep ku mu fun b hb z => hn (z ▸ hb)⟩
  · by_cases hj : j = i
    · subst hj
      rw [List.getElem?_set_self hil2] at ej
      cases ej
      obtain ⟨v, hv, r⟩ := R.rep j d e
      refine ⟨v, by rw [F2]; exact hv, ?_⟩
      rw [l2]
      exact r.keep (W := wrS (lockA μ j) (env.set j (some d')) N) kH (fun b w => R.mut (nwA b w).1.own.all) fun b hb w => (nwA b w).2 hb
    · rw [List.getElem?_set_ne (Ne.symm hj)] at ej
      obtain ⟨w, hw, rw'⟩ := R2.rep j dj ej
      exact ⟨w, hw, rw'.keep ku mu fun b hb z => ap2 j hj (z ▸ hb)⟩
  · refine R2.emp j fun dj ej => ?_
    by_cases hji : j = i
    · subst hji
      exact hj d (List.getElem?_set_self hil2)
    · exact hj dj (by rw [List.getElem?_set_ne (Ne.symm hji)]; exact ej)
  · by_cases hj : j = i
    · subst hj
      rw [List.getElem?_set_self hil2] at ej
      cases ej
      exact R2.uq j d' b l1 ((own_lockA hi).mpr (owm (dd := d) o))
    · rw [List.getElem?_set_ne (Ne.symm hj)] at ej
      exact R2.uq j dj b ej ((own_lockA hi).mpr o)
  · exact (S2.own b (own2 b h)).imp (own1 b) (hN2 b)
  · obtain ⟨j, dj, ej, w⟩ := h
    by_cases hj : j = i
    · subst hj
      rw [List.getElem?_set_self hil2] at ej
      cases ej
      rw [l2] at w
      exact .inl ⟨j, d, e, w⟩
    · rw [List.getElem?_set_ne (Ne.symm hj)] at ej
      rcases S2.wr b ⟨j, dj, ej, by rw [mdAt_lockA j hi, if_neg hj]; exact w.1, (own_lockA hi).mpr w.2⟩ with z | z
      · exact .inl (nwA b z).1
      · exact .inr (hN2 b z)
  · by_cases hji : j = i
    · subst hji
      rw [List.getElem?_set_self hil2]
      exact ⟨e.symm, l2⟩
    · rw [List.getElem?_set_ne (Ne.symm hji)]
      obtain ⟨q1, q2⟩ := S2.lock j (lockA_of hi hj)
      rw [List.getElem?_set_ne (Ne.symm hji)] at q1
      exact ⟨q1, q2⟩
end
/-! ### the rules -/
def resOk (m : Md) (p : Option Str) (d : D) : Bool := ownsP m p || (d.pure || pureLst d)
def lkE3 (i : Nat) (p : Option Str) (μ : List Md) (d : D) : Rt D → Rt D
  | .ok r e2 => if (othOk μ i p e2 && resOk (mdAt μ i) p r) = true then .ok r (e2.set i (some d)) else .bad
  | _ => .bad
def lkE2 (i : Nat) (p : Option Str) (μ : List Md) (m : EM) (d : D) (env : En) : Option D → Rt D
  | some d' => if othOk μ i p env = true then lkE3 i p μ d (m (env.set i (some d'))) else .bad
  | none => .bad
/-- m while the dict of slot i (at p) is locked -/
def mLockD (i : Nat) (p : Option Str) (μ : List Md) (m : EM) : EM := fun env => match env[i]? with
  | some (some d) => lkE2 i p μ m d env (frzD p d)
  | _ => .bad
theorem res_out {G : Gt} {μ : List Md} {i : Nat} {p : Option Str} {env : En} {H : Hp} {N : Nat → List Addr} {d r : D} {v : V} {n : List Addr} {a : Addr} {u : HO} {od : Obj} (e : env[i]? = some (some d)) (g3 : a ∈ N i) (g4 : p = none → (N i).head? = some a) (g5 : d.isMut = true) (ha : H a = some (.frz od u))
    (rr : Rp G H r v n) (V : ∀ b ∈ n, ¬ ownS μ env N b) (h : resOk (mdAt μ i) p r = true) : a ∉ n := fun hin => by
  unfold resOk ownsP at h
  rw [Bool.or_eq_true, Bool.or_eq_true, Bool.or_eq_true, Bool.and_eq_true] at h
  rcases h with (h | h) | h | h
  · exact V a hin ⟨i, d, e, .inl ⟨h, g3⟩⟩
  · exact V a hin ⟨i, d, e, .inr ⟨h.1, g5, g4 (by simpa using h.2)⟩⟩
  · rw [rr.pure h] at hin; cases hin
  · unfold pureLst at h
    split at h
    · simp only [Rp] at rr
      obtain ⟨b, vs, m, _, hb, h2, hn⟩ := rr
      rw [hn, h2.pure h, List.mem_singleton] at hin
      subst hin
      rw [ha] at hb
      cases hb
    · cases h
section
variable {X : Cx} {xv : XV} {μ : List Md} {W : WX} {e : Expr} {st : Stmt} {ro : Bool} {md rmd : Md} {m : EM} {s : SM}
theorem v_lockD (i : Nat) (p : Option Str) (h : PEV X xv (lockA μ i) W e ro md m) (hi : i < μ.length := by decide) (hm : mdAt μ i ≠ .al := by decide) (hmd : md ≠ .al := by decide) : PEV X xv μ W e false md (mLockD i p μ m) := by
  refine ⟨PE.imp (pe_lock h.pe) fun σ H Q ⟨env, N, R, q⟩ => ?_, fun z => by cases z⟩
  unfold mLockD at q
  split at q
  · rename_i d ed
    cases hf : frzD p d with
    | none => rw [hf] at q; exact q.elim
    | some d' =>
      rw [hf] at q
      simp only [lkE2] at q
      split at q
      · rename_i ho
        obtain ⟨a, u, g1, g2, g3, g4, g5, g6, g7, RL⟩ := lk_in R hi ed hf ho
        refine ⟨a, u, g1, g2.mut.2.1, fun od => ⟨_, N, RL od, ?_⟩⟩
        cases e1 : m (env.set i (some d')) with
        | bad => rw [e1] at q; exact q.elim
        | exc x e2 => rw [e1] at q; exact q.elim
        | ok r e2 =>
          rw [e1] at q
          simp only [lkE3] at q
          split at q
          · rename_i hc
            rw [Bool.and_eq_true] at hc
            intro v H2 N2 n R2 S2 r2 V
            obtain ⟨o1, o2, o3, o4, o5, o6⟩ := lk_out R hi hm ed g1 g2 g3 g4 g5 g6 g7 R2 S2 rfl hc.1
            have hil : i < env.length := (List.getElem?_eq_some_iff.mp ed).1
            obtain ⟨l1, _⟩ := S2.lock i (lockA_self hi hm).1
            rw [List.getElem?_set_self hil] at l1
            have hil2 : i < e2.length := (List.getElem?_eq_some_iff.mp l1).1
            have own2 : ∀ b, ownS μ (e2.set i (some d)) N2 b → ownS (lockA μ i) e2 N2 b := fun b ⟨j, dj, ej, o⟩ => by
              by_cases hj : j = i
              · subst hj
                rw [List.getElem?_set_self hil2] at ej
                cases ej
                refine ⟨j, d', l1, (own_lockA hi).mpr ?_⟩
                rcases o with o | ⟨o1, _, o3⟩
                · exact .inl o
                · exact .inr ⟨o1, g6, o3⟩
              · rw [List.getElem?_set_ne (Ne.symm hj)] at ej
                exact ⟨j, dj, ej, (own_lockA hi).mpr o⟩
            have an : a ∉ n := res_out (μ := μ) (env := e2.set i (some d)) (List.getElem?_set_self hil2) (by rw [o5]; exact g3) (by rw [o5]; exact g4) g5 o1 r2 (fun b hb w => V.nown hmd b hb (own2 b w)) hc.2
            have hN2 : ∀ b, upd H a (.frz od u) b = none → H b = none := fun b hb => by
              by_cases z : b = a
              · rw [z, upd_same] at hb; cases hb
              · rw [upd_ne z] at hb; exact hb
            refine ⟨o1, q v _ N2 n o2 o3 (o6 _ _ _ r2 an) ⟨fun b hb => (V.sub b hb).imp id (hN2 b), fun _ b hb w => V.nown hmd b hb (own2 b w), V.uq, fun b o => ?_⟩⟩
            rcases V.osub b o with ⟨j, dj, ej, w⟩ | z
            · have hj : j ≠ i := fun z => by
                subst z
                have := w.1
                rw [(lockA_self hi hm).1] at this
                cases this
              rw [List.getElem?_set_ne (Ne.symm hj)] at ej
              refine .inl ⟨j, dj, ej, ?_, (own_lockA hi).mp w.2⟩
              cases z : (mdAt μ j).lock with
              | false => rfl
              | true => have w1 := w.1; rw [lockA_of hi z] at w1; cases w1
            · exact .inr (hN2 b z)
          · exact q.elim
      · exact q.elim
  · exact q.elim
def lkS3 (i : Nat) (p : Option Str) (μ : List Md) (d : D) : Sr → Sr
  | .nx e2 => if othOk μ i p e2 = true then .nx (e2.set i (some d)) else .bad
  | .bk e2 => if othOk μ i p e2 = true then .bk (e2.set i (some d)) else .bad
  | .ct e2 => if othOk μ i p e2 = true then .ct (e2.set i (some d)) else .bad
  | .rt r e2 => if (othOk μ i p e2 && resOk (mdAt μ i) p r) = true then .rt r (e2.set i (some d)) else .bad
  | _ => .bad
def lkS2 (i : Nat) (p : Option Str) (μ : List Md) (m : SM) (d : D) (env : En) : Option D → Sr
  | some d' => if othOk μ i p env = true then lkS3 i p μ d (m (env.set i (some d'))) else .bad
  | none => .bad
def sLockD (i : Nat) (p : Option Str) (μ : List Md) (m : SM) : SM := fun env => match env[i]? with
  | some (some d) => lkS2 i p μ m d env (frzD p d)
  | _ => .bad
theorem s_lockD (i : Nat) (p : Option Str) (h : PSV X xv (lockA μ i) W rmd st s) (hi : i < μ.length := by decide) (hm : mdAt μ i ≠ .al := by decide) (hmd : rmd ≠ .al := by decide) : PSV X xv μ W rmd st (sLockD i p μ s) := by
  refine ⟨PS.imp (ps_lock h.ps) fun E σ H ⟨env, N, R, q⟩ => ?_⟩
  unfold sLockD at q
  split at q
  · rename_i d ed
    cases hf : frzD p d with
    | none => rw [hf] at q; exact q.elim
    | some d' =>
      rw [hf] at q
      simp only [lkS2] at q
      split at q
      · rename_i ho
        obtain ⟨a, u, g1, g2, g3, g4, g5, g6, g7, RL⟩ := lk_in R hi ed hf ho
        refine ⟨a, u, g1, g2.mut.2.1, fun od => ⟨_, N, RL od, ?_⟩⟩
        have hN2 : ∀ b, upd H a (.frz od u) b = none → H b = none := fun b hb => by
          by_cases z : b = a
          · rw [z, upd_same] at hb; cases hb
          · rw [upd_ne z] at hb; exact hb
        have fx : ∀ σ2 : L2.St, Fx (lockA μ i) σ σ2 → Fx μ σ σ2 := fun σ2 F j hj => F j (fixA_of hi hj)
        cases e1 : s (env.set i (some d')) with
        | bad => rw [e1] at q; exact q.elim
        | exc x e2 => rw [e1] at q; exact q.elim
        | nx e2 =>
          rw [e1] at q
          simp only [lkS3] at q
          split at q
          · rename_i hc
            intro σ2 H2 N2 R2 S2 F2
            obtain ⟨o1, o2, o3, o4, o5, o6⟩ := lk_out R hi hm ed g1 g2 g3 g4 g5 g6 g7 R2 S2 (F2 i (lockA_self hi hm).2) hc
            exact ⟨o1, q σ2 _ N2 o2 o3 (fx σ2 F2)⟩
          · exact q.elim
        | bk e2 =>
          rw [e1] at q
          simp only [lkS3] at q
          split at q
          · rename_i hc
            intro σ2 H2 N2 R2 S2 F2
            obtain ⟨o1, o2, o3, o4, o5, o6⟩ := lk_out R hi hm ed g1 g2 g3 g4 g5 g6 g7 R2 S2 (F2 i (lockA_self hi hm).2) hc
            exact ⟨o1, q σ2 _ N2 o2 o3 (fx σ2 F2)⟩
          · exact q.elim
        | ct e2 =>
          rw [e1] at q
          simp only [lkS3] at q
          split at q
          · rename_i hc
            intro σ2 H2 N2 R2 S2 F2
            obtain ⟨o1, o2, o3, o4, o5, o6⟩ := lk_out R hi hm ed g1 g2 g3 g4 g5 g6 g7 R2 S2 (F2 i (lockA_self hi hm).2) hc
            exact ⟨o1, q σ2 _ N2 o2 o3 (fx σ2 F2)⟩
          · exact q.elim
        | rt r e2 =>
          rw [e1] at q
          simp only [lkS3] at q
          split at q
          · rename_i hc
            rw [Bool.and_eq_true] at hc
            intro v σ2 H2 N2 n R2 S2 F2 r2 V
            obtain ⟨o1, o2, o3, o4, o5, o6⟩ := lk_out R hi hm ed g1 g2 g3 g4 g5 g6 g7 R2 S2 (F2 i (lockA_self hi hm).2) hc.1
            have hil : i < env.length := (List.getElem?_eq_some_iff.mp ed).1
            obtain ⟨l1, _⟩ := S2.lock i (lockA_self hi hm).1
            rw [List.getElem?_set_self hil] at l1
            have hil2 : i < e2.length := (List.getElem?_eq_some_iff.mp l1).1
            have own2 : ∀ b, ownS μ (e2.set i (some d)) N2 b → ownS (lockA μ i) e2 N2 b := fun b ⟨j, dj, ej, o⟩ => by
              by_cases hj : j = i
              · subst hj
                rw [List.getElem?_set_self hil2] at ej
                cases ej
                refine ⟨j, d', l1, (own_lockA hi).mpr ?_⟩
                rcases o with o | ⟨o1, _, o3⟩
                · exact .inl o
                · exact .inr ⟨o1, g6, o3⟩
              · rw [List.getElem?_set_ne (Ne.symm hj)] at ej
                exact ⟨j, dj, ej, (own_lockA hi).mpr o⟩
            have an : a ∉ n := res_out (μ := μ) (env := e2.set i (some d)) (List.getElem?_set_self hil2) (by rw [o5]; exact g3) (by rw [o5]; exact g4) g5 o1 r2 (fun b hb w => V.nown hmd b hb (own2 b w)) hc.2
            refine ⟨o1, q v σ2 _ N2 n o2 o3 (fx σ2 F2) (o6 _ _ _ r2 an) ⟨fun b hb => (V.sub b hb).imp id (hN2 b), fun _ b hb w => V.nown hmd b hb (own2 b w), V.uq, fun b o => ?_⟩⟩
            rcases V.osub b o with ⟨j, dj, ej, w⟩ | z
            · have hj : j ≠ i := fun z => by
                subst z
                have := w.1
                rw [(lockA_self hi hm).1] at this
                cases this
              rw [List.getElem?_set_ne (Ne.symm hj)] at ej
              refine .inl ⟨j, dj, ej, ?_, (own_lockA hi).mp w.2⟩
              cases z : (mdAt μ j).lock with
              | false => rfl
              | true => have w1 := w.1; rw [lockA_of hi z] at w1; cases w1
            · exact .inr (hN2 b z)
          · exact q.elim
      · exact q.elim
  · exact q.elim
end
end VS
/-! VS: walks over dicts: keys, items. -/
namespace L2
open PySem PySem.Spec PyProof.Rows
section
variable {X : Cx} {pins : List (Addr × Obj)} {σ : St} {H : Hp} {s : Shared} {d : Addr} {o : Obj}
theorem Inv.frzTV {kvs : List (List Key × V)} (I : Inv X pins σ H s) (h : H d = some (.frz o (.dT kvs))) :
    (d == sysModules) = false ∧ DT.Raw s.heap d (match o.data with | .dict es _ => es | _ => #[]) (match o.data with | .dict _ ep => ep | _ => 0) ∧ ∃ (es : Array DictEntry) (ep : Nat), o.data = .dict es ep ∧ es.size = kvs.length ∧
      ∀ (i : Nat) (k : List Key) (v : V), kvs[i]? = some (k, v) → ∃ (en : DictEntry) (q : Addr), es[i]? = some en ∧ en.key = .ref q ∧ H q = some (.tup (k.map kV)) ∧ RelV v en.val := by
  obtain ⟨hd, z, hs, xs, pr, o', es, ep, ho, hx, hdt, he, _⟩ := I.hok d _ h
  rw [hd] at ho
  cases ho
  refine ⟨hs, ⟨o, hd, hx, by rw [hdt]⟩, es, ep, hdt, ?_, fun i k v e => ?_⟩
  · have l1 : es.size = xs.length := size_of_entries he
    have l2 : kvs.length = xs.length := Paired.length pr
    omega
  · obtain ⟨b, hb, e1, e2, e3⟩ := paired_get pr e
    have q := entry_at he i
    rw [hb] at q
    exact ⟨_, b.2.1, q, rfl, e2, e3⟩
end
/-- the pairs of a dict with tuple keys, each a new tuple -/
def ItiT (d : Addr) (o : Obj) (kvs : List (List Key × V)) : It :=
  ⟨fun i H => H d = some (.frz o (.dT kvs)) ∧ i < kvs.length, fun i H x H' => ∃ (T : Addr) (k : List Key) (v : V) (q : Addr), kvs[i]? = some (k, v) ∧ x = .ref T ∧ H T = none ∧ H q = some (.tup (k.map kV)) ∧ H' = upd H T (.tup [.ref q, v]), fun i H => H d = some (.frz o (.dT kvs)) ∧ kvs.length ≤ i⟩
section
variable {P : Program} {w : World} {K : PySem.W.Frag} {d : Addr} {o : Obj} {es : Array DictEntry} {ep : Nat}
theorem turn_itemsT {kvs : List (List Key × V)} {elts : List Expr} {kk : Nat} {tpos : Pos} (it : Addr) (hod : o.data = .dict es ep) :
    Turn P w K (.Tuple elts kk tpos) (ItiT d o kvs) [it] it (fun i h => ∃ ok ov, IsItemIter h it d i kvs.length ep ok ov) where
  mem := by simp
  obj := fun i h st b hb => by
    have e : b = it := by simpa using hb
    subst e
    obtain ⟨ok, ov, e⟩ := st
    exact ⟨_, e, fun v z => nomatch z⟩
  keep := fun i h h' st k => let ⟨ok, ov, e⟩ := st; ⟨ok, ov, k it (by simp) _ e⟩
  item := by
    intro X hP hw hK hc i pins s σ H E I hf st hg
    subst hP hw hK
    obtain ⟨hd, hi⟩ := hg
    obtain ⟨hs, raw, es', ep', hdt, hsz, ent⟩ := I.frzTV hd
    obtain ⟨rfl, rfl⟩ := dict_ep hod hdt
    rw [hdt] at raw
    obtain ⟨⟨k, v⟩, hkv⟩ : ∃ p, kvs[i]? = some p := ⟨kvs[i], List.getElem?_eq_getElem hi⟩
    obtain ⟨en, q, hen, hkey, hq, rv⟩ := ent i k v hkv
    obtain ⟨ok, ov, he⟩ := st
    rw [← hsz] at he
    have hlt : it < s.heap.objs.size := Heap.lt_size he
    have hie : i < es'.size := by omega
    have ee : es'[i] = en := by rw [Array.getElem?_eq_getElem hie] at hen; exact Option.some.inj hen
    refine DT.nextI he raw hie fun h' ho hT hz hk => ?_
    rw [ee, hkey] at hT
    refine ⟨_, rfl, wpAny_letOwnedTupleGo_items (s := { s with heap := h' }) ho fun h'' he' sb => ?_⟩
    have hT2 : h''.get? s.heap.objs.size = some { cls := .type "tuple", data := .seq #[.ref q, en.val] } := (sb.2 _ (Nat.ne_of_gt hlt)).trans hT
    have new : ObjOk X.prog X.w (upd H s.heap.objs.size (.tup [.ref q, v])) h'' s.heap.objs.size (.tup [.ref q, v]) :=
      ⟨by show 2 ≤ sizeLine; decide, [.ref q, en.val], .cons rfl (.cons rv .nil), ⟨_, hT2, rfl, _, rfl⟩⟩
    have I1 : Inv X pins σ (upd H s.heap.objs.size (.tup [.ref q, v])) { s with heap := h'' } :=
      I.turnedNew (t' := s.toks) (ch := [it]) (fun b ob hb e => (sb.2 b (by simpa using hb)).trans (hk b ob (by simpa using hb) e)) hf (Nat.le_refl _) new
    refine ⟨.ref s.heap.objs.size, _, I1, rfl, ⟨_, k, v, q, hkv, rfl, I.hok.fresh (Nat.le_refl _), hq, rfl⟩, ⟨_, _, by rw [← hsz]; exact he'⟩, fun b hb => ?_⟩
    have e : b = it := by simpa using hb
    rw [e, upd_ne (Nat.ne_of_lt hlt)]
    exact (hf it (by simp)).1
  done := by
    intro X hP hw hK hc i pins s σ H E I hf st hg
    subst hP hw hK
    obtain ⟨hd, hi⟩ := hg
    obtain ⟨f0, f1, f2, f3, f4, f5⟩ := hf it (by simp)
    obtain ⟨hs, raw, es', ep', hdt, hsz, ent⟩ := I.frzTV hd
    obtain ⟨rfl, rfl⟩ := dict_ep hod hdt
    rw [hdt] at raw
    obtain ⟨ok, ov, he⟩ := st
    rw [← hsz] at he
    exact DT.endI (I.ok.hd hc) he raw (by omega) fun h' eb => ⟨rfl, I.turned (t' := s.toks) (fun b ob hb e => eb b ob hb e) f0 f1 f3 f4 f5⟩
  self := fun A i s Q E st h => let ⟨_, _, e⟩ := st; PySem.W.kcp_self e h
end
def iItemsT (td : TE) : TI := fun σ H R => td σ H fun x H1 => ∃ d o, x = .ref d ∧ ((∃ kvs, H1 d = some (.frz o (.dK kvs)) ∧ R (Iti d o kvs) H1) ∨ ∃ kvs, H1 d = some (.frz o (.dT kvs)) ∧ R (ItiT d o kvs) H1)
section
variable {X : Cx} {tg e : Expr} {td : TE} {apos cpos : Pos}
theorem pi_itemsT {elts : List Expr} {kk : Nat} {tpos : Pos} (he : PE X e td) (hbase : attributeBase e "items" X.env (eval e X.env) = eval e X.env := by rfl) (hline : (apos.endLine == cpos.line) = true := by rfl) :
    PI X (.Tuple elts kk tpos) (.Call (.Attribute e "items" apos) [] [] cpos) (iItemsT td) := by
  refine ⟨fun pins s σ H R I h => ?_⟩
  refine wpAny_Call_method (T := "dict") (id := "dict.items") hbase rfl hline PySem.F.plainAttrs_dict PySem.F.slot_dict_items PySem.F.type_dict_items (thn (he.run pins s σ H _ I h) fun u s1 ⟨x, H1, I1, rx, d, o, ex, q⟩ => ?_)
  subst ex
  obtain rfl : u = Value.ref d := rx
  have I2 : Inv X pins σ H1 { s1 with heap := s1.heap.push { cls := .type "dict_items", data := .fields #[.ref d] } } := I1.kept (t' := s1.toks) fun b ob q => Heap.get?_push_of_some _ q
  rcases q with ⟨kvs, hd, q⟩ | ⟨kvs, hd, q⟩
  · obtain ⟨hs, hgd, hx, es, ep, vs, hdt, hsz, kv, hm⟩ := I1.frzK hd
    have hl : kvs.length = vs.length := Paired.length kv
    refine ⟨hm.dictOf.typeIs, hm.dictOf.mapOf.noDict, ?_⟩
    have fin : wpAny (model X.prog X.w) X.A (pyIter (.ref s1.heap.objs.size)) (PIE X pins σ (.Tuple elts kk tpos) R) X.xe { s1 with heap := s1.heap.push { cls := .type "dict_items", data := .fields #[.ref d] } } := by
      refine wpAny_pyIter_items (d := d) (knd := mixKind X.prog X.w) ⟨_, Heap.get?_push_size _ rfl, rfl, rfl⟩ (hm.push _) (pi_one (tk := s1.toks) I2 _ (turn_items _ hdt) ⟨.none, .none, ?_⟩ q)
      rw [hl]
      exact Heap.get?_push_size _ rfl
    show wpAny _ _ (callWith cpos (.builtin "dict.items") [.ref d] [] []) _ X.xe s1
    exact method_meetsIn PySem.F.slot_dict_items PySem.F.entry_dict_items rfl (PySem.evalArgs_none ⟨rfl, hm.dictOf.typeIs, PySem.F.args_dict_items_1 _, _, meets_dict_items (mixKind X.prog X.w) d hs, ⟨vs, hm.dictOf⟩, fin⟩)
  · obtain ⟨hs, raw, es, ep, hdt, hsz, ent⟩ := I1.frzTV hd
    rw [hdt] at raw
    refine ⟨raw.typeIs, fun b q => ?_, ?_⟩
    · cases q
      obtain ⟨ob, h1, h2, _⟩ := raw
      exact ⟨ob, h1, h2.2.1⟩
    have fin : wpAny (model X.prog X.w) X.A (pyIter (.ref s1.heap.objs.size)) (PIE X pins σ (.Tuple elts kk tpos) R) X.xe { s1 with heap := s1.heap.push { cls := .type "dict_items", data := .fields #[.ref d] } } := by
      refine DT.iterI (v := s1.heap.objs.size) (d := d) ⟨_, Heap.get?_push_size _ rfl, rfl, rfl⟩ (raw.push _) (pi_one (tk := s1.toks) I2 _ (turn_itemsT _ hdt) ⟨.none, .none, ?_⟩ q)
      rw [← hsz]
      exact Heap.get?_push_size _ rfl
    show wpAny _ _ (callWith cpos (.builtin "dict.items") [.ref d] [] []) _ X.xe s1
    exact method_meetsIn PySem.F.slot_dict_items PySem.F.entry_dict_items rfl (PySem.evalArgs_none ⟨rfl, raw.typeIs, PySem.F.args_dict_items_1 _, _, DT.meetsItems (es := es) (ep := ep) hs, ⟨raw, fin⟩⟩)
end
end L2
namespace VS
open PySem PySem.Spec PyProof.Rows L2
section
variable {G : Gt} {H : Hp}
theorem RpP.getK {κ : Type} {f : κ → D} : ∀ {kvs : List (D × D)} {kk : List κ} {ws : List V} {n : List Addr} {i : Nat} {kd dd : D}, RpP G H kvs ws n → kk.map f = kvs.map (·.1) → kvs[i]? = some (kd, dd) →
    ∃ k v m, (kk.zip ws)[i]? = some (k, v) ∧ f k = kd ∧ Rp G H dd v m ∧ ∀ a ∈ m, a ∈ n
  | [], _, _, _, _, _, _, _, _, h => by simp at h
  | (q, d0) :: r, [], ws, n, i, kd, dd, h, e, hi => by simp at e
  | (q, d0) :: r, a :: kk, ws, n, i, kd, dd, h, e, hi => by
    simp only [List.map_cons, List.cons.injEq] at e
    obtain ⟨e1, e2⟩ := e
    simp only [RpP] at h
    obtain ⟨v, vs', n1, n2, rfl, h1, h2, rfl⟩ := h
    cases i with
    | zero =>
      simp only [List.getElem?_cons_zero, Option.some.injEq, Prod.mk.injEq] at hi
      obtain ⟨rfl, rfl⟩ := hi
      exact ⟨a, v, n1, rfl, e1, h1, fun x hx => by simp [hx]⟩
    | succ i =>
      obtain ⟨k, w, m, g1, g2, g3, g4⟩ := RpP.getK (i := i) h2 e2 (by simpa using hi)
      exact ⟨k, w, m, by simpa using g1, g2, g3, fun x hx => by simp [g4 x hx]⟩
theorem zip_len {κ : Type} {f : κ → D} {kvs : List (D × D)} {kk : List κ} {ws : List V} (e : kk.map f = kvs.map (·.1)) (l : kk.length = ws.length) : (kk.zip ws).length = kvs.length := by
  have := congrArg List.length e
  rw [List.length_map, List.length_map] at this
  rw [List.length_zip, ← l]
  omega
theorem rp_kD {k : Key} : Rp G H (kD k) (kV k) [] := by cases k <;> simp [kD, kV, Rp]
theorem rpl_kD : ∀ {ks : List Key}, RpL G H (ks.map kD) (ks.map kV) []
  | [] => by simp [RpL]
  | k :: r => by
    simp only [List.map_cons, RpL]
    exact ⟨kV k, _, [], [], rfl, rp_kD, rpl_kD, rfl⟩
theorem rp_kT {ks : List Key} {q : Addr} (h : H q = some (.tup (ks.map kV))) : Rp G H (kT ks) (.ref q) [] := by
  simp only [kT, Rp]
  exact ⟨q, _, rfl, h, rpl_kD⟩
/-- the keys of a locked dict -/
theorem walk_keys {t : Bool} {kvs : List (D × D)} {a : Addr} {ws : List V} (h : DctAt ⟨t, true⟩ H a (kvs.map (·.1)) ws) (hp : kvs.length = ws.length) (hw : ∃ n, RpP G H kvs ws n) : ∃ o J, ((∃ ks, H a = some (.frz o (.dK ks)) ∧ J = Itk a o ks) ∨ ∃ ks, H a = some (.frz o (.dT ks)) ∧ J = Itkt a o ks) ∧
    Walk G J (kvs.map (·.1)) [] [a] (fun H' => H' a = H a) := by
  have hm := h.mut
  have base : ∀ (u : Option HO), MutO u → ∀ H1 H2 (Wp : Addr → Prop), H1 a = u → Keeps H1 H2 Wp → (∀ b ∈ [a], ¬ Wp b) → u ≠ none → H2 a = u := fun u _ H1 H2 Wp e k nw hu => by
    cases u with
    | none => exact absurd rfl hu
    | some o => exact k a o e (nw a (by simp))
  obtain ⟨n, hw⟩ := hw
  rcases h with ⟨t0, kk, e, l, nd, h1⟩ | ⟨t0, kk, e, l, nd, h1⟩
  · rcases h1 with ⟨z, _⟩ | ⟨_, o, h1⟩
    · cases z
    · refine ⟨o, _, .inl ⟨_, h1, rfl⟩, ⟨fun H1 i d p ed => ?_, fun H1 i p hi => ⟨by rw [p, h1], by rw [zip_len e l]; simpa using hi⟩, fun H1 H2 Wp p k m nw => base _ hm H1 H2 Wp p k nw (by rw [h1]; simp), fun H1 p b hb => by rw [List.mem_singleton.mp hb, p]; exact hm, fun b hb => by cases hb⟩⟩
      rw [List.getElem?_map] at ed
      cases ek : kvs[i]? with
      | none => rw [ek] at ed; cases ed
      | some kv =>
        rw [ek] at ed
        cases ed
        obtain ⟨kd, dd⟩ := kv
        obtain ⟨k, v, m, g1, g2, _⟩ := hw.getK e ek
        refine ⟨⟨by rw [p, h1], ?_⟩, fun x H3 y => ?_⟩
        · exact (List.getElem?_eq_some_iff.mp g1).1
        · obtain ⟨rfl, k', v', g3, rfl⟩ := y
          rw [g1] at g3
          cases g3
          exact ⟨fun _ _ k => k, p, [], by rw [← g2]; exact rp_kD, by simp⟩
  · rcases h1 with ⟨z, _⟩ | ⟨_, o, h1⟩
    · cases z
    · refine ⟨o, _, .inr ⟨_, h1, rfl⟩, ⟨fun H1 i d p ed => ?_, fun H1 i p hi => ⟨by rw [p, h1], by rw [zip_len e l]; simpa using hi⟩, fun H1 H2 Wp p k m nw => base _ hm H1 H2 Wp p k nw (by rw [h1]; simp), fun H1 p b hb => by rw [List.mem_singleton.mp hb, p]; exact hm, fun b hb => by cases hb⟩⟩
      rw [List.getElem?_map] at ed
      cases ek : kvs[i]? with
      | none => rw [ek] at ed; cases ed
      | some kv =>
        rw [ek] at ed
        cases ed
        obtain ⟨kd, dd⟩ := kv
        obtain ⟨k, v, m, g1, g2, _⟩ := hw.getK e ek
        refine ⟨⟨by rw [p, h1], ?_⟩, fun x H3 y => ?_⟩
        · exact (List.getElem?_eq_some_iff.mp g1).1
        · obtain ⟨rfl, k', v', q, g3, rfl, hq⟩ := y
          rw [g1] at g3
          cases g3
          exact ⟨fun _ _ k => k, p, [], by rw [← g2]; exact rp_kT hq, by simp⟩
def itemD (kv : D × D) : D := .tup [kv.1, kv.2]
/-- the pairs of a locked dict -/
theorem walk_items {t : Bool} {kvs : List (D × D)} {a : Addr} {ws : List V} (h : DctAt ⟨t, true⟩ H a (kvs.map (·.1)) ws) (hw : RpP G H kvs ws []) : ∃ o J, ((∃ ks, H a = some (.frz o (.dK ks)) ∧ J = Iti a o ks) ∨ ∃ ks, H a = some (.frz o (.dT ks)) ∧ J = ItiT a o ks) ∧
    Walk G J (kvs.map itemD) [] [a] (fun H' => H' a = H a ∧ RpP G H' kvs ws []) := by
  have hm := h.mut
  have base : ∀ (u : Option HO), ∀ H1 H2 (Wp : Addr → Prop), H1 a = u → Keeps H1 H2 Wp → (∀ b ∈ [a], ¬ Wp b) → u ≠ none → H2 a = u := fun u H1 H2 Wp e k nw hu => by
    cases u with
    | none => exact absurd rfl hu
    | some o => exact k a o e (nw a (by simp))
  rcases h with ⟨t0, kk, e, l, nd, h1⟩ | ⟨t0, kk, e, l, nd, h1⟩
  · rcases h1 with ⟨z, _⟩ | ⟨_, o, h1⟩
    · cases z
    · refine ⟨o, _, .inl ⟨_, h1, rfl⟩, ⟨fun H1 i d p ed => ?_, fun H1 i p hi => ⟨by rw [p.1, h1], by rw [zip_len e l]; simpa using hi⟩, fun H1 H2 Wp p k m nw => ⟨base _ H1 H2 Wp p.1 k nw (by rw [h1]; simp), p.2.keep k m (by simp)⟩, fun H1 p b hb => by rw [List.mem_singleton.mp hb, p.1]; exact hm, fun b hb => by cases hb⟩⟩
      rw [List.getElem?_map] at ed
      cases ek : kvs[i]? with
      | none => rw [ek] at ed; cases ed
      | some kv =>
        rw [ek] at ed
        cases ed
        obtain ⟨kd, dd⟩ := kv
        obtain ⟨k, v, m, g1, g2, g3, g4⟩ := p.2.getK e ek
        have hm0 : m = [] := List.eq_nil_iff_forall_not_mem.mpr fun x hx => by have := g4 x hx; cases this
        subst hm0
        refine ⟨⟨by rw [p.1, h1], ?_⟩, fun x H3 y => ?_⟩
        · exact (List.getElem?_eq_some_iff.mp g1).1
        · obtain ⟨T, k', v', g5, rfl, hT, rfl⟩ := y
          rw [g1] at g5
          cases g5
          have kx := ext_upd (o := .tup [kV k, v]) hT
          have r0 : RpL G H1 [kD k, dd] [kV k, v] [] := by
            simp only [RpL]
            exact ⟨_, _, [], [], rfl, rp_kD, ⟨v, [], [], [], rfl, g3, ⟨rfl, rfl⟩, rfl⟩, rfl⟩
          refine ⟨kx, ⟨?_, p.2.keep (W := fun _ => False) (fun b o e _ => kx b o e) (fun b w => w.elim) (by simp)⟩, [], ?_, by simp⟩
          · rw [upd_ne (fun z => by rw [← z, p.1, h1] at hT; cases hT)]; exact p.1
          · rw [← g2]
            exact Rp.newT hT r0
  · rcases h1 with ⟨z, _⟩ | ⟨_, o, h1⟩
    · cases z
    · refine ⟨o, _, .inr ⟨_, h1, rfl⟩, ⟨fun H1 i d p ed => ?_, fun H1 i p hi => ⟨by rw [p.1, h1], by rw [zip_len e l]; simpa using hi⟩, fun H1 H2 Wp p k m nw => ⟨base _ H1 H2 Wp p.1 k nw (by rw [h1]; simp), p.2.keep k m (by simp)⟩, fun H1 p b hb => by rw [List.mem_singleton.mp hb, p.1]; exact hm, fun b hb => by cases hb⟩⟩
      rw [List.getElem?_map] at ed
      cases ek : kvs[i]? with
      | none => rw [ek] at ed; cases ed
      | some kv =>
        rw [ek] at ed
        cases ed
        obtain ⟨kd, dd⟩ := kv
        obtain ⟨k, v, m, g1, g2, g3, g4⟩ := p.2.getK e ek
        have hm0 : m = [] := List.eq_nil_iff_forall_not_mem.mpr fun x hx => by have := g4 x hx; cases this
        subst hm0
        refine ⟨⟨by rw [p.1, h1], ?_⟩, fun x H3 y => ?_⟩
        · exact (List.getElem?_eq_some_iff.mp g1).1
        · obtain ⟨T, k', v', q, g5, rfl, hT, hq, rfl⟩ := y
          rw [g1] at g5
          cases g5
          have kx := ext_upd (o := .tup [V.ref q, v]) hT
          have r0 : RpL G H1 [kT k, dd] [.ref q, v] [] := by
            simp only [RpL]
            exact ⟨_, _, [], [], rfl, rp_kT hq, ⟨v, [], [], [], rfl, g3, ⟨rfl, rfl⟩, rfl⟩, rfl⟩
          refine ⟨kx, ⟨?_, p.2.keep (W := fun _ => False) (fun b o e _ => kx b o e) (fun b w => w.elim) (by simp)⟩, [], ?_, by simp⟩
          · rw [upd_ne (fun z => by rw [← z, p.1, h1] at hT; cases hT)]; exact p.1
          · rw [← g2]
            exact Rp.newT hT r0
end
/-! ### iterables -/
abbrev Rr0 (Rr : It → Hp → Prop) (J : It) (H : Hp) : Prop := Rr J H
def keysOf (d : D) (e : En) : Rt (List D) := match d with
  | .dct ⟨_, true⟩ kvs => .ok (kvs.map (·.1)) e
  | _ => .bad
def itsOf (d : D) (e : En) : Rt (List D) := match d with
  | .dct ⟨_, true⟩ kvs => if pureL (kvs.map (·.2)) = true then .ok (kvs.map itemD) e else .bad
  | _ => .bad
def iKeysV (m : EM) : AM := fun env => (m env).bind keysOf
def iItemsV (m : EM) : AM := fun env => (m env).bind itsOf
section
variable {X : Cx} {xv : XV} {μ : List Md} {W : WX} {pos apos cpos tpos : Pos} {e tg : Expr} {ro : Bool} {md : Md} {m : EM} {elts : List Expr} {kk : Nat} {i : Nat} {x : Str}
/-- a name that is locked -/
theorem v_nameL (h : PE X (.Name x pos) (tVar i)) (hm : (mdAt μ i).isR = false ∧ (mdAt μ i).isD = false := by decide) : PEV X xv μ W (.Name x pos) true .s (mVar i) := by
  refine ⟨h.imp fun σ H Q ⟨env, N, R, q⟩ => ?_, fun _ => mVar_ro i⟩
  unfold mVar at q
  split at q
  · rename_i d e
    obtain ⟨v, h1, h2⟩ := R.rep i d e
    refine ⟨v, h1, q v H N (N i) R .refl h2 ⟨fun a ha => .inl ⟨i, ha⟩, fun _ a ha w => ?_, fun a w => absurd w Own.noS, fun a w => absurd w Own.noS⟩⟩
    obtain ⟨j, d', e', o⟩ := w
    by_cases hj : i = j
    · subst hj
      rcases o with o | o
      · rw [hm.2] at o; cases o.1
      · rw [hm.1] at o; cases o.1
    · exact (R.uq j d' a e' o).2 i hj ha
  · exact q.elim
/-- a dict's keys -/
theorem i_keysV (h : PEV X xv μ W e ro md m) (hm : md ≠ .al := by decide) : PIV X xv μ W tg e (iKeysV m) := by
  refine ⟨PI.imp (pi_keys h.pe) fun σ H Rr ⟨env, N, R0, q⟩ => ⟨env, N, R0, ?_⟩⟩
  unfold iKeysV at q
  cases e1 : m env with
  | bad => rw [e1] at q; exact q
  | exc x env1 => rw [e1] at q; exact q
  | ok d env1 =>
    rw [e1] at q
    intro v H1 N1 n R1 S1 r V
    simp only [Rt.bind_ok] at q
    unfold keysOf at q
    split at q
    · rename_i t kvs
      simp only [Rp] at r
      obtain ⟨a, ws, n', rfl, h1, h2, rfl⟩ := r
      obtain ⟨o, J, hj, wk⟩ := walk_keys (G := gx X xv) h1 h2.len ⟨_, h2⟩
      have fin : Rr0 Rr J H1 := q J H1 N1 [] [a] _ R1 (S1.mono (by simp)) wk rfl (fun b hb w => V.nown hm b (by simp at hb ⊢; exact .inl hb) w.own) (by simp) (by simp)
      refine ⟨a, o, rfl, ?_⟩
      rcases hj with ⟨ks, g1, rfl⟩ | ⟨ks, g1, rfl⟩
      · exact .inl ⟨ks, g1, fin⟩
      · exact .inr ⟨ks, g1, fin⟩
    · exact q.elim
theorem i_itemsV (h : PEV X xv μ W e ro md m) (hm : md ≠ .al := by decide) (hbase : attributeBase e "items" X.env (eval e X.env) = eval e X.env := by rfl) (hline : (apos.endLine == cpos.line) = true := by rfl) :
    PIV X xv μ W (.Tuple elts kk tpos) (.Call (.Attribute e "items" apos) [] [] cpos) (iItemsV m) := by
  refine ⟨PI.imp (pi_itemsT h.pe hbase hline) fun σ H Rr ⟨env, N, R0, q⟩ => ⟨env, N, R0, ?_⟩⟩
  unfold iItemsV at q
  cases e1 : m env with
  | bad => rw [e1] at q; exact q
  | exc x env1 => rw [e1] at q; exact q
  | ok d env1 =>
    rw [e1] at q
    intro v H1 N1 n R1 S1 r V
    simp only [Rt.bind_ok] at q
    unfold itsOf at q
    split at q
    · rename_i t kvs
      split at q
      · rename_i hp
        simp only [Rp] at r
        obtain ⟨a, ws, n', rfl, h1, h2, rfl⟩ := r
        have := h2.pure hp
        subst this
        obtain ⟨o, J, hj, wk⟩ := walk_items (G := gx X xv) h1 h2
        have fin : Rr0 Rr J H1 := q J H1 N1 [] [a] _ R1 (S1.mono (by simp)) wk ⟨rfl, h2⟩ (fun b hb w => V.nown hm b hb w.own) (by simp) (by simp)
        refine ⟨a, o, rfl, ?_⟩
        rcases hj with ⟨ks, g1, rfl⟩ | ⟨ks, g1, rfl⟩
        · exact .inl ⟨ks, g1, fin⟩
        · exact .inr ⟨ks, g1, fin⟩
      · exact q.elim
    · exact q.elim
/-- the keys of a dict that a locked name owns -/
theorem i_keysN (h : PE X (.Name x pos) (tVar i)) (hl : (mdAt μ i).lock = true := by decide) : PIV X xv μ W tg (.Name x pos) (iKeysV (mVar i)) := by
  refine ⟨PI.imp (pi_keys h) fun σ H Rr ⟨env, N, R, q⟩ => ?_⟩
  unfold iKeysV mVar at q
  split at q
  · rename_i d ed
    obtain ⟨v, hv, r⟩ := R.rep i d ed
    refine ⟨v, hv, ?_⟩
    simp only [Rt.bind_ok] at q
    unfold keysOf at q
    split at q
    · rename_i t kvs
      simp only [Rp] at r
      obtain ⟨a, ws, n', rfl, h1, h2, hn⟩ := r
      obtain ⟨o, J, hj, wk⟩ := walk_keys (G := gx X xv) h1 h2.len ⟨_, h2⟩
      have fin : Rr0 Rr J H := q J H N [] [a] _ R .refl wk rfl (fun b hb ⟨j, dj, ej, w⟩ => by
        rw [List.mem_singleton] at hb
        subst hb
        have hin : b ∈ N i := by rw [hn]; simp
        by_cases hj : j = i
        · subst hj
          have := w.1
          rw [hl] at this
          cases this
        · exact (R.uq j dj b ej w.2).2 i (Ne.symm hj) hin) (by simp) (by simp)
      refine ⟨a, o, rfl, ?_⟩
      rcases hj with ⟨ks, g1, rfl⟩ | ⟨ks, g1, rfl⟩
      · exact .inl ⟨ks, g1, fin⟩
      · exact .inr ⟨ks, g1, fin⟩
    · exact q.elim
  · exact q.elim
end
end VS
/-! VS: {k: e, ..} with constant texts as keys. -/
namespace VS
open PySem PySem.Spec PyProof.Rows L2
structure PDV (X : Cx) (xv : XV) (μ : List Md) (W : WX) (pos : Pos) (keys : List (Option Expr)) (vals : List Expr) (ks : List Str) (ro al dp : Bool) (m : AM) : Prop where
  ok : ∃ trs, PPs X pos keys vals trs ∧ ∀ σ H (Q : List V → Hp → Prop) (Qp : List (V × V) → Hp → Prop), (∀ vs H', Q vs H' → Qp ((ks.zip vs).map fun kv => (V.str kv.1, kv.2)) H') → tL (gx X xv) μ W ro al dp m σ H Q → tPairs trs σ H Qp
section
variable {X : Cx} {xv : XV} {μ : List Md} {W : WX} {pos p0 : Pos} {e : Expr} {ro1 ro2 al2 dp2 : Bool} {md1 : Md} {m : EM} {ms : AM} {keys : List (Option Expr)} {vals : List Expr} {ks : List Str}
theorem tL_cons (h1 : ro1 = true → ∀ env d e', m env = .ok d e' → e' = env) (al : md1 = .al → ro2 = true) {σ : L2.St} {H : Hp} {Q : List V → Hp → Prop} (q : tL (gx X xv) μ W (ro1 && ro2) (decide (md1 = .al) || al2) (decide (md1 = .d) && dp2) (aCons m ms) σ H Q) :
    tE (gx X xv) μ W ro1 md1 m σ H fun v H1 => tL (gx X xv) μ W ro2 al2 dp2 ms σ H1 fun vs H2 => Q (v :: vs) H2 := by
  obtain ⟨env, N, R0, q⟩ := q
  refine ⟨env, N, R0, ?_⟩
  unfold aCons at q
  cases e1 : m env with
  | bad => rw [e1] at q; exact q
  | exc x env1 => rw [e1] at q; exact q
  | ok d env1 =>
    rw [e1] at q
    simp only [Rt.bind_ok, aCons2] at q
    intro v1 H1 N1 n1 R1 S1 r1 V1
    refine ⟨env1, N1, R1, ?_⟩
    cases e2 : ms env1 with
    | bad => rw [e2] at q; exact q
    | exc x env2 => rw [e2] at q; exact XQ.pre S1 q
    | ok ds env2 =>
      rw [e2] at q
      simp only [Rt.bind_ok, aCons3] at q
      intro vs H2 N2 n2 R2 S2 r2 A2 D2
      have r1' : Rp (gx X xv) H2 d v1 n1 := by
        by_cases z : md1 = .al
        · have := al z
          subst this
          exact S2.rpro r1
        · exact S2.rp R1 r1 (V1.nown z)
      refine q _ H2 N2 (n1 ++ n2) R2 (S1.trans S2) (by simp only [RpL]; exact ⟨v1, vs, n1, n2, rfl, r1', r2, rfl⟩) ⟨fun a ha => ?_, fun z a ha w => ?_⟩ fun z a ha => ?_
      · rcases List.mem_append.mp ha with ha | ha
        · exact V1.sub a ha
        · exact (A2.sub a ha).elim (S1.all a) fun y => .inr (S1.dom a y)
      · rw [Bool.or_eq_false_iff] at z
        have z1 : md1 ≠ .al := by simpa using z.1
        rcases List.mem_append.mp ha with ha | ha
        · rcases S2.own a w with y | y
          · exact V1.nown z1 a ha y
          · exact r1.there ha y
        · exact A2.nown z.2 a ha w
      · rw [Bool.and_eq_true] at z
        have z1 : md1 = .d := by simpa using z.1
        subst z1
        have u1 : ∀ b ∈ n1, n1.count b = 1 ∧ ¬ allS N1 b := fun b hb => V1.uq b (.inl ⟨rfl, hb⟩)
        have ap : ∀ b ∈ n1, b ∉ n2 := fun b hb hb2 => by
          rcases A2.sub b hb2 with y | y
          · exact (u1 b hb).2 y
          · exact r1.there hb y
        rw [List.count_append]
        rcases List.mem_append.mp ha with ha | ha
        · refine ⟨by rw [(u1 a ha).1, List.count_eq_zero.mpr (ap a ha)], fun y => ?_, V1.osub a (.inl ⟨rfl, ha⟩)⟩
          rcases S2.all a y with y | y
          · exact (u1 a ha).2 y
          · exact r1.there ha y
        · obtain ⟨w1, w2, w3⟩ := D2 z.2 a ha
          refine ⟨by rw [w1, List.count_eq_zero.mpr fun y => ap a y ha], w2, ?_⟩
          rcases w3 with w3 | w3
          · exact S1.wr a w3
          · exact .inr (S1.dom a w3)
theorem d_nil : PDV X xv μ W pos [] [] [] true false true aNil := ⟨[], pps_nil, fun σ H Q Qp i ⟨env, N, R, q⟩ => i [] H (q [] H N [] R .refl (by simp [RpL]) ⟨by simp, by simp⟩ fun _ a ha => by cases ha)⟩
theorem d_cons {k : Str} {j : Nat} (h1 : PEV X xv μ W e ro1 md1 m) (h2 : PDV X xv μ W pos keys vals ks ro2 al2 dp2 ms) (al : md1 = .al → ro2 = true := by decide) :
    PDV X xv μ W pos (some (.Constant (.str k) j p0) :: keys) (e :: vals) (k :: ks) (ro1 && ro2) (decide (md1 = .al) || al2) (decide (md1 = .d) && dp2) (aCons m ms) := by
  obtain ⟨trs, h, i⟩ := h2.ok
  refine ⟨(tC (.str k), _) :: trs, pps_cons pe_str h1.pe h, fun σ H Q Qp f q => ?_⟩
  have := tL_cons h1.rok al q
  obtain ⟨env, N, R, this⟩ := this
  refine ⟨env, N, R, ?_⟩
  cases e1 : m env with
  | bad => rw [e1] at this; exact this
  | exc x e2 => rw [e1] at this; exact this
  | ok d e2 =>
    rw [e1] at this
    exact fun v H' N' n R' S' r V => i σ H' _ _ (fun vs H2 hq => f (v :: vs) H2 hq) (this v H' N' n R' S' r V)
end
theorem mergeK_new : ∀ {ks : List Str} {vs : List V} {acc : List (Key × V)}, ks.Nodup → (∀ k ∈ ks, Sum.inr k ∉ acc.map (·.1)) → mergeK acc ((ks.zip vs).map fun kv => (Sum.inr kv.1, kv.2)) = acc ++ (ks.zip vs).map fun kv => (Sum.inr kv.1, kv.2)
  | [], vs, acc, _, _ => by simp [mergeK]
  | k :: ks, [], acc, _, _ => by simp [mergeK]
  | k :: ks, v :: vs, acc, nd, h => by
    rw [List.nodup_cons] at nd
    have hk : ¬ (acc.any fun kv => decide (kv.1 = Sum.inr k)) = true := by
      rw [List.any_eq_true]
      rintro ⟨kv, h1, h2⟩
      exact h k (by simp) (List.mem_map.mpr ⟨kv, h1, by simpa using h2⟩)
    have e : putK acc (Sum.inr k) v = acc ++ [(Sum.inr k, v)] := by
      unfold putK
      rw [if_neg (by simpa using hk)]
    have ih := mergeK_new (ks := ks) (vs := vs) (acc := acc ++ [(Sum.inr k, v)]) nd.2 fun k' hk' => by
      rw [List.map_append, List.mem_append]
      rintro (z | z)
      · exact h k' (by simp [hk']) z
      · simp at z
        exact nd.1 (z ▸ hk')
    rw [List.zip_cons_cons, List.map_cons]
    show mergeK (putK acc (Sum.inr k) v) _ = _
    rw [e, ih]
    simp
def mDctD2 (ks : List Str) (ds : List D) (e : En) : Rt D := .ok (.dct ⟨false, false⟩ ((ks.map D.str).zip ds)) e
def mDctD (ks : List Str) (ms : AM) : EM := fun env => (ms env).bind (mDctD2 ks)
theorem RpP.ofL {G : Gt} {H : Hp} : ∀ {ks : List D} {ds : List D} {vs : List V} {n : List Addr}, ks.length = ds.length → RpL G H ds vs n → RpP G H (ks.zip ds) vs n
  | [], [], _, _, _, h => by simp only [RpL] at h; simp only [List.zip_nil_left, RpP]; exact h
  | [], _ :: _, _, _, l, _ => by simp at l
  | _ :: _, [], _, _, l, _ => by simp at l
  | k :: ks, d :: ds, vs, n, l, h => by
    simp only [RpL] at h
    obtain ⟨v, vs', n1, n2, rfl, h1, h2, rfl⟩ := h
    simp only [List.zip_cons_cons, RpP]
    exact ⟨v, vs', n1, n2, rfl, h1, RpP.ofL (by simpa using l) h2, rfl⟩
section
variable {X : Cx} {xv : XV} {μ : List Md} {W : WX} {pos : Pos} {ro al : Bool} {ms : AM} {keys : List (Option Expr)} {vals : List Expr} {ks : List Str}
theorem v_dctD (h : PDV X xv μ W pos keys vals ks ro al true ms) (lz : ∀ env ds e', ms env = .ok ds e' → ds.length = ks.length) (nd : ks.Nodup := by decide) (h15 : ks.length ≤ 15 := by decide) (hall : keys.all (·.isSome) = true := by rfl) (hl : keys.length = vals.length := by rfl) (h0 : keys ≠ [] := by simp) (hk15 : keys.length ≤ 15 := by decide) :
    PEV X xv μ W (.Dict keys vals pos) false .d (mDctD ks ms) := by
  obtain ⟨trs, hp, i⟩ := h.ok
  refine ⟨PE.imp (pe_disp hp hall hl h0 hk15) fun σ H Q ⟨env, N, R, q⟩ => fun p hn => ?_, fun z => by cases z⟩
  have k := ext_upd (o := .dK []) hn
  have np : ∀ j, p ∉ N j := fun j z => R.there ⟨j, z⟩ hn
  have nH : ∀ b, upd H p (.dK []) b = none → H b = none := fun b hb => by
    by_cases z : b = p
    · rw [z, upd_same] at hb; cases hb
    · rw [upd_ne z] at hb; exact hb
  refine i σ (upd H p (.dK [])) (fun vs H2 => H2 p = some (.dK []) ∧ vs.length = ks.length ∧ Q (.ref p) (upd H2 p (.dK ((ks.zip vs).map fun kv => (Sum.inr kv.1, kv.2))))) _ (fun vs H2 hq => ⟨hq.1, (ks.zip vs).map fun kv => (Sum.inr kv.1, kv.2), by simp [kV], by simp [List.length_zip]; omega, ?_⟩) ⟨env, N, R.ext k, ?_⟩
  · rw [mergeK_new nd (by simp)]
    simpa using hq.2.2
  · unfold mDctD at q
    cases e1 : ms env with
    | bad => rw [e1] at q; exact q
    | exc x e2 => rw [e1] at q; exact fun cls dx H' N' n R' S' ex hn' hs => q cls dx H' N' n R' (((Stp.new (ro := true) k).trans S').mono (by simp)) ex hn' fun a ha => (hs a ha).imp id (nH a)
    | ok ds e2 =>
      rw [e1] at q
      simp only [Rt.bind_ok, mDctD2] at q
      intro vs H2 N2 n R2 S2 r A Dd
      have hlen : ds.length = ks.length := lz _ _ _ e1
      have hp2 : H2 p = some (.dK []) := S2.keep p _ upd_same fun w => by
        obtain ⟨j, z⟩ := w.own.all
        exact np j z
      have np2 : ∀ j, p ∉ N2 j := fun j z => by
        rcases S2.all p ⟨j, z⟩ with ⟨j', y⟩ | y
        · exact np j' y
        · rw [upd_same] at y; cases y
      have npn : p ∉ n := fun z => by
        rcases A.sub p z with ⟨j', y⟩ | y
        · exact np j' y
        · rw [upd_same] at y; cases y
      have vl : vs.length = ks.length := by rw [← r.len, hlen]
      refine ⟨hp2, vl, ?_⟩
      generalize hu : (HO.dK ((ks.zip vs).map fun kv => (Sum.inr kv.1, kv.2))) = u
      have ku : Keeps H2 (upd H2 p u) (· = p) := fun b o e w => by rw [upd_ne w]; exact e
      have mu : ∀ b, b = p → MutO (H2 b) := fun b z => by rw [z, hp2]; trivial
      have R3 : Rep (gx X xv) μ e2 σ (upd H2 p u) N2 := by
        refine ⟨R2.len, fun j dj ej => ?_, R2.emp, R2.uq, R2.exK ku mu fun x hx => rfl⟩
        obtain ⟨w, hw, rw'⟩ := R2.rep j dj ej
        exact ⟨w, hw, rw'.keep ku mu fun b hb z => np2 j (z ▸ hb)⟩
      have S3 : Stp μ false env H N e2 (upd H2 p u) N2 := {
        keep := fun b o eb w => by
          have hb : b ≠ p := fun z => by rw [z, hn] at eb; cases eb
          rw [upd_ne hb]
          exact S2.keep b o (k b o eb) w
        dom := fun b hb => by
          have z : b ≠ p := fun z => by rw [z, upd_same] at hb; cases hb
          rw [upd_ne z] at hb
          exact nH b (S2.dom b hb)
        own := fun b h => (S2.own b h).imp id (nH b)
        wr := fun b h => (S2.wr b h).imp id (nH b)
        all := fun b h => (S2.all b h).imp id (nH b)
        lock := S2.lock
        ro := fun z => by cases z }
      have r3 : RpL (gx X xv) (upd H2 p u) ds vs n := r.keep ku mu fun b hb z => npn (z ▸ hb)
      refine q (.ref p) _ N2 (p :: n) R3 S3 ?_ ⟨fun b hb => ?_, fun _ b hb w => ?_, fun b o => ?_, fun b o => ?_⟩
      · simp only [Rp]
        refine ⟨p, vs, n, rfl, .inl ⟨rfl, ks.map Sum.inr, ?_, by simp [vl], ?_, .inl ⟨rfl, ?_⟩⟩, RpP.ofL (by simp [hlen]) r3, rfl⟩
        · rw [List.map_fst_zip (by simp [hlen]), List.map_map]
          rfl
        · exact List.Pairwise.map _ (fun a b h z => h (Sum.inr.inj z)) nd
        · rw [upd_same, ← hu, List.zip_map_left]
          rfl
      · rcases List.mem_cons.mp hb with rfl | hb
        · exact .inr hn
        · exact (A.sub b hb).imp id (nH b)
      · rcases List.mem_cons.mp hb with rfl | hb
        · obtain ⟨j, z⟩ := w.all
          exact np2 j z
        · exact (Dd rfl b hb).2.1 w.all
      · have hb := o.mem
        rcases List.mem_cons.mp hb with rfl | hb
        · exact ⟨by rw [List.count_cons_self, List.count_eq_zero.mpr npn], fun ⟨j, z⟩ => np2 j z⟩
        · have hbp : b ≠ p := fun z => npn (z ▸ hb)
          exact ⟨by rw [List.count_cons_of_ne (Ne.symm hbp)]; exact (Dd rfl b hb).1, (Dd rfl b hb).2.1⟩
      · have hb := o.mem
        rcases List.mem_cons.mp hb with rfl | hb
        · exact .inr hn
        · exact (Dd rfl b hb).2.2.imp id (nH b)
theorem aNil_len : ∀ env ds e', aNil env = .ok ds e' → ds.length = 0 := fun env ds e' h => by cases h; rfl
theorem aCons_len {m : EM} {ms : AM} {k : Nat} (h : ∀ env ds e', ms env = .ok ds e' → ds.length = k) : ∀ env ds e', aCons m ms env = .ok ds e' → ds.length = k + 1 := fun env ds e' z => by
  unfold aCons at z
  cases e1 : m env with
  | bad => rw [e1] at z; cases z
  | exc x e2 => rw [e1] at z; cases z
  | ok d e2 =>
    rw [e1] at z
    simp only [Rt.bind_ok, aCons2] at z
    cases e3 : ms e2 with
    | bad => rw [e3] at z; cases z
    | exc x e4 => rw [e3] at z; cases z
    | ok dd e4 =>
      rw [e3] at z
      simp only [Rt.bind_ok, aCons3] at z
      cases z
      rw [List.length_cons, h _ _ _ e3]
end
end VS
/-! VS: places in dicts. -/
namespace VS
open PySem PySem.Spec PyProof.Rows L2
def dSet (kvs : List (D × D)) (k c : D) : List (D × D) := kvs.map fun kv => if keq kv.1 k = true then (kv.1, c) else kv
theorem dSet_keys {kvs : List (D × D)} {k c : D} : (dSet kvs k c).map (·.1) = kvs.map (·.1) := by
  unfold dSet
  rw [List.map_map]
  refine List.map_congr_left fun kv _ => ?_
  simp only [Function.comp_apply]
  split <;> rfl
section
variable {κ : Type} [DecidableEq κ] {f : κ → D} (hf : ∀ a b, keq (f a) (f b) = decide (a = b)) {G : Gt} {H : Hp}
include hf
theorem foc_gen {k : κ} {d : D} : ∀ {kvs : List (D × D)} {kk : List κ} {ws : List V} {n : List Addr}, RpP G H kvs ws n → kk.map f = kvs.map (·.1) → kk.Nodup → dGet kvs (f k) = some d →
    ∃ v n1 m n2, valV (kk.zip ws) k = some v ∧ Rp G H d v m ∧ n = n1 ++ m ++ n2 ∧ ∀ H' d' m' Wp, Keeps H H' Wp → (∀ a, Wp a → MutO (H a)) → (∀ a, a ∈ n1 ∨ a ∈ n2 → ¬ Wp a) → Rp G H' d' v m' → RpP G H' (dSet kvs (f k) d') ws (n1 ++ m' ++ n2)
  | [], kk, ws, n, h, e, _, hd => by simp [dGet] at hd
  | (q, d0) :: r, [], ws, n, h, e, _, hd => by simp at e
  | (q, d0) :: r, a :: kk, ws, n, h, e, nd, hd => by
    simp only [List.map_cons, List.cons.injEq] at e
    obtain ⟨rfl, e⟩ := e
    simp only [RpP] at h
    obtain ⟨v, vs', n1, n2, rfl, h1, h2, rfl⟩ := h
    rw [List.nodup_cons] at nd
    by_cases z : a = k
    · subst z
      have hd0 : dGet ((f a, d0) :: r) (f a) = some d0 := by simp [dGet, hf]
      rw [hd0, Option.some.injEq] at hd
      subst hd
      refine ⟨v, [], n1, n2, valV_pos rfl, h1, by simp, fun H' d' m' Wp kp mu nw rr => ?_⟩
      have hk0 : keq (f a) (f a) = true := by rw [hf]; simp
      have off := map_off hf (v := d') e nd.1
      have es : dSet ((f a, d0) :: r) (f a) d' = (f a, d') :: r := by
        unfold dSet
        rw [List.map_cons, off]
        simp [hk0]
      rw [es]
      simp only [RpP]
      exact ⟨v, vs', m', n2, rfl, rr, h2.keep kp mu fun x hx => nw x (.inr hx), by simp⟩
    · have hk0 : keq (f a) (f k) = false := by rw [hf]; exact decide_eq_false z
      have hd0 : dGet ((f a, d0) :: r) (f k) = dGet r (f k) := by simp [dGet, hf, z]
      rw [hd0] at hd
      obtain ⟨w, k1, m, k2, g1, g2, rfl, g3⟩ := foc_gen h2 e nd.2 hd
      refine ⟨w, n1 ++ k1, m, k2, by rw [List.zip_cons_cons, valV_neg (by simpa using z)]; exact g1, g2, by simp, fun H' d' m' Wp kp mu nw rr => ?_⟩
      have es : dSet ((f a, d0) :: r) (f k) d' = (f a, d0) :: dSet r (f k) d' := by
        unfold dSet
        rw [List.map_cons]
        simp [hk0]
      rw [es]
      simp only [RpP]
      exact ⟨v, vs', n1, k1 ++ m' ++ k2, rfl, h1.keep kp mu fun x hx => nw x (.inl (by simp [hx])), g3 H' d' m' Wp kp mu (fun x hx => nw x (by rcases hx with h | h <;> simp [h])) rr, by simp⟩
end
theorem foc_at {G : Gt} {H : Hp} {t : DK} {kvs : List (D × D)} {k c : D} {a : Addr} {ws : List V} {m nk : List Addr} {vk : V} (hk : isKey t.t k = true) (h1 : DctAt t H a (kvs.map (·.1)) ws) (h2 : RpP G H kvs ws m) (rk : Rp G H k vk nk) (hc : dGet kvs k = some c) :
    ∃ v n1 mm n2, DGet H a vk (some v) ∧ Rp G H c v mm ∧ m = n1 ++ mm ++ n2 ∧ ∀ H' d' m' Wp, Keeps H H' Wp → (∀ a, Wp a → MutO (H a)) → (∀ a, a ∈ n1 ∨ a ∈ n2 → ¬ Wp a) → Rp G H' d' v m' → RpP G H' (dSet kvs k d') ws (n1 ++ m' ++ n2) := by
  rcases h1 with ⟨t0, kk, e, l, nd, h1⟩ | ⟨t0, kk, e, l, nd, h1⟩ <;> rw [t0] at hk
  · obtain ⟨k, rfl⟩ := isKey_F hk
    have := key_F rk
    subst this
    obtain ⟨v, n1, mm, n2, g1, g2, g3, g4⟩ := foc_gen (fun a b => keq_kD) h2 e nd hc
    exact ⟨v, n1, mm, n2, by rw [← g1]; exact DGet.rk h1.rd, g2, g3, g4⟩
  · obtain ⟨k, rfl⟩ := isKey_T hk
    simp only [kT, Rp] at rk
    obtain ⟨b, vs, rfl, hb, rl⟩ := rk
    have := key_T rl
    subst this
    obtain ⟨v, n1, mm, n2, g1, g2, g3, g4⟩ := foc_gen (fun a b => keq_kT) h2 e nd hc
    exact ⟨v, n1, mm, n2, by rw [← g1]; exact DGet.rt h1.rd hb, g2, g3, g4⟩
def pKey4 (p : Plc) (k : D) (e : En) (t : DK) (kvs : List (D × D)) : Option D → Rt Plc
  | some c => .ok (c, fun c' => p.2 (.dct t (dSet kvs k c'))) e
  | none => .bad
def pKey3 (p : Plc) (k : D) (e : En) : Rt Plc := match p.1 with
  | .dct t kvs => if isKey t.t k = true then pKey4 p k e t kvs (dGet kvs k) else .bad
  | _ => .bad
def pKey2 (m : EM) (p : Plc) (e : En) : Rt Plc := (m e).bind (pKey3 p)
def pKey (pm : PM) (m : EM) : PM := fun env => (pm env).bind (pKey2 m)
section
variable {X : Cx} {xv : XV} {μ : List Md} {W : WX} {pos : Pos} {i : Nat} {o b e : Expr} {ro ro1 ro2 root al dp : Bool} {md : Md} {m : EM} {pm : PM}
theorem p_key {k : Nat} (hrm : Room k X.A) (h1 : PPV X xv μ W o ro1 i root pm) (h2 : PEV X xv μ W b ro2 md m) (hl : (mdAt μ i).lock = true := by decide) (hs : PlainIx b := by intro _ _; rfl) : PPV X xv μ W (.Subscript o b pos) (ro1 && ro2) i false (pKey pm m) := by
  refine ⟨PE.imp (pe_ix (ix_dct (by have := hrm.un; omega)) h1.pe h2.pe hs) fun σ H Q ⟨env, N, R0, q⟩ => ⟨env, N, R0, ?_⟩, fun z env p e' k => ?_⟩
  · unfold pKey at q
    cases e1 : pm env with
    | bad => rw [e1] at q; exact q
    | exc x env1 => rw [e1] at q; exact q
    | ok p env1 =>
      rw [e1] at q
      simp only [Rt.bind_ok, pKey2] at q
      intro v1 H1 N1 R1 S1 F1
      refine ⟨env1, N1, R1, ?_⟩
      cases e2 : m env1 with
      | bad => rw [e2] at q; exact q
      | exc x env2 => rw [e2] at q; exact XQ.pre S1 q
      | ok dk env2 =>
        rw [e2] at q
        simp only [Rt.bind_ok] at q
        intro v2 H2 N2 n2 R2 S2 r2 V2
        obtain ⟨D0, v0, E1, E2, FR, F2⟩ := S2.foc R1 hl F1 (.inr (.inr (R1.nowr hl)))
        have S12 := S1.trans S2
        obtain ⟨c, rb⟩ := p
        unfold pKey3 at q
        dsimp only at q
        obtain ⟨n1, mm, n3, r, hn, hr, hf⟩ := F2
        split at q
        · rename_i t kvs
          split at q
          · rename_i hk
            cases ec : dGet kvs dk with
            | none => rw [ec] at q; exact q.elim
            | some c' =>
              rw [ec] at q
              simp only [Rp] at r
              obtain ⟨a, ws, m', rfl, g1, g2, rfl⟩ := r
              obtain ⟨w, k1, m2, k2, w1, w2, rfl, w3⟩ := foc_at hk g1 g2 r2 ec
              refine ⟨a, w, rfl, w1, q w H2 N2 R2 S12 ⟨D0, v0, E1, E2, Bool.noConfusion, n1 ++ a :: k1, m2, k2 ++ n3, w2, by rw [hn]; simp, Bool.noConfusion, fun H' d' m' Wp kk mu nw rr => ?_⟩⟩
              have := hf H' (.dct t (dSet kvs dk d')) (a :: (k1 ++ m' ++ k2)) Wp kk mu (fun x hx => nw x (by rcases hx with h | h <;> simp [h])) (by
                simp only [Rp]
                refine ⟨a, ws, _, rfl, ?_, w3 H' d' m' Wp kk mu (fun x hx => nw x (by rcases hx with h | h <;> simp [h])) rr, rfl⟩
                rw [dSet_keys]
                exact g1.keep kk (nw a (by simp)))
              simpa using this
          · exact q.elim
        · exact q.elim
  · rw [Bool.and_eq_true] at z
    unfold pKey at k
    cases e1 : pm env with
    | bad => rw [e1] at k; cases k
    | exc x env1 => rw [e1] at k; cases k
    | ok d1 env1 =>
      rw [e1] at k
      simp only [Rt.bind_ok, pKey2] at k
      cases e2 : m env1 with
      | bad => rw [e2] at k; cases k
      | exc x env2 => rw [e2] at k; cases k
      | ok ds env2 =>
        rw [e2] at k
        simp only [Rt.bind_ok, pKey3] at k
        have w := (h2.rok z.2 _ _ _ e2).trans (h1.rok z.1 _ _ _ e1)
        split at k
        · split at k
          · unfold pKey4 at k
            split at k
            · cases k; exact w
            · cases k
          · cases k
        · cases k
end
end VS
/-! VS: list(text). -/
namespace PySem.W
open PySem PySem.Calls PyProof.Rows PyProof.V PySem.Spec
section
variable {prog : Program} {w : World} {A : Around} {E : Value → Shared → Prop} {s : Shared} {x : Str} {t : Tok}
theorem vsl_hint {Q : Bool → Shared → Prop} (h : Q false s) : wpAny (model prog w) A (Builtin.List.listLengthHint (.str x t)) Q E s := by
  have hT := typeIs_str s x t
  unfold Builtin.List.listLengthHint
  refine wpAny_bind (wpAny_specialOf hT PySem.F.slot_str_len.lookup ?_)
  generalize hid : ("str.__len__" : String) = id0
  wp_delta
  rw [show splitId id0 = some ("str", "__len__") from by subst hid; decide +kernel]
  subst hid
  refine wpAny_bind (wpAny_isInstance (T := "str") (b := true) hT (by rw [isSubtype_type]; kernel_rfl) ?_)
  refine wpAny_ite_split (fun hab => absurd hab (by decide)) (fun _ => ?_)
  refine wpAny_ite_split (fun _ => ?_) (fun hab => absurd (by decide +kernel) hab)
  refine wpAny_bind (wpAny_typeOf hT ?_)
  exact wpAny_pure h
theorem vsl_extend {R : Result → Shared → Prop} (hh : A.handled = none) (S : Addr) (res : Value) (c₀ : Nat) (hS : s.heap.get? S = some { cls := .type "list", data := .seq #[] c₀ })
    (hR : ∀ h' tk acc' c', (∀ b o, b ≠ S → s.heap.get? b = some o → h'.get? b = some o) → h'.get? S = some { cls := .type "list", dict := none, data := .seq acc' c', slots := #[] } → ItemsOf (SignAt x) acc' x.cps.size → R (.ok (.ret res)) { s with heap := h', toks := tk }) (hn : x.cps.size ≤ sizeLine) :
    wpAny (model prog w) A.in1 (Builtin.List.listExtendWith (.ref S) (.str x t) res)
      (fun fin s' => match fin with | .done f => R (.ok f) s' | .again c' => c'.quiet = true ∧ codeAny (model prog w) A c' R s') (fun e s' => R (.error e) s') s := by
  have hSI : S ≠ s.heap.objs.size := Nat.ne_of_lt (Heap.lt_size hS)
  have hSf : S ∉ [s.heap.objs.size] := by simp only [List.mem_cons, List.not_mem_nil, or_false]; exact hSI
  unfold Builtin.List.listExtendWith
  refine wpAny_bind (wpAny_typeOf (T := "str") (typeIs_str s x t) ?_)
  have h1 : Builtin.List.listSameRef (.ref S) (.str x t) = false := by simp [Builtin.List.listSameRef]
  have h2 : (Value.type "str" == Value.type "list") = false := by decide
  have h3 : (Value.type "str" == Value.type "tuple") = false := by decide
  simp only [h1, h2, h3, Bool.or_false, Bool.false_eq_true, if_false]
  refine wpAny_bind (wpAny_pyIter_str fun oI St WW st => ?_)
  have W := WW A.in1 hh
  have key : ∀ (h : Heap) (c₁ tk : Nat), St 0 h → (∀ b o, b ≠ S → s.heap.get? b = some o → h.get? b = some o) →
      h.get? S = some { cls := .type "list", data := .seq #[] c₁ } → codeAny (model prog w) A (.builtin "list.extend.loop" ⟨[.ref S, .ref s.heap.objs.size, res], []⟩) R { s with heap := h, toks := tk } := by
    intro h c₁ tk hst hk hS₁
    refine codeAny_extend_loopS W.toS hn S hSf res x.cps.size 0 _ #[] c₁ rfl (Nat.zero_le _) hst hS₁ (ItemsOf.nil _) fun s' acc' c' hm hS' hacc => ?_
    rw [Moved.eq_with hm]
    refine hR s'.heap s'.toks acc' c' (fun b o hb e => hm.heap b o (fun hmem => ?_) (hk b o hb e)) hS' hacc
    rcases List.mem_cons.mp hmem with e' | hmem
    · exact hb e'
    · exact absurd (Heap.lt_size e) (by rw [List.mem_singleton.mp hmem]; exact Nat.lt_irrefl _)
  have hS₁ := Heap.get?_push_of_some oI hS
  refine wpAny_bind (wpAny_holding (vsl_hint ?_))
  refine wpAny_ite_split (fun z => Bool.noConfusion z) (fun _ => wpAny_pure ⟨plainId_quiet PySem.F.plain_extend_loop _, key _ c₀ _ st (fun b o _ e => Heap.get?_push_of_some _ e) hS₁⟩)
theorem vsl_init {R : Result → Shared → Prop} (hh : A.handled = none) (S : Addr) (hS : s.heap.get? S = some { cls := .type "list", data := .seq #[] })
    (hR : ∀ h' tk acc' c', (∀ b o, b ≠ S → s.heap.get? b = some o → h'.get? b = some o) → h'.get? S = some { cls := .type "list", dict := none, data := .seq acc' c', slots := #[] } → ItemsOf (SignAt x) acc' x.cps.size → R (.ok (.ret .none)) { s with heap := h', toks := tk }) (hn : x.cps.size ≤ sizeLine) :
    wpAny (model prog w) A.in1 (Builtin.«list.__init__» ⟨[.ref S, .str x t], []⟩)
      (fun fin s' => match fin with | .done f => R (.ok f) s' | .again c' => c'.quiet = true ∧ codeAny (model prog w) A c' R s') (fun e s' => R (.error e) s') s := by
  show wpAny _ _ (do let old ← Builtin.List.listItems (.ref S); Builtin.List.listUpdate (.ref S) (fun _ => #[]); letGo old.toList.reverse; Builtin.List.listExtendWith (.ref S) (.str x t) .none) _ _ s
  refine wpAny_bind ?_
  unfold Builtin.List.listItems
  refine wpAny_bind (wpAny_seqItems hS rfl (wpAny_pure ?_))
  show wpAny _ _ (updateSeq S (fun _ => #[]) >>= fun _ => letGo (#[] : Array Value).toList.reverse >>= fun _ => Builtin.List.listExtendWith (.ref S) (.str x t) .none) _ _ s
  refine wpAny_bind (wpAny_updateSeq hS rfl ?_)
  have hS₂ := Heap.get?_update_self (Obj.mapSeq (fun _ => (#[] : Array Value))) hS rfl
  have oth : ∀ b o, b ≠ S → s.heap.get? b = some o → (s.heap.update S (Obj.mapSeq (fun _ => (#[] : Array Value)))).get? b = some o :=
    fun b o hb e => (Heap.get?_update_other _ _ (Ne.symm hb)).trans e
  refine wpAny_bind (wpAny_letGo ?_)
  refine vsl_extend hh S .none _ hS₂ (fun h' tk acc' c' hk hS' hacc => ?_) hn
  exact hR h' tk acc' c' (fun b o hb e => hk b o hb (oth b o hb e)) hS' hacc
theorem vsl_call {Q : Value → Shared → Prop} (hh : A.handled = none) (hn : x.cps.size ≤ sizeLine)
    (hQ : ∀ h' tk acc' c', (∀ b o, s.heap.get? b = some o → h'.get? b = some o) → h'.get? s.heap.objs.size = some { cls := .type "list", dict := none, data := .seq acc' c', slots := #[] } → ItemsOf (SignAt x) acc' x.cps.size → Q (.ref s.heap.objs.size) { s with heap := h', toks := tk }) :
    wpAny (model prog w) A (call (.type "list") [.str x t]) Q E s := by
  refine callType_codes (Q₁ := fun obj s₁ => obj = .ref s.heap.objs.size ∧ s₁ = { s with heap := s.heap.push { cls := .type "list", data := .seq #[] } }) PySem.F.called_list (PySem.F.typeCall_list_1 _) PySem.F.entry_list_init
    (code_list_new _ ⟨rfl, rfl⟩) fun obj s₁ h₁ => ?_
  obtain ⟨rfl, rfl⟩ := h₁
  have hS : (s.heap.push { cls := .type "list", data := .seq #[] }).get? s.heap.objs.size = some { cls := .type "list", data := .seq #[] } := Heap.get?_push_size _ rfl
  refine ⟨⟨_, hS, rfl⟩, PySem.F.args_list_init_2 _ _, vsl_init (A := A.in1) hh _ hS (fun h' tk acc' c' hk hS' hacc => ?_) hn⟩
  exact ⟨rfl, hQ h' tk acc' c' (fun b o e => hk b o (Nat.ne_of_lt (Heap.lt_size e)) (Heap.get?_push_of_some _ e)) hS' hacc⟩
end
end PySem.W
namespace L2
open PySem PySem.Spec PyProof.Rows
def charsV (x : Str) : List V := x.cps.toList.map fun c => V.str ⟨#[c]⟩
def rListS : List V → Hp → VK → Prop := fun xs H Q => ∃ x : Str, xs = [.str x] ∧ x.cps.size ≤ sizeLine ∧ ∀ q, H q = none → Q (.ref q) (upd H q (.lst (charsV x)))
theorem call_list_str {X : Cx} (hc : X.calm = true) : CallR X (.type "list") rListS := by
  intro pins s σ H xs us Q I r h
  obtain ⟨x, e, z, q⟩ := h
  subst e
  obtain ⟨u, eu, rx⟩ := vals1 r
  subst eu
  obtain ⟨t, rfl⟩ := rx
  refine PySem.W.vsl_call (I.ok.hd hc) z fun h' tk acc' c' hkeep hS hacc => ?_
  refine ⟨.ref s.heap.objs.size, upd H s.heap.objs.size (.lst (charsV x)), I.laid hkeep (Nat.le_refl _) (show ObjOk X.prog X.w _ _ _ (.lst (charsV x)) from ⟨?_, acc'.toList, c', ?_, ?_⟩), rfl, q _ (I.hok.fresh (Nat.le_refl _))⟩
  · unfold charsV; rw [List.length_map, Array.length_toList]; exact z
  · have el : acc'.toList.length = acc'.size := by simp
    refine vals_of_at (by unfold charsV; rw [List.length_map, el, hacc.1, Array.length_toList]) fun j y w h1 h2 => ?_
    obtain ⟨c, u, hc, rfl⟩ := hacc.2 j w (by rw [← Array.getElem?_toList]; exact h2)
    unfold charsV at h1
    rw [List.getElem?_map, Array.getElem?_toList, hc] at h1
    cases h1
    exact ⟨u, rfl⟩
  · rw [Array.toArray_toList]; exact hS
end L2
/-! VS: list(x) of any x. -/
namespace VS
open PySem PySem.Spec PyProof.Rows L2
def charsD (x : Str) : List D := x.cps.toList.map fun c => D.str ⟨#[c]⟩
def gListS : List D → Option D
  | [.str x] => if x.length ≤ LIM then some (.lst (charsD x)) else none
  | _ => none
def gListK : List D → Option D
  | [.dct ⟨_, false⟩ kvs] => some (.lst (kvs.map (·.1)))
  | _ => none
def gListA (ds : List D) : Option D := (gList ds).or ((gListS ds).or (gListK ds))
def rListDT (X : Cx) : List V → Hp → VK → Prop := fun xs H Q => rListD xs H Q ∨ ∃ d kvs, xs = [V.ref d] ∧ Rd H d (.dT kvs) ∧ ∀ p bs, H p = none → IsKeys H kvs bs → Q (.ref p) (upd H p (.lst (bs.map V.ref)))
def rListA (X : Cx) : List V → Hp → VK → Prop := fun xs H Q => (∃ p ys, xs = [.ref p] ∧ (SqL X.K H p ys ∨ SqT X.K H p ys) ∧ ∀ l, H l = none → Q (.ref l) (upd H l (.lst ys))) ∨ (rListS xs H Q ∨ rListDT X xs H Q)
theorem CallR.or' {X : Cx} {f : Value} {r r' : List V → Hp → VK → Prop} (h : CallR X f r) (h' : CallR X f r') : CallR X f (fun xs H Q => r xs H Q ∨ r' xs H Q) := by
  intro pins s σ H xs us Q I rr q
  rcases q with q | q
  · exact h pins s σ H xs us Q I rr q
  · exact h' pins s σ H xs us Q I rr q
theorem call_list_any {X : Cx} (hc : X.calm = true) : CallR X (.type "list") (rListA X) := CallR.or' call_list_of (CallR.or' (call_list_str hc) (CallR.or' (call_list_dK hc) (call_list_dT hc)))
theorem rpl_keys {G : Gt} {H : Hp} : ∀ {kk : List (List Key)} {ws : List V} {bs : List Addr}, kk.length = ws.length → IsKeys H (kk.zip ws) bs → RpL G H (kk.map kT) (bs.map V.ref) []
  | [], _, bs, _, h => by
    unfold IsKeys at h
    cases h
    simp [RpL]
  | k :: kk, [], bs, l, h => by simp at l
  | k :: kk, w :: ws, bs, l, h => by
    unfold IsKeys at h
    rw [List.zip_cons_cons] at h
    cases h with
    | cons h t =>
      simp only [List.map_cons, RpL]
      exact ⟨_, _, [], [], rfl, rp_kT h, rpl_keys (by simpa using l) t, rfl⟩
section
variable {X : Cx} {xv : XV} {μ : List Md} {W : WX} {pos p : Pos} {e : Expr} {ro al dp : Bool} {ms : AM}
theorem cs_listA : CallS (gx X xv) (rListA X) gListA := by
  refine CallS.or cs_list (CallS.or ?_ ?_)
  · intro H vs ds n d Q rl e q
    unfold gListS at e
    split at e
    · split at e
      · rename_i x hx
        cases e
        obtain ⟨v, rfl, r⟩ := rl.one
        simp only [Rp] at r
        refine ⟨x, by rw [r.1], by rw [LIM_eq]; exact hx, fun l hl => ?_⟩
        have hc : RpL (gx X xv) H (charsD x) (charsV x) [] := by
          have : charsD x = ((x.cps.toList.map fun c => (⟨#[c]⟩ : Str))).map D.str := by unfold charsD; rw [List.map_map]; rfl
          rw [this]
          have e2 : charsV x = ((x.cps.toList.map fun c => (⟨#[c]⟩ : Str))).map V.str := by unfold charsV; rw [List.map_map]; rfl
          rw [e2]
          exact RpL.strsI
        exact q _ _ [l] (Rp.newL hl hc) (ext_upd hl) (fun x hx => by rw [List.mem_singleton] at hx; rw [hx]; exact .inr hl) (own_newL hl (by simp))
      · cases e
    · cases e
  · intro H vs ds n d Q rl e q
    unfold gListK at e
    split at e
    · rename_i t kvs
      cases e
      obtain ⟨v, rfl, r⟩ := rl.one
      simp only [Rp] at r
      obtain ⟨a, ws, m, rfl, h1, h2, rfl⟩ := r
      rcases h1 with ⟨t0, kk, e1, l, nd, h1⟩ | ⟨t0, kk, e1, l, nd, h1⟩
      · refine .inl ⟨a, _, rfl, h1.un rfl, fun l' hl => ?_⟩
        have e2 : ((kk.zip ws).map fun kv => kV kv.1) = kk.map kV := by
          have : ((kk.zip ws).map fun kv => kV kv.1) = ((kk.zip ws).map (·.1)).map kV := by rw [List.map_map]; rfl
          rw [this, List.map_fst_zip (by omega)]
        rw [e2]
        refine q _ _ [l'] (by rw [← e1]; exact Rp.newL hl rpl_kD) (ext_upd hl) (fun x hx => by rw [List.mem_singleton] at hx; rw [hx]; exact .inr hl) (by rw [← e1]; exact own_newL hl (by simp))
      · refine .inr ⟨a, _, rfl, h1.rd, fun l' bs hl hk => ?_⟩
        refine q _ _ [l'] (by rw [← e1]; exact Rp.newL hl (rpl_keys l hk)) (ext_upd hl) (fun x hx => by rw [List.mem_singleton] at hx; rw [hx]; exact .inr hl) (by rw [← e1]; exact own_newL hl (by simp))
    · cases e
theorem v_listA (hcalm : X.calm = true) (hg : Gl X "list") (hm : X.mg "list" = none) (h : PLV X xv μ W [e] ro al dp ms) (chk : Bool) (hc : al = true → chk = true)
    (he : starEach [e] X.env = (false, eval e X.env) :: starEach [] X.env := by rfl) (hpl : (backTo pos (starEach [] X.env)).any (·.1) = false := by rfl) :
    PEV X xv μ W (.Call (.Name "list" p) [e] [] pos) ro .r (mArg chk gListA ms) :=
  v_callTy (call_list_any hcalm) cs_listA hg hm (by decide +kernel) h chk hc (by decide) (by decide) he hpl
end
end VS
/-! VS: isinstance with own objects and own classes. -/
namespace VS
open PySem PySem.Spec PyProof.Rows L2
structure OC (K : PySem.W.Frag) (C : Addr) : Prop where
  cl : Cls K C
  ha : PySem.W.findIn K (.ref C) "__class__" = some (some (.builtin "object.__class__"))
  hn : PySem.W.specialIn K (.builtin "object.__class__") "__get__" = some (some (.builtin "getset_descriptor.__get__"))
  htk : PySem.W.takesIn K (.builtin "object.__class__") = some true
  hm : PySem.W.mroIn K C (.type "object") = some true
  ci : (PySem.W.clsIn K C).isSome = true
  ti : PySem.W.typeIn K (.ref C) = some (.type "type")
  st : ∀ t : Ty7, PySem.W.subIn K (.ref C) (.type t.nm) = some false
  tt : ∀ t : Ty7, PySem.W.subIn K (.type t.nm) (.ref C) = some false
structure OTy (K : PySem.W.Frag) (mg : Str → Option Value) (oc : Str → Bool) : Prop where
  at_ : ∀ c, oc c = true → ∀ C, mg c = some (.ref C) → OC K C
  pr : ∀ c c' C C', oc c = true → oc c' = true → c ≠ c' → mg c = some (.ref C) → mg c' = some (.ref C') → C ≠ C' ∧ PySem.W.subIn K (.ref C) (.ref C') = some false
theorem meta7 (t : Ty7) : PySem.W.kitMeta t.nm = true := by cases t <;> decide +kernel
section
variable {K : PySem.W.Frag} {C C' : Addr}
theorem OC.kt (h : OC K C) (t : Ty7) : PySem.W.kitOne K (.ref C) (.type t.nm) = some false := by
  unfold PySem.W.kitOne
  rw [if_neg (by simp)]
  show (if PySem.W.kitMeta t.nm = true then _ else _) = _
  rw [if_pos (meta7 t)]
  exact h.st t
theorem OC.kAny (h : OC K C) : ∀ ts : List Ty7, PySem.W.kitAny K (.ref C) (ts.map fun t => Value.type t.nm) = some false
  | [] => rfl
  | t :: r => by
    rw [List.map_cons]
    exact kitAny_cons (h.kt t) (fun _ => h.kAny r) fun z => by cases z
theorem OC.kc (h : OC K C) (t : Ty7) : PySem.W.kitOne K (.type t.nm) (.ref C) = some false := by
  unfold PySem.W.kitOne
  rw [if_neg (by simp)]
  show (if _ = true then _ else _) = _
  rw [if_pos (by rw [h.ci, h.ti]; decide)]
  exact h.tt t
theorem OC.ks (h : OC K C') (hne : C ≠ C') (hs : PySem.W.subIn K (.ref C) (.ref C') = some false) : PySem.W.kitOne K (.ref C) (.ref C') = some false := by
  unfold PySem.W.kitOne
  rw [if_neg (by simpa using hne)]
  show (if _ = true then _ else _) = _
  rw [if_pos (by rw [h.ci, h.ti]; decide)]
  exact hs
end
def gIsiO (oc : Str → Bool) : List D → Option D
  | [.obj c _, .ty n] => if oc c = true then (ty7 n).map fun _ => .bl false else none
  | [.obj c _, .tup cs] => if oc c = true then (tysOf cs).map fun _ => .bl false else none
  | [.obj c _, .cls c'] => if (oc c && oc c') = true then some (.bl (decide (c = c'))) else none
  | [d, .cls c'] => if oc c' = true then d.ty7.map fun _ => .bl false else none
  | ds => gIsi ds
theorem pu_isiO {oc : Str → Bool} : ∀ ds d, gIsiO oc ds = some d → d.pure = true := fun ds d e => by
  unfold gIsiO at e
  split at e
  · split at e
    · cases h : ty7 _ with
      | none => rw [h] at e; cases e
      | some t => rw [h] at e; cases e; rfl
    · cases e
  · split at e
    · cases h : tysOf _ with
      | none => rw [h] at e; cases e
      | some t => rw [h] at e; cases e; rfl
    · cases e
  · split at e
    · cases e; rfl
    · cases e
  · split at e
    · cases h : D.ty7 _ with
      | none => rw [h] at e; cases e
      | some t => rw [h] at e; cases e; rfl
    · cases e
  · exact pu_isi _ _ e
section
variable {X : Cx} {xv : XV} {oc : Str → Bool}
theorem obj_ty (O : OTy X.K X.mg oc) {H : Hp} {c : Str} {fs : List (Str × D)} {v : V} {n : List Addr} (hc : oc c = true) (r : Rp (gx X xv) H (.obj c fs) v n) : ∃ C, X.mg c = some (.ref C) ∧ OC X.K C ∧ TyX X.K H v (.ref C) := by
  simp only [Rp] at r
  obtain ⟨C, a, dx, ws, m, rfl, hC, ha, _⟩ := r
  have o := O.at_ c hc C hC
  exact ⟨C, hC, o, .base (.ins ha o.cl o.ha o.hn o.htk o.hm)⟩
theorem cs_isiO (O : OTy X.K X.mg oc) : CallS (gx X xv) (rIsiV X.K) (gIsiO oc) := fun H vs ds n d Q rl e q0 => by
  have q : ∀ v, Rp (gx X xv) H d v [] → Q v H := fun v rv => q0 v H [] rv (fun _ _ k => k) (fun x hx => by cases hx) fun x o => absurd o.mem (by simp)
  unfold gIsiO at e
  split at e
  · split at e
    · rename_i c fs nn hc
      cases h : ty7 nn with
      | none => rw [h] at e; cases e
      | some t =>
        rw [h] at e
        cases e
        obtain ⟨v, w, n1, n2, rfl, r1, r2, _⟩ := rl.two
        obtain ⟨C, _, o, ty⟩ := obj_ty O hc r1
        simp only [Rp] at r2
        obtain ⟨rfl, _⟩ := r2
        refine .inl ⟨v, _, _, .type _, false, rfl, .ty _, ty, ?_, q _ (by simp [Rp])⟩
        rw [← ty7_nm h]
        exact o.kt t
    · cases e
  · split at e
    · rename_i c fs cs hc
      cases h : tysOf cs with
      | none => rw [h] at e; cases e
      | some ts =>
        rw [h] at e
        cases e
        obtain ⟨v, w, n1, n2, rfl, r1, r2, _⟩ := rl.two
        obtain ⟨C, _, o, ty⟩ := obj_ty O hc r1
        simp only [Rp] at r2
        obtain ⟨p, ws, rfl, h3, h4⟩ := r2
        exact .inr ⟨v, p, ws, _, _, _, rfl, SqT.of h3, tysOf_vals h h4, ty, o.kAny ts, q _ (by simp [Rp])⟩
    · cases e
  · split at e
    · rename_i c fs c' hc
      rw [Bool.and_eq_true] at hc
      cases e
      obtain ⟨v, w, n1, n2, rfl, r1, r2, _⟩ := rl.two
      obtain ⟨C, hC, o, ty⟩ := obj_ty O hc.1 r1
      simp only [Rp] at r2
      obtain ⟨C', rfl, hC', _⟩ := r2
      refine .inl ⟨v, _, _, .ref C', decide (c = c'), rfl, .own _, ty, ?_, q _ (by simp [Rp])⟩
      by_cases z : c = c'
      · subst z
        rw [hC] at hC'
        cases hC'
        unfold PySem.W.kitOne
        rw [if_pos (by simp)]
        simp
      · obtain ⟨w1, w2⟩ := O.pr c c' C C' hc.1 hc.2 z hC hC'
        rw [(O.at_ c' hc.2 C' hC').ks w1 w2]
        simp [z]
    · cases e
  · split at e
    · rename_i d0 c' hno hc
      cases h : d0.ty7 with
      | none => rw [h] at e; cases e
      | some t =>
        rw [h] at e
        cases e
        obtain ⟨v, w, n1, n2, rfl, r1, r2, _⟩ := rl.two
        simp only [Rp] at r2
        obtain ⟨C', rfl, hC', _⟩ := r2
        exact .inl ⟨v, _, _, .ref C', false, rfl, .own _, tyx7 r1 h, (O.at_ c' hc C' hC').kc t, q _ (by simp [Rp])⟩
    · cases e
  · exact cs_isi H vs _ n d Q rl e q0
end
end VS
/-! VS: constants of the module; sorted. -/
namespace VS
open PySem PySem.Spec PyProof.Rows L2
section
variable {X : Cx} {xv : XV} {μ : List Md} {W : WX} {pos p : Pos} {e : Expr} {ro al dp : Bool} {ms : AM} {md : Md} {x : Str} {u : Value}
theorem v_gint {i : Int} (hg : Gl X x) (hm : X.mg x = some u) (hu : RelV (.int i) u) (hd : (x == ("__debug__" : Str)) = false := by decide) : PEV X xv μ W (.Name x pos) true md (mC (.int i)) := v_pure (pe_glob hg hm hu hd) fun _ => by simp [Rp]
theorem v_gstr {i : Str} (hg : Gl X x) (hm : X.mg x = some u) (hu : RelV (.str i) u) (hd : (x == ("__debug__" : Str)) = false := by decide) : PEV X xv μ W (.Name x pos) true md (mC (.str i)) := v_pure (pe_glob hg hm hu hd) fun _ => by simp [Rp]
def gSortA (ds : List D) : Option D := (gSortD ds).or (gSortSP ds)
def rSortA (X : Cx) : List V → Hp → VK → Prop := fun xs H Q => rSortD xs H Q ∨ rSortSP X.K xs H Q
theorem v_sortA (hcalm : X.calm = true) (hg : Gl X "sorted") (hm : X.mg "sorted" = none) (h : PLV X xv μ W [e] ro al dp ms) (chk : Bool) (hc : al = true → chk = true)
    (he : starEach [e] X.env = (false, eval e X.env) :: starEach [] X.env := by rfl) (hpl : (backTo pos (starEach [] X.env)).any (·.1) = false := by rfl) :
    PEV X xv μ W (.Call (.Name "sorted" p) [e] [] pos) ro .r (mArg chk gSortA ms) :=
  v_callB (r := rSortA X) (g := gSortA) (CallR.or (call_sortedD hcalm) cr_sortSP) (CallS.or cs_sortD cs_sortSP) hg hm (by decide +kernel) h chk hc (by decide) (by decide) he hpl
end
end VS
/-! VS: len of dicts; the meanings of VS25 to VS37, step by step. -/
namespace VS
open PySem PySem.Spec PyProof.Rows L2
def gLnD : List D → Option D
  | [.dct ⟨_, false⟩ kvs] => some (.int kvs.length)
  | _ => none
def gLnA (ds : List D) : Option D := (gLn ds).or (gLnD ds)
def rLenA (X : Cx) : List V → Hp → VK → Prop := fun xs H Q => rLen X.K xs H Q ∨ ((∃ a kvs, xs = [V.ref a] ∧ H a = some (.dK kvs) ∧ Q (.int kvs.length) H) ∨ rLenT xs H Q)
theorem crv_lenA {X : Cx} : CallR X (.builtin "len") (rLenA X) := CallR.or crv_len (CallR.or call_lenD call_len_dT)
theorem pu_lenA : ∀ ds d, gLnA ds = some d → d.pure = true := fun ds d e => by
  unfold gLnA at e
  cases h : gLn ds with
  | some d' => rw [h] at e; cases e; exact pu_len _ _ h
  | none =>
    rw [h] at e
    simp only [Option.none_or] at e
    unfold gLnD at e
    split at e <;> cases e
    rfl
section
variable {X : Cx} {xv : XV}
theorem cs_lenA : CallS (gx X xv) (rLenA X) gLnA := CallS.or cs_len fun H vs ds n d Q rl e q => by
  unfold gLnD at e
  split at e
  · rename_i t kvs
    cases e
    obtain ⟨v, rfl, r⟩ := rl.one
    simp only [Rp] at r
    obtain ⟨a, ws, m, rfl, h1, h2, _⟩ := r
    have fin : Q (.int kvs.length) H := q _ H [] (by simp [Rp]) (fun _ _ k => k) (fun x hx => by cases hx) fun x o => absurd o.mem (by simp)
    rcases h1 with ⟨t0, kk, e1, l, nd, h1⟩ | ⟨t0, kk, e1, l, nd, h1⟩
    · exact .inl ⟨a, _, rfl, h1.un rfl, by rw [zip_len e1 l]; exact fin⟩
    · exact .inr ⟨a, _, rfl, h1.un rfl, by rw [zip_len e1 l]; exact fin⟩
  · cases e
end
section
variable {env e : En} {d a b k c : D} {ds : List D} {i j n : Nat} {m m1 m2 m3 : EM} {ms : AM} {s s1 s2 : SM} {g : Str → D → Option D} {pm : PM} {x y : Str} {t : DK} {kvs : List (D × D)} {xs : List D}
@[simp] theorem g_lnAL : gLnA [.lst xs] = some (.int xs.length) := id rfl
@[simp] theorem g_lnAT : gLnA [.tup xs] = some (.int xs.length) := id rfl
@[simp] theorem g_lnAS : gLnA [.str x] = if x.length ≤ LIM then some (.int x.length) else none := by
  unfold gLnA
  show (if _ then _ else _ : Option D).or none = _
  simp
@[simp] theorem g_lnAD {tt : Bool} : gLnA [.dct ⟨tt, false⟩ kvs] = some (.int kvs.length) := id rfl
@[simp] theorem e_mS1 : mS1 g m1 m2 env = (m1 env).bind (mS12 g m2) := id rfl
@[simp] theorem e_mS12 : mS12 g m2 (.str x) e = (m2 e).bind (mS13 g x) := id rfl
@[simp] theorem e_mS13 : mS13 g x d e = fin false (g x d) e := id rfl
@[simp] theorem g_count : gCount x (.str y) = some (.int (Txt.count x y)) := id rfl
@[simp] theorem g_starts : gStarts x (.str y) = some (.bl (Txt.startswith x y)) := id rfl
theorem strsOf_map : ∀ {ys : List Str}, strsOf (ys.map D.str) = some ys
  | [] => rfl
  | y :: r => by rw [List.map_cons]; simp [strsOf, strsOf_map (ys := r)]
theorem g_join {ys : List Str} (h : (ys.map (·.length)).sum + ys.length * x.length ≤ 16777216) : gJoin x (.lst (ys.map D.str)) = some (.str (Txt.join x ys)) := by
  simp only [gJoin, strsOf_map, if_pos h]
@[simp] theorem e_mDctD {ks : List Str} : mDctD ks ms env = (ms env).bind (mDctD2 ks) := id rfl
@[simp] theorem e_mDctD2 {ks : List Str} : mDctD2 ks ds e = .ok (.dct ⟨false, false⟩ ((ks.map D.str).zip ds)) e := id rfl
@[simp] theorem e_pKey : pKey pm m env = (pm env).bind (pKey2 m) := id rfl
@[simp] theorem e_pKey2 {p : Plc} : pKey2 m p e = (m e).bind (pKey3 p) := id rfl
@[simp] theorem e_pKey3 {rb : D → D} : pKey3 (.dct t kvs, rb) k e = if isKey t.t k = true then pKey4 (.dct t kvs, rb) k e t kvs (dGet kvs k) else .bad := id rfl
@[simp] theorem e_pKey4 {p : Plc} : pKey4 p k e t kvs (some c) = .ok (c, fun c' => p.2 (.dct t (dSet kvs k c'))) e := id rfl
@[simp] theorem p_idxD : pyIdx (.dct t kvs) k = if isKey t.t k = true then dGet kvs k else none := by cases k <;> rfl
@[simp] theorem k_str : isKey false (.str x) = true := id rfl
@[simp] theorem k_int {i : Int} : isKey false (.int i) = true := id rfl
@[simp] theorem mu_dct : D.isMut (.dct t kvs) = true := id rfl
@[simp] theorem mu_obj {cn : Str} {fs : List (Str × D)} : D.isMut (.obj cn fs) = true := id rfl
@[simp] theorem g_setD {y : D} : gSetL (.dct t kvs) [k, y] = if (isKey t.t k && (!t.f && decide (kvs.length < LIM))) = true then some (.dct t (dPut kvs k y), .non) else none := by cases k <;> rfl
@[simp] theorem e_gTupT {fs : List D → En → Option En} {n : Nat} : gTupT fs n (.tup xs) e = if xs.length = n then fs xs e else none := id rfl
@[simp] theorem e_gConsT {f : D → En → Option En} {fs : List D → En → Option En} : gConsT f fs (d :: ds) e = (f d e).bind (fs ds) := id rfl
@[simp] theorem e_gNilT : gNilT [] e = some e := id rfl
@[simp] theorem e_sTgt {f : D → En → Option En} : sTgt f m env = (m env).st (sTgt2 f) := id rfl
@[simp] theorem e_mMake {π : List Md} {F : FM} {ags : List Ag} : mMake x π F ags env = (agRun ags env).bind (mMake2 x π (ags.map Ag.st) F) := id rfl
@[simp] theorem e_mMake2 {π : List Md} {as : List As} {F : FM} {xs : List (Option D)} : mMake2 x π as F xs e = match rsv as xs e with | some ds => mMake3 π as e (F (.obj x [] :: ds)) | none => .bad := id rfl
@[simp] theorem e_mMake3 {π : List Md} {as : List As} {o : D} : mMake3 π as e (.ok .non (o :: ds)) = .ok o (wb π as ds e) := id rfl
@[simp] theorem e_mMake3x {π : List Md} {as : List As} {o : D} {z : Exn} : mMake3 π as e (.exc z (o :: ds)) = if pureF z.fs = true then .exc z (wb π as ds e) else .bad := id rfl
@[simp] theorem e_mObj {cn mn : Str} : mObj cn mn m env = (m env).bind (mObj2 cn mn) := id rfl
@[simp] theorem e_mObj2 {cn mn : Str} : mObj2 cn mn d e = if isObj cn mn d = true then .ok d e else .bad := id rfl
@[simp] theorem e_iKeysV : iKeysV m env = (m env).bind keysOf := id rfl
@[simp] theorem e_keysOf {tt : Bool} : keysOf (.dct ⟨tt, true⟩ kvs) e = .ok (kvs.map (·.1)) e := id rfl
@[simp] theorem e_iItemsV : iItemsV m env = (m env).bind itsOf := id rfl
@[simp] theorem e_itsOf {tt : Bool} : itsOf (.dct ⟨tt, true⟩ kvs) e = if pureL (kvs.map (·.2)) = true then .ok (kvs.map itemD) e else .bad := id rfl
theorem e_mLockD {p : Option Str} {μ : List Md} (h : env[i]? = some (some d)) : mLockD i p μ m env = lkE2 i p μ m d env (frzD p d) := by unfold mLockD; rw [h]
@[simp] theorem e_lkE2 {p : Option Str} {μ : List Md} : lkE2 i p μ m d env (some c) = if othOk μ i p env = true then lkE3 i p μ d (m (env.set i (some c))) else .bad := id rfl
@[simp] theorem e_lkE3 {p : Option Str} {μ : List Md} : lkE3 i p μ d (.ok a e) = if (othOk μ i p e && resOk (mdAt μ i) p a) = true then .ok a (e.set i (some d)) else .bad := id rfl
theorem e_sLockD {p : Option Str} {μ : List Md} (h : env[i]? = some (some d)) : sLockD i p μ s env = lkS2 i p μ s d env (frzD p d) := by unfold sLockD; rw [h]
@[simp] theorem e_lkS2 {p : Option Str} {μ : List Md} : lkS2 i p μ s d env (some c) = if othOk μ i p env = true then lkS3 i p μ d (s (env.set i (some c))) else .bad := id rfl
@[simp] theorem e_lkS3n {p : Option Str} {μ : List Md} : lkS3 i p μ d (.nx e) = if othOk μ i p e = true then .nx (e.set i (some d)) else .bad := id rfl
@[simp] theorem e_lkS3r {p : Option Str} {μ : List Md} : lkS3 i p μ d (.rt a e) = if (othOk μ i p e && resOk (mdAt μ i) p a) = true then .rt a (e.set i (some d)) else .bad := id rfl
@[simp] theorem p_addS : pyAdd (.str x) (.str y) = if x.length + y.length ≤ LIM then some (.str (x ++ y)) else none := id rfl
@[simp] theorem p_slS {lo hi : Option Int} : pySl (.str x) lo hi = if x.length ≤ LIM then some (.str (cutS x lo hi)) else none := id rfl
@[simp] theorem g_pop0 {i : Int} {r : List D} (h : okR i = true) {j : Nat} (hj : L2.ixN r.length i = some j) {y : D} (hy : r[j]? = some y) : gPopAt (.lst r) [.int i] = some (.lst (r.eraseIdx j), y) := by simp only [gPopAt, h, if_true, hj, Option.bind_some, hy, Option.map_some]
@[simp] theorem e_sPutF {gg : D → List D → Option (D × D)} {mv : EM} : sPutF i gg pm mv env = (mv env).st (sPutF2 i gg pm) := id rfl
@[simp] theorem e_sPutF2 {gg : D → List D → Option (D × D)} : sPutF2 i gg pm d e = (pm e).st (sPutF3 i gg d) := id rfl
@[simp] theorem e_sPutF3 {gg : D → List D → Option (D × D)} {p : Plc} : sPutF3 i gg d p e = match gg p.1 [d] with | some (d', _) => .nx (e.set i (some (p.2 d'))) | none => .bad := id rfl
@[simp] theorem e_outDfr {π : List Md} {r : En} : outD (.fr :: π) (d :: ds) (some a :: r) = (outD π ds r).map (a :: ·) := by simp [outD, Md.fix]
end
end VS
/-! VS: texts as rows of signs. -/
namespace VS
open PySem
def tl (s : Str) : List Nat := s.cps.toList
theorem tl_inj {a b : Str} (h : tl a = tl b) : a = b := str_ext h
theorem tl_len {a : Str} : a.length = (tl a).length := by unfold tl; rw [Array.length_toList]; rfl
@[simp] theorem tl_app {a b : Str} : tl (a ++ b) = tl a ++ tl b := by
  show (a.cps ++ b.cps).toList = _
  simp [tl]
theorem tl_cut {z : Str} {lo hi : Option Int} : tl (L2.cutS z lo hi) = ((tl z).drop (HT.sIx z.length 0 lo)).take (HT.sIx z.length z.length hi - HT.sIx z.length 0 lo) := by
  unfold L2.cutS tl
  simp
theorem tl_take {z : Str} {n : Nat} : tl (L2.cutS z none (some (n : Int))) = (tl z).take n := by
  rw [tl_cut, HT.sIx_none, HT.sIx_nat, List.drop_zero, Nat.sub_zero, tl_len]
  rcases Nat.le_total n (tl z).length with h | h
  · rw [Nat.min_eq_left h]
  · rw [Nat.min_eq_right h, List.take_length, List.take_of_length_le h]
theorem tl_drop {z : Str} {n : Nat} : tl (L2.cutS z (some (n : Int)) none) = (tl z).drop n := by
  rw [tl_cut, HT.sIx_nat, HT.sIx_none, tl_len]
  rcases Nat.le_total n (tl z).length with h | h
  · rw [Nat.min_eq_left h, List.take_of_length_le (by simp)]
  · rw [Nat.min_eq_right h, List.drop_of_length_le h, List.drop_length, List.take_nil]
theorem sIx_m1 {n d : Nat} : HT.sIx n d (some (-1)) = n - 1 := by
  show (if (-1 : Int) < 0 then ((-1 : Int) + (n : Int)).toNat else min ((-1 : Int)).toNat n) = n - 1
  rw [if_pos (by decide)]
  omega
theorem tl_init {z : Str} : tl (L2.cutS z none (some (-1))) = (tl z).dropLast := by
  rw [tl_cut, HT.sIx_none, sIx_m1, List.drop_zero, Nat.sub_zero, tl_len, List.dropLast_eq_take]
theorem tl_last {z : Str} : tl (L2.cutS z (some (-1)) none) = (tl z).drop ((tl z).length - 1) := by
  rw [tl_cut, HT.sIx_none, sIx_m1, tl_len, List.take_of_length_le (by simp)]
theorem tl_sub {s b : Str} : Builtin.Str.subAt s b 0 = decide ((tl s).take (tl b).length = tl b) := by
  rw [StrLaws.subAt_eq, List.drop_zero, tl_len, Bool.eq_iff_iff, beq_iff_eq, decide_eq_true_eq]
  exact Iff.rfl
theorem starts_eq {s b : Str} : Txt.startswith s b = decide ((tl s).take (tl b).length = tl b) := by
  unfold Txt.startswith
  rw [tl_sub, Bool.eq_iff_iff, Bool.and_eq_true, decide_eq_true_eq, decide_eq_true_eq]
  constructor
  · exact fun h => h.2
  · intro h
    refine ⟨?_, h⟩
    have := congrArg List.length h
    rw [List.length_take] at this
    rw [tl_len, tl_len]
    omega
theorem tl_join : ∀ (ys : List Str), tl (Txt.join ("" : Str) ys) = (ys.map tl).flatten := by
  have go : ∀ (r : List Str) (acc : Array Nat), (r.foldl (fun acc p => acc ++ ("" : Str).cps ++ p.cps) acc).toList = acc.toList ++ (r.map tl).flatten := by
    intro r
    induction r with
    | nil => intro acc; simp
    | cons x r ih =>
      intro acc
      rw [List.foldl_cons, ih]
      have : (("" : Str).cps) = #[] := by decide +kernel
      rw [this]
      simp [tl]
  intro ys
  cases ys with
  | nil => rfl
  | cons x r =>
    show ((r.foldl (fun acc p => acc ++ ("" : Str).cps ++ p.cps) x.cps).toList) = _
    rw [go]
    simp [tl]
theorem count_tl (x : Str) (c : Nat) : Txt.count x ⟨#[c]⟩ = (((tl x).count c : Nat) : Int) := by
  rw [PyProof.Rows.count_is]
  unfold tl
  induction x.cps.toList with
  | nil => rfl
  | cons a r ih =>
    rw [List.map_cons]
    show (if PySem.Spec.same (.str ⟨#[a]⟩) (.str ⟨#[c]⟩) = true then 1 else 0) + _ = _
    rw [ih, List.count_cons]
    have : PySem.Spec.same (.str ⟨#[a]⟩) (.str ⟨#[c]⟩) = (a == c) := by
      simp only [PySem.Spec.same]
      rw [Bool.eq_iff_iff, beq_iff_eq, beq_iff_eq]
      constructor
      · intro h; injection h with h; simpa using h
      · intro h; rw [h]
    rw [this]
    split <;> simp <;> omega
/-! ### rows of 0 and 1 -/
def Bits (s : Str) : Prop := ∀ c ∈ tl s, c = 48 ∨ c = 49
theorem s0_eq : ("0" : Str) = ⟨#[48]⟩ := by decide +kernel
theorem s1_eq : ("1" : Str) = ⟨#[49]⟩ := by decide +kernel
theorem cnt01 : ∀ l : List Nat, (l.count 48 + l.count 49 = l.length ↔ ∀ c ∈ l, c = 48 ∨ c = 49) ∧ l.count 48 + l.count 49 ≤ l.length
  | [] => by simp
  | a :: r => by
    obtain ⟨h1, h2⟩ := cnt01 r
    rw [List.count_cons, List.count_cons, List.length_cons]
    simp only [List.mem_cons, forall_eq_or_imp]
    by_cases z : a = 48
    · subst z
      simp only [beq_self_eq_true, if_true, show ((48 : Nat) == 49) = false by decide, Bool.false_eq_true, if_false, true_or, true_and]
      rw [← h1]
      omega
    · by_cases z2 : a = 49
      · subst z2
        simp only [beq_self_eq_true, if_true, show ((49 : Nat) == 48) = false by decide, Bool.false_eq_true, if_false, or_true, true_and]
        rw [← h1]
        omega
      · have e1 : (a == 48) = false := by simpa using z
        have e2 : (a == 49) = false := by simpa using z2
        simp only [e1, e2, Bool.false_eq_true, if_false, z, z2, or_self, false_and, iff_false]
        omega
theorem Bits.cnt {s : Str} : (Txt.count s ("0" : Str) + Txt.count s ("1" : Str) = (s.length : Int)) ↔ Bits s := by
  rw [s0_eq, s1_eq, count_tl, count_tl, tl_len]
  have := (cnt01 (tl s)).1
  unfold Bits
  rw [← this]
  omega
theorem Bits.ok {s : Str} (h : Bits s) : PyData.strOk s = true := by
  unfold PyData.strOk
  rw [← Array.all_toList, List.all_eq_true]
  intro c hc
  rcases h c hc with e | e <;> rw [e] <;> decide
theorem Bits.app {a b : Str} (h1 : Bits a) (h2 : Bits b) : Bits (a ++ b) := fun c hc => by
  rw [tl_app, List.mem_append] at hc
  exact hc.elim (h1 c) (h2 c)
theorem Bits.sub {a b : Str} (h : Bits a) (hs : ∀ c ∈ tl b, c ∈ tl a) : Bits b := fun c hc => h c (hs c hc)
theorem Bits.cut {a : Str} {lo hi : Option Int} (h : Bits a) : Bits (L2.cutS a lo hi) := h.sub fun c hc => by
  rw [tl_cut] at hc
  exact List.mem_of_mem_drop (List.mem_of_mem_take hc)
theorem bits0 : Bits ("0" : Str) := fun c hc => by rw [s0_eq] at hc; simp [tl] at hc; exact .inl hc
theorem bits1 : Bits ("1" : Str) := fun c hc => by rw [s1_eq] at hc; simp [tl] at hc; exact .inr hc
end VS
/-! VS: index, min, a row several times. -/
namespace VS
open PySem PySem.Spec PyProof.Rows L2
def intsOf : List D → Option (List Int)
  | [] => some []
  | .int i :: r => (intsOf r).map (i :: ·)
  | _ => none
theorem intsOf_eq : ∀ {xs : List D} {ns : List Int}, intsOf xs = some ns → xs = intsD ns
  | [], ns, h => by cases h; rfl
  | .int i :: r, ns, h => by
    simp only [intsOf] at h
    cases e : intsOf r with
    | none => rw [e] at h; cases h
    | some m => rw [e] at h; cases h; rw [intsOf_eq e]; rfl
  | .non :: _, _, h | .bl _ :: _, _, h | .str _ :: _, _, h | .ty _ :: _, _, h | .cls _ :: _, _, h | .tup _ :: _, _, h | .lst _ :: _, _, h | .dct _ _ :: _, _, h | .obj _ _ :: _, _, h | .scr _ :: _, _, h => by simp [intsOf] at h
theorem intsOf_map : ∀ {ns : List Int}, intsOf (intsD ns) = some ns
  | [] => rfl
  | i :: r => by rw [intsD_cons]; simp [intsOf, intsOf_map (ns := r)]
theorem RpL.intsV {G : Gt} {H : Hp} : ∀ {ns : List Int} {vs : List V} {n : List Addr}, RpL G H (intsD ns) vs n → vs = ns.map V.int ∧ n = []
  | [], _, _, h => by simp only [intsD_nil, RpL] at h; exact h
  | i :: r, _, _, h => by
    simp only [intsD_cons, RpL, Rp] at h
    obtain ⟨v, vs', n1, n2, rfl, ⟨rfl, rfl⟩, h2, rfl⟩ := h
    obtain ⟨rfl, rfl⟩ := RpL.intsV h2
    exact ⟨rfl, rfl⟩
/-! ### row.index(x) -/
def pyIndex : D → D → Option D
  | .lst xs, .int k => match intsOf xs with
    | some ns => (ns.findIdx? (· == k)).map fun (j : Nat) => D.int (j : Int)
    | none => none
  | _, _ => none
def mIndex2 (m2 : EM) (d : D) (e : En) : Rt D := if d.isL = true then (m2 e).bind (mBin3 false pyIndex d) else .bad
def mIndex (m1 m2 : EM) : EM := fun env => (m1 env).bind (mIndex2 m2)
theorem mIndex_ro {ro1 ro2 : Bool} {m1 m2 : EM} (h1 : ro1 = true → ∀ env d e', m1 env = .ok d e' → e' = env) (h2 : ro2 = true → ∀ env d e', m2 env = .ok d e' → e' = env) :
    (ro1 && ro2) = true → ∀ env d e', mIndex m1 m2 env = .ok d e' → e' = env := fun z env d e' k => by
  refine mBin_ro (chk := false) (g := pyIndex) h1 h2 z env d e' ?_
  unfold mIndex at k
  unfold mBin
  cases e1 : m1 env with
  | bad => rw [e1] at k; cases k
  | exc x e2 => rw [e1] at k; cases k
  | ok d1 e2 =>
    rw [e1] at k
    simp only [Rt.bind_ok, mIndex2] at k
    split at k
    · exact k
    · cases k
section
variable {X : Cx} {xv : XV} {μ : List Md} {W : WX} {pos apos p : Pos} {o e : Expr} {ro ro1 ro2 al dp : Bool} {md md1 md2 : Md} {m1 m2 : EM} {ms : AM}
theorem v_index (h1 : PEV X xv μ W o ro1 md1 m1) (h2 : PEV X xv μ W e ro2 md2 m2) (al : md1 = .al → ro2 = true := by decide)
    (hbase : attributeBase o "index" X.env (eval o X.env) = eval o X.env := by rfl)
    (hfew : ((backTo pos (starEach [e] X.env)).all (fun x => !x.1) && (backToKw pos (keywordEach [] X.env)).all (fun x => x.1.isSome)
      && decide ([e].length + ([] : List Keyword).length + (if ([] : List Keyword).isEmpty then 0 else 1) < 30)) = true := by rfl)
    (hline : (apos.endLine == pos.line) = true := by rfl) (hst : starEach [e] X.env = (false, eval e X.env) :: starEach [] X.env := by rfl) (hplain : (backTo pos (starEach [] X.env)).any (·.1) = false := by rfl) :
    PEV X xv μ W (.Call (.Attribute o "index" apos) [e] [] pos) (ro1 && ro2) md (mIndex m1 m2) := by
  refine ⟨PE.imp (pe_bm PySem.F.plainAttrs_list PySem.F.slot_list_index PySem.F.type_list_index mt_index h1.pe (pa_cons h2.pe pa_nil hst) hbase hfew hline hst hplain) fun σ H Q ⟨env, N, R0, q⟩ => ⟨env, N, R0, ?_⟩, mIndex_ro h1.rok h2.rok⟩
  unfold mIndex at q
  cases e1 : m1 env with
  | bad => rw [e1] at q; exact q
  | exc x env1 => rw [e1] at q; exact q
  | ok d1 env1 =>
    rw [e1] at q
    simp only [Rt.bind_ok, mIndex2] at q
    intro v1 H1 N1 n1 R1 S1 r1 V1
    split at q
    · rename_i hL
      have isL : tyV X.K "list" v1 H1 := by
        cases d1 <;> simp only [D.isL] at hL <;> try cases hL
        have r0 := r1
        simp only [Rp] at r1
        obtain ⟨a, vs, m, rfl, g1, g2, rfl⟩ := r1
        exact isL_ty r0 rfl
      refine ⟨isL, env1, N1, R1, ?_⟩
      cases e2 : m2 env1 with
      | bad => rw [e2] at q; exact q.elim
      | exc x env2 => rw [e2] at q; exact XQ.pre S1 q
      | ok d2 env2 =>
        rw [e2] at q
        simp only [Rt.bind_ok, mBin3] at q
        cases eg : pyIndex d1 d2 with
        | none => rw [eg] at q; exact q.elim
        | some d =>
          rw [eg] at q
          intro v2 H2 N2 n2 R2 S2 r2 V2
          have r1' : Rp (gx X xv) H2 d1 v1 n1 := by
            by_cases z : md1 = .al
            · have := al z
              subst this
              exact S2.rpro r1
            · exact S2.rp R1 r1 (V1.nown z)
          unfold pyIndex at eg
          split at eg
          · rename_i xs k
            split at eg
            · rename_i ns hns
              cases hj : ns.findIdx? (· == k) with
              | none => rw [hj] at eg; cases eg
              | some j =>
                rw [hj] at eg
                cases eg
                rw [intsOf_eq hns] at r1'
                simp only [Rp] at r1' r2
                obtain ⟨a, vs, m, rfl, g1, g2, rfl⟩ := r1'
                obtain ⟨rfl, _⟩ := r2
                obtain ⟨rfl, _⟩ := g2.intsV
                obtain ⟨hj1, hj2, hj3⟩ := List.findIdx?_eq_some_iff_getElem.mp hj
                refine ⟨a, _, .int k, j, .int ns[j], rfl, rfl, SqL.of g1, rfl, ?_, by simp [hj1], by simpa [eqV] using hj2, fun i z hi hz => ?_, ?_⟩
                · rw [List.all_map, List.all_eq_true]
                  intro x _
                  rfl
                · rw [List.getElem?_map, List.getElem?_eq_getElem (by omega)] at hz
                  cases hz
                  have := hj3 i hi
                  simpa [eqV] using this
                · exact q (.int j) H2 N2 [] R2 (S1.trans S2) (by simp [Rp]) .nil
            · cases eg
          · cases eg
    · exact q.elim
/-! ### min(row of ints) -/
def gMin : List D → Option D
  | [.lst xs] => match intsOf xs with
    | some ns => ns.min?.map .int
    | none => none
  | _ => none
theorem pu_min : ∀ ds d, gMin ds = some d → d.pure = true := fun ds d e => by
  unfold gMin at e
  split at e
  · split at e
    · rename_i ns _
      cases h : ns.min? with
      | none => rw [h] at e; cases e
      | some m => rw [h] at e; cases e; rfl
    · cases e
  · cases e
theorem cs_min : CallS (gx X xv) (rMin X.K) gMin := CallS.sc pu_min fun H vs ds n d Q rl e q => by
  unfold gMin at e
  split at e
  · split at e
    · rename_i xs ns hns
      cases hm : ns.min? with
      | none => rw [hm] at e; cases e
      | some m =>
        rw [hm] at e
        cases e
        obtain ⟨v, rfl, r⟩ := rl.one
        simp only [Rp] at r
        obtain ⟨a, vs, k, rfl, h1, h2, _⟩ := r
        rw [intsOf_eq hns] at h2
        obtain ⟨rfl, _⟩ := h2.intsV
        obtain ⟨g1, g2⟩ := List.min?_eq_some_iff.mp hm
        refine ⟨a, ns, rfl, SqL.of h1, List.length_pos_of_mem g1, fun m' hm' hall => ?_⟩
        have : m' = m := by
          have a1 := hall m g1
          have a2 := g2 m' hm'
          omega
        subst this
        exact q _ (by simp [Rp])
    · cases e
  · cases e
theorem v_min (hcalm : X.calm = true) (hg : Gl X "min") (hm : X.mg "min" = none) (h : PLV X xv μ W [e] ro al dp ms)
    (he : starEach [e] X.env = (false, eval e X.env) :: starEach [] X.env := by rfl) (hpl : (backTo pos (starEach [] X.env)).any (·.1) = false := by rfl) :
    PEV X xv μ W (.Call (.Name "min" p) [e] [] pos) ro md (mArg false gMin ms) :=
  v_callBS (cr_min hcalm) cs_min pu_min hg hm (by decide +kernel) h (by decide) (by decide) he hpl
/-! ### a row several times -/
def pyRep : D → D → Option D
  | .lst xs, .int k => if (decide (k.natAbs < 2 ^ 62) && decide (xs.length * k.toNat ≤ LIM) && pureL xs) = true then some (.lst (List.replicate k.toNat xs).flatten) else none
  | _, _ => none
def mRep (chk : Bool) (m1 m2 : EM) : EM := mBin chk pyRep m1 m2
theorem RpL.app {G : Gt} {H : Hp} : ∀ {xs ys : List D} {vs us : List V}, RpL G H xs vs [] → RpL G H ys us [] → RpL G H (xs ++ ys) (vs ++ us) []
  | [], ys, vs, us, h, h2 => by
    simp only [RpL] at h
    obtain ⟨rfl, _⟩ := h
    exact h2
  | d :: r, ys, vs, us, h, h2 => by
    simp only [RpL] at h
    obtain ⟨v, vs', n1, n2, rfl, h1, h3, e⟩ := h
    obtain ⟨rfl, rfl⟩ := List.append_eq_nil_iff.mp e.symm
    simp only [List.cons_append, RpL]
    exact ⟨v, _, [], [], rfl, h1, h3.app h2, rfl⟩
theorem RpL.rep {G : Gt} {H : Hp} {xs : List D} {vs : List V} (h : RpL G H xs vs []) : ∀ k : Nat, RpL G H (List.replicate k xs).flatten (List.replicate k vs).flatten []
  | 0 => by simp [RpL]
  | k + 1 => by
    rw [List.replicate_succ, List.replicate_succ, List.flatten_cons, List.flatten_cons]
    exact h.app (h.rep k)
theorem ops_rep : OpS (gx X xv) rRep pyRep := fun H a b da db na nb d Q ra rb e q => by
  unfold pyRep at e
  split at e
  · rename_i xs k
    split at e
    · rename_i hc
      rw [Bool.and_eq_true, Bool.and_eq_true, decide_eq_true_eq, decide_eq_true_eq] at hc
      cases e
      simp only [Rp] at ra rb
      obtain ⟨l, vs, m, rfl, h1, h2, rfl⟩ := ra
      obtain ⟨rfl, _⟩ := rb
      have := h2.pure hc.2
      subst this
      refine ⟨l, k, vs, rfl, rfl, h1, by omega, by omega, by rw [← h2.len, LIM_eq]; exact hc.1.2, fun p hp => ?_⟩
      exact q _ _ [p] (Rp.newL hp (h2.rep _)) (ext_upd hp) (fun x hx => by rw [List.mem_singleton] at hx; rw [hx]; exact .inr (.inr hp)) (own_newL hp (by simp))
    · cases e
  · cases e
theorem v_rep {a b : Expr} (h1 : PEV X xv μ W a ro1 md1 m1) (h2 : PEV X xv μ W b ro2 md2 m2) (chk : Bool) (al : md1 = .al → ro2 = true := by decide) (hc : md1 = .al ∨ md2 = .al → chk = true := by decide) : PEV X xv μ W (.BinOp a .Mult b pos) (ro1 && ro2) .r (mRep chk m1 m2) :=
  v_bin op_rep ops_rep h1 h2 chk al hc
end
section
variable {env e : En} {m m1 m2 : EM} {ns : List Int} {k : Int} {d : D}
@[simp] theorem e_mIndex : mIndex m1 m2 env = (m1 env).bind (mIndex2 m2) := id rfl
@[simp] theorem e_mIndex2 : mIndex2 m2 d e = if d.isL = true then (m2 e).bind (mBin3 false pyIndex d) else .bad := id rfl
@[simp] theorem p_index : pyIndex (.lst (intsD ns)) (.int k) = (ns.findIdx? (· == k)).map fun (j : Nat) => D.int (j : Int) := by simp only [pyIndex, intsOf_map]
@[simp] theorem g_min : gMin [.lst (intsD ns)] = ns.min?.map .int := by simp only [gMin, intsOf_map]
@[simp] theorem e_mRep {c : Bool} : mRep c m1 m2 env = mBin c pyRep m1 m2 env := id rfl
end
end VS
namespace Zk89
open PySem PySem.Spec PyProof.Rows PySem.W NdefX L2 VS
abbrev prg : Program := PySem.Challenge.pw_wishreels_k89_fate_step_by_step
def top (i : Nat) : Stmt := prg.main.body.getD i (.Pass ⟨0, 0, 0, 0⟩)
def subs : Subs := fun c h => none
def tb : Str → Str → Bool := fun c f => if c = ("Table" : Str) ∧ f = ("entries" : Str) then true else if c = ("Field" : Str) ∧ f = ("size" : Str) then true else if c = ("Field" : Str) ∧ f = ("tables" : Str) then true else false
def oc : Str → Bool := fun c => if c = ("Table" : Str) then true else if c = ("Field" : Str) then true else false
abbrev s__law_pool : Stmt := top 27
abbrev u__law_pool : List Md := [.s, .s, .d, .s, .s]
def m__law_pool : SM := (sSeq (sSet 1 (mLc (iVal (mSl false (mVar 0) pNo (pYes (mC (.int 63))))) [4] (gSet 4) bYes (mArg false gInt (aCons (mVar 4) aNil))))
    (sSeq (sSet 2 (mLc (iVal (mVar 1)) [4] (gSet 4) (bT (mGe (mArg false gAbs (aCons (mVar 4) aNil)) (mPow (mC (.int 10)) (mC (.int 18))))) (mArg false gAbs (aCons (mVar 4) aNil))))
    (sSeq (sSet 3 (mC (.int 20011)))
    (sSeq (sFor (iVal (mVar 1)) (gSet 4)
    (sSet 3 (mMod (mArg false gInt (aCons (mAdd false (mAdd false (mMul (mVar 3) (mC (.int 48271))) (mMod (mVar 4) (mC (.int 2147483629)))) (mC (.int 1))) aNil)) (mC (.int 2147483647)))))
    (sRet (mDctD ["cells", "great", "held", "state", "many"] (aCons (mF (mAdd false (mVar 1) (mLst false (aCons (mArg false gLnA (aCons (mVar 1) aNil)) aNil)))) (aCons (mMove 2) (aCons (mC (.int 0)) (aCons (mP (mVar 3)) (aCons (mC (.int 0)) aNil)))))))))))
def f__law_pool : FM := fnM [.s] 5 m__law_pool
theorem sc__law_pool : FnScope ["_law_script", "_law_cells", "_law_great", "_law_state", "_law_cell"] ["_law_script"] (defScope s__law_pool) := ⟨rfl, rfl, rfl, by decide +kernel, rfl, by decide +kernel, by decide +kernel⟩
abbrev s__law_draw : Stmt := top 28
abbrev u__law_draw : List Md := [.fd, .s, .s, .s, .s, .s, .s]
def m__law_draw : SM := (sSeq (sIf (bAnd (bT (mLt (mIdx (mVar 0) (mC (.str ("held" : Str)))) (mC (.int 2)))) (bT (mGt (mArg false gLnA (aCons (mIdx (mVar 0) (mC (.str ("great" : Str)))) aNil)) (mC (.int 0)))))
    (sPut 0 gSetL (pVar 0) (mC (.str ("held" : Str))) (mMut D.isL 0 gPopAt (pKey (pVar 0) (mC (.str ("great" : Str)))) (aCons (mC (.int 0)) aNil)))
    sNil)
    (sSeq (sSet 2 (mArg false gInt (aCons (mIdx (mVar 0) (mC (.str ("held" : Str)))) aNil)))
    (sSeq (sIf (bT (mGt (mVar 2) (mC (.int 1))))
    (sSeq (sPut 0 gSetL (pVar 0) (mC (.str ("held" : Str))) (mFdiv (mVar 2) (mVar 1)))
    (sRet (mMod (mVar 2) (mVar 1))))
    sNil)
    (sSeq (sSet 3 (mAdd false (mArg false gInt (aCons (mIdx (mVar 0) (mC (.str ("many" : Str)))) aNil)) (mC (.int 1))))
    (sSeq (sPut 0 gSetL (pVar 0) (mC (.str ("many" : Str))) (mP (mVar 3)))
    (sSeq (sSet 4 (mMod (mArg false gInt (aCons (mIdx (mIdx (mVar 0) (mC (.str ("cells" : Str)))) (mMod (mVar 3) (mArg false gLnA (aCons (mIdx (mVar 0) (mC (.str ("cells" : Str)))) aNil)))) aNil)) (mC (.int 2147483629))))
    (sSeq (sSet 5 (mMod (mArg false gInt (aCons (mAdd false (mAdd false (mMul (mArg false gInt (aCons (mIdx (mVar 0) (mC (.str ("state" : Str)))) aNil)) (mC (.int 69621))) (mVar 4)) (mMul (mC (.int 30103)) (mVar 3))) aNil)) (mC (.int 2147483647))))
    (sSeq (sPut 0 gSetL (pVar 0) (mC (.str ("state" : Str))) (mP (mVar 5)))
    (sSeq (sSet 6 (mMod (mArg false gInt (aCons (mMul (mVar 5) (mAdd false (mFdiv (mVar 5) (mC (.int 1009))) (mC (.int 48271)))) aNil)) (mC (.int 2147483629))))
    (sSeq (sSet 6 (mMod (mArg false gInt (aCons (mMul (mVar 6) (mAdd false (mFdiv (mVar 6) (mC (.int 2003))) (mC (.int 40692)))) aNil)) (mC (.int 2147483399))))
    (sRet (mMod (mFdiv (mVar 6) (mC (.int 16))) (mVar 1)))))))))))))
def f__law_draw : FM := fnM [.fd, .s] 7 m__law_draw
theorem sc__law_draw : FnScope ["_law_pool_here", "_law_many", "_law_held", "_law_count", "_law_cell", "_law_state", "_law_mixed"] ["_law_pool_here", "_law_many"] (defScope s__law_draw) := ⟨rfl, rfl, rfl, by decide +kernel, rfl, by decide +kernel, by decide +kernel⟩
abbrev s__law_bits : Stmt := top 29
abbrev u__law_bits : List Md := [.fd, .s, .s]
def m__law_bits : SM := (sRet (mS1 gJoin (mC (.str ("" : Str))) (mLc (iRng1 (aCons (mCall [.fd, .s] .d false f__law_draw [.slot 0, .val (mAdd false (mVar 1) (mC (.int 1)))]) aNil)) [2] (gSet 2) bYes (mArg false gStr (aCons (mCall [.fd, .s] .d false f__law_draw [.slot 0, .val (mC (.int 2))]) aNil)))))
def f__law_bits : FM := fnM [.fd, .s] 3 m__law_bits
theorem sc__law_bits : FnScope ["_law_pool_here", "_law_most", "_law_k"] ["_law_pool_here", "_law_most"] (defScope s__law_bits) := ⟨rfl, rfl, rfl, by decide +kernel, rfl, by decide +kernel, by decide +kernel⟩
abbrev s__law_entries : Stmt := top 30
abbrev u__law_entries : List Md := [.fd, .s, .s, .d, .s, .s, .s, .s]
def m__law_entries : SM := (sSeq (sSet 3 mDct0)
    (sSeq (sFor (iRng1 (aCons (mVar 1) aNil)) (gSet 4)
    (sSeq (sSet 5 (mCall [.fd, .s] .d false f__law_bits [.slot 0, .val (mC (.int 10))]))
    (sSeq (sSet 6 (mCall [.fd, .s] .d false f__law_draw [.slot 0, .val (mC (.int 4))]))
    (sSeq (sIf (bAnd (bT (mGt (mVar 6) (mC (.int 1)))) (bT (mGt (mArg false gLnA (aCons (mVar 3) aNil)) (mC (.int 0)))))
    (sSeq (sSet 7 (mIdx (mArg true gSortA (aCons (mVar 3) aNil)) (mCall [.fd, .s] .d false f__law_draw [.slot 0, .val (mArg false gLnA (aCons (mVar 3) aNil))])))
    (sIf (bT (mEq (mVar 6) (mC (.int 2))))
    (sSet 5 (mSl false (mAdd false (mVar 7) (mVar 5)) pNo (pYes (mC (.int 10)))))
    (sSet 5 (mAdd false (mSl false (mVar 7) pNo (pYes (mNeg (mC (.int 1))))) (mArg false gStr (aCons (mSub (mC (.int 1)) (mArg false gInt (aCons (mEq (mSl false (mVar 7) (pYes (mNeg (mC (.int 1)))) pNo) (mC (.str ("1" : Str)))) aNil))) aNil))))))
    sNil)
    (sPut 3 gSetL (pVar 3) (mP (mVar 5)) (mP (mIdx (mVar 2) (mCall [.fd, .s] .d false f__law_draw [.slot 0, .val (mArg false gLnA (aCons (mVar 2) aNil))]))))))))
    (sRet (mLockD 3 none u__law_entries (mLc (iKeysV (mVar 3)) [5] (gSet 5) bYes (mTup false (aCons (mVar 5) (aCons (mP (mIdx (mVar 3) (mVar 5))) aNil))))))))
def f__law_entries : FM := fnM [.fd, .s, .s] 8 m__law_entries
theorem sc__law_entries : FnScope ["_law_pool_here", "_law_many", "_law_nexts", "_law_known", "_law_k", "_law_bits_here", "_law_kind", "_law_earlier"] ["_law_pool_here", "_law_many", "_law_nexts"] (defScope s__law_entries) := ⟨rfl, rfl, rfl, by decide +kernel, rfl, by decide +kernel, by decide +kernel⟩
abbrev s__law_rows : Stmt := top 31
abbrev u__law_rows : List Md := [.fd, .s, .s, .s, .s]
def m__law_rows : SM := (sSeq (sSet 3 (mAdd false (mLst false (aCons (mC (.str ("here" : Str))) (aCons (mC (.str ("drop" : Str))) aNil))) (mRep false (mLc (iRng1 (aCons (mVar 1) aNil)) [4] (gSet 4) bYes (mVar 4)) (mAdd false (mC (.int 1)) (mCall [.fd, .s] .d false f__law_draw [.slot 0, .val (mC (.int 3))])))))
    (sRet (mLc (iRng1 (aCons (mVar 1) aNil)) [4] (gSet 4) bYes (mCall [.fd, .s, .s] .r false f__law_entries [.slot 0, .val (mCall [.fd, .s] .d false f__law_draw [.slot 0, .val (mAdd false (mVar 2) (mC (.int 1)))]), .val (mVar 3)]))))
def f__law_rows : FM := fnM [.fd, .s, .s] 5 m__law_rows
theorem sc__law_rows : FnScope ["_law_pool_here", "_law_size", "_law_most", "_law_nexts", "_law_k"] ["_law_pool_here", "_law_size", "_law_most"] (defScope s__law_rows) := ⟨rfl, rfl, rfl, by decide +kernel, rfl, by decide +kernel, by decide +kernel⟩
abbrev s_is_bits : Stmt := top 14
abbrev u_is_bits : List Md := [.s, .s, .s]
def m_is_bits : SM := (sSeq (sIf (bOr (bNot (bT (mArg false (gIsiO oc) (aCons (mVar 0) (aCons (mC (.ty "str")) aNil))))) (bOr (bT (mLt (mArg false gLnA (aCons (mVar 0) aNil)) (mVar 1))) (bT (mGt (mArg false gLnA (aCons (mVar 0) aNil)) (mVar 2)))))
    (sRet (mC (.bl false)))
    sNil)
    (sRet (mEq (mAdd false (mS1 gCount (mVar 0) (mC (.str ("0" : Str)))) (mS1 gCount (mVar 0) (mC (.str ("1" : Str))))) (mArg false gLnA (aCons (mVar 0) aNil)))))
def f_is_bits : FM := fnM [.s, .s, .s] 3 m_is_bits
theorem sc_is_bits : FnScope ["thing", "least", "most"] ["thing", "least", "most"] (defScope s_is_bits) := ⟨rfl, rfl, rfl, by decide +kernel, rfl, by decide +kernel, by decide +kernel⟩
abbrev s_is_range : Stmt := top 15
abbrev u_is_range : List Md := [.s]
def m_is_range : SM := (sRet (mCall [.s, .s, .s] .d false f_is_bits [.val (mVar 0), .val (mC (.int 0)), .val (mC (.int 10))]))
def f_is_range : FM := fnM [.s] 1 m_is_range
theorem sc_is_range : FnScope ["thing"] ["thing"] (defScope s_is_range) := ⟨rfl, rfl, rfl, by decide +kernel, rfl, by decide +kernel, by decide +kernel⟩
abbrev s_is_integer : Stmt := top 7
abbrev u_is_integer : List Md := [.s]
def m_is_integer : SM := (sRet (mAnd (mArg false (gIsiO oc) (aCons (mVar 0) (aCons (mC (.ty "int")) aNil))) (mNotV (mArg false (gIsiO oc) (aCons (mVar 0) (aCons (mC (.ty "bool")) aNil))))))
def f_is_integer : FM := fnM [.s] 1 m_is_integer
theorem sc_is_integer : FnScope ["thing"] ["thing"] (defScope s_is_integer) := ⟨rfl, rfl, rfl, by decide +kernel, rfl, by decide +kernel, by decide +kernel⟩
abbrev s_is_next : Stmt := top 17
abbrev u_is_next : List Md := [.s]
def m_is_next : SM := (sSeq (sIf (bT (mArg false (gIsiO oc) (aCons (mVar 0) (aCons (mC (.ty "str")) aNil))))
    (sRet (mOr (mEq (mVar 0) (mC (.str ("here" : Str)))) (mEq (mVar 0) (mC (.str ("drop" : Str))))))
    sNil)
    (sRet (mAnd (mCall [.s] .d false f_is_integer [.val (mVar 0)]) (mCh pyLe pyLt (mC (.int 0)) (mVar 0) (mC (.int 8))))))
def f_is_next : FM := fnM [.s] 1 m_is_next
theorem sc_is_next : FnScope ["thing"] ["thing"] (defScope s_is_next) := ⟨rfl, rfl, rfl, by decide +kernel, rfl, by decide +kernel, by decide +kernel⟩
abbrev s_is_entry : Stmt := top 18
abbrev u_is_entry : List Md := [.s]
def m_is_entry : SM := (sSeq (sIf (bOr (bNot (bT (mArg false (gIsiO oc) (aCons (mVar 0) (aCons (mC (.ty "tuple")) aNil))))) (bT (mNe (mArg false gLnA (aCons (mVar 0) aNil)) (mC (.int 2)))))
    (sRet (mC (.bl false)))
    sNil)
    (sRet (mAnd (mCall [.s] .d false f_is_range [.val (mIdx (mVar 0) (mC (.int 0)))]) (mCall [.s] .d false f_is_next [.val (mIdx (mVar 0) (mC (.int 1)))]))))
def f_is_entry : FM := fnM [.s] 1 m_is_entry
theorem sc_is_entry : FnScope ["thing"] ["thing"] (defScope s_is_entry) := ⟨rfl, rfl, rfl, by decide +kernel, rfl, by decide +kernel, by decide +kernel⟩
abbrev s_Table__init : Stmt := inClass (top 19) 0
abbrev u_Table__init : List Md := [.fr, .s, .d, .s, .s, .s]
def m_Table__init : SM := (sSeq (sIf (bOr (bNot (bT (mArg false (gIsiO oc) (aCons (mVar 1) (aCons (mTup false (aCons (mC (.ty "list")) (aCons (mC (.ty "tuple")) aNil))) aNil))))) (bT (mGt (mArg false gLnA (aCons (mVar 1) aNil)) (mC (.int 24)))))
    (sRaise ("BadTable" : Str) [("index" : Str)] (aCons (mNeg (mC (.int 1))) aNil))
    sNil)
    (sSeq (sSet 2 mDct0)
    (sSeq (sFor (iRng1 (aCons (mArg false gLnA (aCons (mVar 1) aNil)) aNil)) (gSet 3)
    (sSeq (sSet 4 (mIdx (mVar 1) (mVar 3)))
    (sSeq (sIf (bOr (bNot (bT (mCall [.s] .d false f_is_entry [.val (mVar 4)]))) (bT (mIn (mIdx (mVar 4) (mC (.int 0))) (mVar 2))))
    (sRaise ("BadTable" : Str) [("index" : Str)] (aCons (mVar 3) aNil))
    sNil)
    (sPut 2 gSetL (pVar 2) (mP (mIdx (mVar 4) (mC (.int 0)))) (mP (mIdx (mVar 4) (mC (.int 1))))))))
    (sPutF 0 (gSetF tb ("entries" : Str)) (pVar 0) (mArg false gTup (aCons (mLc (iVal (mArg true gSortA (aCons (mVar 2) aNil))) [5] (gSet 5) bYes (mTup false (aCons (mVar 5) (aCons (mP (mIdx (mVar 2) (mVar 5))) aNil)))) aNil))))))
def f_Table__init : FM := fnM [.fr, .s] 6 m_Table__init
theorem sc_Table__init : FnScope ["self", "entries", "known", "index", "entry", "bits"] ["self", "entries"] (defScope s_Table__init) := ⟨rfl, rfl, rfl, by decide +kernel, rfl, by decide +kernel, by decide +kernel⟩
abbrev s_fits_field : Stmt := top 21
abbrev u_fits_field : List Md := [.s, .s, .s, .s]
def m_fits_field : SM := (sSeq (sIf (bNot (bT (mArg false (gIsiO oc) (aCons (mVar 0) (aCons (mC (.cls ("Table" : Str))) aNil)))))
    (sRet (mC (.bl false)))
    sNil)
    (sSeq (sFor (iVal (mUn (pyFld tb ("entries" : Str)) (mVar 0))) (gTupT (gConsT (gSet 2) (gConsT (gSet 3) gNilT)) 2)
    (sIf (bAnd (bT (mCall [.s] .d false f_is_integer [.val (mVar 3)])) (bT (mGe (mVar 3) (mVar 1))))
    (sRet (mC (.bl false)))
    sNil))
    (sRet (mC (.bl true)))))
def f_fits_field : FM := fnM [.s, .s] 4 m_fits_field
theorem sc_fits_field : FnScope ["table", "size", "bits", "there"] ["table", "size"] (defScope s_fits_field) := ⟨rfl, rfl, rfl, by decide +kernel, rfl, by decide +kernel, by decide +kernel⟩
abbrev s_Field__init : Stmt := inClass (top 22) 0
abbrev u_Field__init : List Md := [.fr, .s, .s]
def m_Field__init : SM := (sSeq (sIf (bOr (bNot (bT (mArg false (gIsiO oc) (aCons (mVar 1) (aCons (mC (.ty "tuple")) aNil))))) (bNot (bT (mCh pyLe pyLe (mC (.int 1)) (mArg false gLnA (aCons (mVar 1) aNil)) (mC (.int 8))))))
    (sRaise ("BadField" : Str) [("router" : Str)] (aCons (mNeg (mC (.int 1))) aNil))
    sNil)
    (sSeq (sFor (iRng1 (aCons (mArg false gLnA (aCons (mVar 1) aNil)) aNil)) (gSet 2)
    (sIf (bNot (bT (mCall [.s, .s] .d false f_fits_field [.val (mIdx (mVar 1) (mVar 2)), .val (mArg false gLnA (aCons (mVar 1) aNil))])))
    (sRaise ("BadField" : Str) [("router" : Str)] (aCons (mVar 2) aNil))
    sNil))
    (sSeq (sPutF 0 (gSetF tb ("size" : Str)) (pVar 0) (mArg false gLnA (aCons (mVar 1) aNil)))
    (sPutF 0 (gSetF tb ("tables" : Str)) (pVar 0) (mVar 1)))))
def f_Field__init : FM := fnM [.fr, .s] 3 m_Field__init
theorem sc_Field__init : FnScope ["self", "tables", "router"] ["self", "tables"] (defScope s_Field__init) := ⟨rfl, rfl, rfl, by decide +kernel, rfl, by decide +kernel, by decide +kernel⟩
abbrev s__law_address : Stmt := top 33
abbrev u__law_address : List Md := [.fd, .s, .s, .s, .s]
def m__law_address : SM := (sSeq (sSet 2 (mS1 gJoin (mC (.str ("" : Str))) (mLc (iRng1 (aCons (mC (.int 10)) aNil)) [4] (gSet 4) bYes (mArg false gStr (aCons (mCall [.fd, .s] .d false f__law_draw [.slot 0, .val (mC (.int 2))]) aNil)))))
    (sSeq (sSet 3 (mIdx (mVar 1) (mCall [.fd, .s] .d false f__law_draw [.slot 0, .val (mArg false gLnA (aCons (mVar 1) aNil))])))
    (sSeq (sIf (bOr (bT (mEq (mArg false gLnA (aCons (mVar 3) aNil)) (mC (.int 0)))) (bT (mEq (mCall [.fd, .s] .d false f__law_draw [.slot 0, .val (mC (.int 3))]) (mC (.int 0)))))
    (sRet (mVar 2))
    sNil)
    (sRet (mSl false (mAdd false (mIdx (mIdx (mVar 3) (mCall [.fd, .s] .d false f__law_draw [.slot 0, .val (mArg false gLnA (aCons (mVar 3) aNil))])) (mC (.int 0))) (mVar 2)) pNo (pYes (mC (.int 10))))))))
def f__law_address : FM := fnM [.fd, .s] 5 m__law_address
theorem sc__law_address : FnScope ["_law_pool_here", "_law_rows_here", "_law_bits_here", "_law_entries_here", "_law_k"] ["_law_pool_here", "_law_rows_here"] (defScope s__law_address) := ⟨rfl, rfl, rfl, by decide +kernel, rfl, by decide +kernel, by decide +kernel⟩
abbrev s__law_longest : Stmt := top 32
abbrev u__law_longest : List Md := [.s, .s, .s, .s, .s, .s]
def m__law_longest : SM := (sSeq (sSet 2 (mC (.str ("drop" : Str))))
    (sSeq (sSet 3 (mNeg (mC (.int 1))))
    (sSeq (sFor (iVal (mVar 0)) (gTupT (gConsT (gSet 4) (gConsT (gSet 5) gNilT)) 2)
    (sIf (bAnd (bT (mGt (mArg false gLnA (aCons (mVar 4) aNil)) (mVar 3))) (bT (mEq (mSl false (mVar 1) pNo (pYes (mArg false gLnA (aCons (mVar 4) aNil)))) (mVar 4))))
    (sSeq (sSet 2 (mVar 5))
    (sSet 3 (mArg false gLnA (aCons (mVar 4) aNil))))
    sNil))
    (sRet (mVar 2)))))
def f__law_longest : FM := fnM [.s, .s] 6 m__law_longest
theorem sc__law_longest : FnScope ["_law_entries_here", "_law_address_here", "_law_found", "_law_size", "_law_bits_here", "_law_there"] ["_law_entries_here", "_law_address_here"] (defScope s__law_longest) := ⟨rfl, rfl, rfl, by decide +kernel, rfl, by decide +kernel, by decide +kernel⟩
abbrev s__law_due : Stmt := top 34
abbrev u__law_due : List Md := [.s, .s, .s, .d, .s, .s, .s]
def m__law_due : SM := (sSeq (sSet 2 (mVar 1))
    (sSeq (sSet 3 (mLst false aNil))
    (sSeq (sFor (iRng1 (aCons (mC (.int 9)) aNil)) (gSet 4)
    (sSeq (sIf (bT (mArg false (gIsiO oc) (aCons (mIdx (mVar 0) (mVar 2)) (aCons (mC (.ty "str")) aNil))))
    (sRet (mTup false (aCons (mIdx (mVar 0) (mVar 2)) (aCons (mVar 2) (aCons (mVar 4) aNil)))))
    sNil)
    (sSeq (sEx (mMut D.isL 3 gAppend (pVar 3) (aCons (mP (mVar 2)) aNil)))
    (sSeq (sSet 2 (mIdx (mVar 0) (mVar 2)))
    (sIf (bT (mIn (mVar 2) (mVar 3)))
    (sSeq (sSet 5 (mSl true (mVar 3) (pYes (mIndex (mVar 3) (mVar 2))) pNo))
    (sSeq (sSet 6 (mIndex (mVar 5) (mArg false gMin (aCons (mVar 5) aNil))))
    (sRet (mTup false (aCons (mC (.str ("round" : Str))) (aCons (mArg false gTup (aCons (mAdd false (mSl false (mVar 5) (pYes (mVar 6)) pNo) (mSl false (mVar 5) pNo (pYes (mVar 6)))) aNil)) aNil))))))
    sNil)))))
    (sRet (mC .non)))))
def f__law_due : FM := fnM [.s, .s] 7 m__law_due
theorem sc__law_due : FnScope ["_law_nexts", "_law_start", "_law_at", "_law_passed", "_law_k", "_law_ring", "_law_low"] ["_law_nexts", "_law_start"] (defScope s__law_due) := ⟨rfl, rfl, rfl, by decide +kernel, rfl, by decide +kernel, by decide +kernel⟩
abbrev s_is_router : Stmt := top 8
abbrev u_is_router : List Md := [.s, .s]
def m_is_router : SM := (sRet (mAnd (mCall [.s] .d false f_is_integer [.val (mVar 1)]) (mCh pyLe pyLt (mC (.int 0)) (mVar 1) (mVar 0))))
def f_is_router : FM := fnM [.s, .s] 2 m_is_router
theorem sc_is_router : FnScope ["size", "thing"] ["size", "thing"] (defScope s_is_router) := ⟨rfl, rfl, rfl, by decide +kernel, rfl, by decide +kernel, by decide +kernel⟩
abbrev s_check_router : Stmt := top 9
abbrev u_check_router : List Md := [.s, .s]
def m_check_router : SM := (sIf (bNot (bT (mCall [.s, .s] .d false f_is_router [.val (mVar 0), .val (mVar 1)])))
    (sRaise ("NoRouter" : Str) [("router" : Str)] (aCons (mVar 1) aNil))
    sNil)
def f_check_router : FM := fnM [.s, .s] 2 m_check_router
theorem sc_check_router : FnScope ["size", "thing"] ["size", "thing"] (defScope s_check_router) := ⟨rfl, rfl, rfl, by decide +kernel, rfl, by decide +kernel, by decide +kernel⟩
abbrev s_check_address : Stmt := top 16
abbrev u_check_address : List Md := [.s]
def m_check_address : SM := (sIf (bNot (bT (mCall [.s, .s, .s] .d false f_is_bits [.val (mVar 0), .val (mC (.int 10)), .val (mC (.int 10))])))
    (sRaise0 ("BadAddress" : Str))
    sNil)
def f_check_address : FM := fnM [.s] 1 m_check_address
theorem sc_check_address : FnScope ["thing"] ["thing"] (defScope s_check_address) := ⟨rfl, rfl, rfl, by decide +kernel, rfl, by decide +kernel, by decide +kernel⟩
abbrev s_turned : Stmt := top 23
abbrev u_turned : List Md := [.s, .s]
def m_turned : SM := (sSeq (sSet 1 (mIndex (mVar 0) (mArg false gMin (aCons (mVar 0) aNil))))
    (sRet (mArg false gTup (aCons (mAdd false (mSl false (mVar 0) (pYes (mVar 1)) pNo) (mSl false (mVar 0) pNo (pYes (mVar 1)))) aNil))))
def f_turned : FM := fnM [.s] 2 m_turned
theorem sc_turned : FnScope ["routers", "place"] ["routers"] (defScope s_turned) := ⟨rfl, rfl, rfl, by decide +kernel, rfl, by decide +kernel, by decide +kernel⟩
abbrev s_follow : Stmt := top 24
abbrev u_follow : List Md := [.s, .s, .d, .s]
def m_follow : SM := (sSeq (sSet 2 (mLst false (aCons (mP (mVar 1)) aNil)))
    (sWhile 200 (bT (mC (.bl true)))
    (sSeq (sSet 3 (mIdx (mVar 0) (mIdx (mVar 2) (mNeg (mC (.int 1))))))
    (sSeq (sIf (bOr (bT (mEq (mVar 3) (mC (.str ("here" : Str))))) (bT (mEq (mVar 3) (mC (.str ("drop" : Str))))))
    (sRet (mTup false (aCons (mVar 3) (aCons (mP (mIdx (mVar 2) (mNeg (mC (.int 1))))) (aCons (mSub (mArg false gLnA (aCons (mVar 2) aNil)) (mC (.int 1))) aNil)))))
    sNil)
    (sSeq (sIf (bT (mIn (mVar 3) (mVar 2)))
    (sRet (mTup false (aCons (mC (.str ("round" : Str))) (aCons (mCall [.s] .s false f_turned [.val (mSl true (mVar 2) (pYes (mIndex (mVar 2) (mVar 3))) pNo)]) aNil))))
    sNil)
    (sEx (mMut D.isL 2 gAppend (pVar 2) (aCons (mP (mVar 3)) aNil))))))))
def f_follow : FM := fnM [.s, .s] 4 m_follow
theorem sc_follow : FnScope ["nexts", "start", "passed", "there"] ["nexts", "start"] (defScope s_follow) := ⟨rfl, rfl, rfl, by decide +kernel, rfl, by decide +kernel, by decide +kernel⟩
abbrev s_Table__onward : Stmt := inClass (top 19) 2
abbrev u_Table__onward : List Md := [.s, .s, .s, .s, .s]
def m_Table__onward : SM := (sSeq (sEx (mCall [.s] .d false f_check_address [.val (mVar 1)]))
    (sSeq (sSet 2 (mC (.str ("drop" : Str))))
    (sSeq (sFor (iVal (mUn (pyFld tb ("entries" : Str)) (mVar 0))) (gTupT (gConsT (gSet 3) (gConsT (gSet 4) gNilT)) 2)
    (sIf (bT (mS1 gStarts (mVar 1) (mVar 3)))
    (sSet 2 (mVar 4))
    sNil))
    (sRet (mVar 2)))))
def f_Table__onward : FM := fnM [.s, .s] 5 m_Table__onward
theorem sc_Table__onward : FnScope ["self", "address", "found", "bits", "there"] ["self", "address"] (defScope s_Table__onward) := ⟨rfl, rfl, rfl, by decide +kernel, rfl, by decide +kernel, by decide +kernel⟩
abbrev s_fate : Stmt := top 25
abbrev u_fate : List Md := [.s, .s, .s, .s]
def m_fate : SM := (sSeq (sEx (mCall [.s, .s] .d false f_check_router [.val (mUn (pyFld tb ("size" : Str)) (mVar 0)), .val (mVar 1)]))
    (sSeq (sEx (mCall [.s] .d false f_check_address [.val (mVar 2)]))
    (sRet (mCall [.s, .s] .s false f_follow [.val (mLc (iVal (mUn (pyFld tb ("tables" : Str)) (mVar 0))) [3] (gSet 3) bYes (mCall [.s, .s] .s false f_Table__onward [.val (mObj ("Table" : Str) ("onward" : Str) (mVar 3)), .val (mVar 2)])), .val (mVar 1)]))))
def f_fate : FM := fnM [.s, .s, .s] 4 m_fate
theorem sc_fate : FnScope ["field", "start", "address", "table"] ["field", "start", "address"] (defScope s_fate) := ⟨rfl, rfl, rfl, by decide +kernel, rfl, by decide +kernel, by decide +kernel⟩
abbrev s__law_told : Stmt := top 35
abbrev u__law_told : List Md := [.s, .s, .s, .s]
def m__law_told : SM := (sSeq (sIf (bOr (bNot (bT (mArg false (gIsiO oc) (aCons (mVar 0) (aCons (mC (.ty "tuple")) aNil))))) (bOr (bT (mNe (mArg false gLnA (aCons (mVar 0) aNil)) (mArg false gLnA (aCons (mVar 1) aNil)))) (bNot (bT (mArg false (gIsiO oc) (aCons (mIdx (mVar 0) (mC (.int 0))) (aCons (mC (.ty "str")) aNil)))))))
    (sRet (mC (.bl false)))
    sNil)
    (sSeq (sSet 2 (mSl false (mVar 0) (pYes (mC (.int 1))) pNo))
    (sSeq (sIf (bT (mEq (mIdx (mVar 1) (mC (.int 0))) (mC (.str ("round" : Str)))))
    (sSet 2 (mIdx (mVar 0) (mC (.int 1))))
    sNil)
    (sSeq (sIf (bNot (bT (mArg false (gIsiO oc) (aCons (mVar 2) (aCons (mC (.ty "tuple")) aNil)))))
    (sRet (mC (.bl false)))
    sNil)
    (sSeq (sFor (iVal (mVar 2)) (gSet 3)
    (sIf (bOr (bNot (bT (mArg false (gIsiO oc) (aCons (mVar 3) (aCons (mC (.ty "int")) aNil))))) (bT (mArg false (gIsiO oc) (aCons (mVar 3) (aCons (mC (.ty "bool")) aNil)))))
    (sRet (mC (.bl false)))
    sNil))
    (sRet (mEq (mVar 0) (mVar 1))))))))
def f__law_told : FM := fnM [.s, .s] 4 m__law_told
theorem sc__law_told : FnScope ["_law_told_here", "_law_due_here", "_law_numbers", "_law_number"] ["_law_told_here", "_law_due_here"] (defScope s__law_told) := ⟨rfl, rfl, rfl, by decide +kernel, rfl, by decide +kernel, by decide +kernel⟩
abbrev s__law_behind : Stmt := top 36
abbrev u__law_behind : List Md := [.s, .s, .s, .s, .s, .s, .s]
def m__law_behind : SM := (sSeq (sSet 5 (mIdx (mVar 1) (mVar 2)))
    (sSeq (sIf (bT (mArg false (gIsiO oc) (aCons (mVar 5) (aCons (mC (.ty "str")) aNil))))
    (sRet (mEq (mVar 4) (mTup false (aCons (mVar 5) (aCons (mVar 2) (aCons (mC (.int 0)) aNil))))))
    sNil)
    (sSeq (sSet 6 (mCall [.s, .s, .s] .s false f_fate [.val (mVar 0), .val (mVar 5), .val (mVar 3)]))
    (sSeq (sIf (bT (mEq (mIdx (mVar 4) (mC (.int 0))) (mC (.str ("round" : Str)))))
    (sRet (mEq (mVar 6) (mVar 4)))
    sNil)
    (sRet (mEq (mVar 6) (mTup false (aCons (mIdx (mVar 4) (mC (.int 0))) (aCons (mIdx (mVar 4) (mC (.int 1))) (aCons (mSub (mIdx (mVar 4) (mC (.int 2))) (mC (.int 1))) aNil))))))))))
def f__law_behind : FM := fnM [.s, .s, .s, .s, .s] 7 m__law_behind
theorem sc__law_behind : FnScope ["_law_field", "_law_nexts", "_law_start", "_law_address_here", "_law_told_here", "_law_there", "_law_further"] ["_law_field", "_law_nexts", "_law_start", "_law_address_here", "_law_told_here"] (defScope s__law_behind) := ⟨rfl, rfl, rfl, by decide +kernel, rfl, by decide +kernel, by decide +kernel⟩
abbrev s_law : Stmt := top 37
abbrev u_law : List Md := [.s, .d, .s, .s, .s, .s, .s, .s, .s, .s, .s, .s, .s]
def m_law : SM := (sSeq (sSet 1 (mCall [.s] .d false f__law_pool [.val (mVar 0)]))
    (sSeq (sSet 2 (mAdd false (mC (.int 1)) (mCall [.fd, .s] .d false f__law_draw [.slot 1, .val (mC (.int 8))])))
    (sSeq (sSet 3 (mCall [.fd, .s, .s] .r false f__law_rows [.slot 1, .val (mVar 2), .val (mC (.int 8))]))
    (sSeq (sSet 4 (mMake "Field" [.s] f_Field__init [.val (mArg false gTup (aCons (mLc (iVal (mVar 3)) [12] (gSet 12) bYes (mMake "Table" [.s] f_Table__init [.val (mArg false gListA (aCons (mVar 12) aNil))])) aNil))]))
    (sSeq (sSet 5 (mMake "Field" [.s] f_Field__init [.val (mArg false gTup (aCons (mLc (iVal (mVar 3)) [12] (gSet 12) bYes (mMake "Table" [.s] f_Table__init [.val (mArg false gTup (aCons (mArg false gSortA (aCons (mVar 12) aNil)) aNil))])) aNil))]))
    (sSeq (sFor (iRng1 (aCons (mAdd false (mC (.int 1)) (mCall [.fd, .s] .d false f__law_draw [.slot 1, .val (mC (.int 10))])) aNil)) (gSet 6)
    (sSeq (sSet 7 (mCall [.fd, .s] .s false f__law_address [.slot 1, .val (mVar 3)]))
    (sSeq (sSet 8 (mLc (iVal (mVar 3)) [12] (gSet 12) bYes (mCall [.s, .s] .s false f__law_longest [.val (mVar 12), .val (mVar 7)])))
    (sFor (iRng1 (aCons (mVar 2) aNil)) (gSet 9)
    (sSeq (sSet 10 (mCall [.s, .s] .s false f__law_due [.val (mVar 8), .val (mVar 9)]))
    (sSeq (sSet 11 (mCall [.s, .s, .s] .s false f_fate [.val (mVar 4), .val (mVar 9), .val (mVar 7)]))
    (sSeq (sIf (bOr (bNot (bT (mCall [.s, .s] .d false f__law_told [.val (mVar 11), .val (mVar 10)]))) (bNot (bT (mCall [.s, .s, .s, .s, .s] .d false f__law_behind [.val (mVar 4), .val (mVar 8), .val (mVar 9), .val (mVar 7), .val (mVar 11)]))))
    (sRet (mC (.bl false)))
    sNil)
    (sIf (bOr (bT (mNe (mCall [.s, .s, .s] .s false f_fate [.val (mVar 5), .val (mVar 9), .val (mVar 7)]) (mVar 10))) (bT (mNe (mCall [.s, .s, .s] .s false f_fate [.val (mVar 4), .val (mVar 9), .val (mVar 7)]) (mVar 10))))
    (sRet (mC (.bl false)))
    sNil))))))))
    (sRet (mC (.bl true)))))))))
def f_law : FM := fnM [.s] 13 m_law
theorem sc_law : FnScope ["_law_script", "_law_pool_here", "_law_size", "_law_rows_here", "_law_field", "_law_other", "_law_k", "_law_address_here", "_law_nexts", "_law_start", "_law_due_here", "_law_told_here", "_law_row"] ["_law_script"] (defScope s_law) := ⟨rfl, rfl, rfl, by decide +kernel, rfl, by decide +kernel, by decide +kernel⟩
abbrev s_BadTable : Stmt := inClass (top 3) 0
abbrev s_BadField : Stmt := inClass (top 5) 0
abbrev s_NoRouter : Stmt := inClass (top 2) 0
abbrev s_BadAddress : Stmt := inClass (top 4) 0
structure Tx (K : PySem.W.Frag) (mg : Str → Option Value) where
  c_Table : Addr
  mc_Table : mg "Table" = some (.ref c_Table)
  cls_Table : Cls K c_Table
  c_Field : Addr
  mc_Field : mg "Field" = some (.ref c_Field)
  cls_Field : Cls K c_Field
  cf : CFld K mg tb
  ot : OTy K mg oc
  ku_LENGTH : Value
  km_LENGTH : mg "LENGTH" = some ku_LENGTH
  kr_LENGTH : RelV (.int 10) ku_LENGTH
  ku_MOST_ENTRIES : Value
  km_MOST_ENTRIES : mg "MOST_ENTRIES" = some ku_MOST_ENTRIES
  kr_MOST_ENTRIES : RelV (.int 24) ku_MOST_ENTRIES
  ku_ROUTERS : Value
  km_ROUTERS : mg "ROUTERS" = some ku_ROUTERS
  kr_ROUTERS : RelV (.int 8) ku_ROUTERS
  a__law_pool : Addr
  d__law_pool : FuncData
  F__law_pool : Fun K "_law_pool" "_law_pool" s__law_pool a__law_pool d__law_pool
  b__law_pool : Binds K d__law_pool ["_law_script"] []
  m__law_pool : mg "_law_pool" = some (.ref a__law_pool)
  a__law_draw : Addr
  d__law_draw : FuncData
  F__law_draw : Fun K "_law_draw" "_law_draw" s__law_draw a__law_draw d__law_draw
  b__law_draw : Binds K d__law_draw ["_law_pool_here", "_law_many"] []
  m__law_draw : mg "_law_draw" = some (.ref a__law_draw)
  a__law_bits : Addr
  d__law_bits : FuncData
  F__law_bits : Fun K "_law_bits" "_law_bits" s__law_bits a__law_bits d__law_bits
  b__law_bits : Binds K d__law_bits ["_law_pool_here", "_law_most"] []
  m__law_bits : mg "_law_bits" = some (.ref a__law_bits)
  a__law_entries : Addr
  d__law_entries : FuncData
  F__law_entries : Fun K "_law_entries" "_law_entries" s__law_entries a__law_entries d__law_entries
  b__law_entries : Binds K d__law_entries ["_law_pool_here", "_law_many", "_law_nexts"] []
  m__law_entries : mg "_law_entries" = some (.ref a__law_entries)
  a__law_rows : Addr
  d__law_rows : FuncData
  F__law_rows : Fun K "_law_rows" "_law_rows" s__law_rows a__law_rows d__law_rows
  b__law_rows : Binds K d__law_rows ["_law_pool_here", "_law_size", "_law_most"] []
  m__law_rows : mg "_law_rows" = some (.ref a__law_rows)
  a_is_bits : Addr
  d_is_bits : FuncData
  F_is_bits : Fun K "is_bits" "is_bits" s_is_bits a_is_bits d_is_bits
  b_is_bits : Binds K d_is_bits ["thing", "least", "most"] []
  m_is_bits : mg "is_bits" = some (.ref a_is_bits)
  a_is_range : Addr
  d_is_range : FuncData
  F_is_range : Fun K "is_range" "is_range" s_is_range a_is_range d_is_range
  b_is_range : Binds K d_is_range ["thing"] []
  m_is_range : mg "is_range" = some (.ref a_is_range)
  a_is_integer : Addr
  d_is_integer : FuncData
  F_is_integer : Fun K "is_integer" "is_integer" s_is_integer a_is_integer d_is_integer
  b_is_integer : Binds K d_is_integer ["thing"] []
  m_is_integer : mg "is_integer" = some (.ref a_is_integer)
  a_is_next : Addr
  d_is_next : FuncData
  F_is_next : Fun K "is_next" "is_next" s_is_next a_is_next d_is_next
  b_is_next : Binds K d_is_next ["thing"] []
  m_is_next : mg "is_next" = some (.ref a_is_next)
  a_is_entry : Addr
  d_is_entry : FuncData
  F_is_entry : Fun K "is_entry" "is_entry" s_is_entry a_is_entry d_is_entry
  b_is_entry : Binds K d_is_entry ["thing"] []
  m_is_entry : mg "is_entry" = some (.ref a_is_entry)
  a_Table__init : Addr
  d_Table__init : FuncData
  F_Table__init : Fun K "__init__" "Table.__init__" s_Table__init a_Table__init d_Table__init
  b_Table__init : Binds K d_Table__init ["self", "entries"] []
  K_Table : Mk K c_Table a_Table__init
  a_fits_field : Addr
  d_fits_field : FuncData
  F_fits_field : Fun K "fits_field" "fits_field" s_fits_field a_fits_field d_fits_field
  b_fits_field : Binds K d_fits_field ["table", "size"] []
  m_fits_field : mg "fits_field" = some (.ref a_fits_field)
  a_Field__init : Addr
  d_Field__init : FuncData
  F_Field__init : Fun K "__init__" "Field.__init__" s_Field__init a_Field__init d_Field__init
  b_Field__init : Binds K d_Field__init ["self", "tables"] []
  K_Field : Mk K c_Field a_Field__init
  a__law_address : Addr
  d__law_address : FuncData
  F__law_address : Fun K "_law_address" "_law_address" s__law_address a__law_address d__law_address
  b__law_address : Binds K d__law_address ["_law_pool_here", "_law_rows_here"] []
  m__law_address : mg "_law_address" = some (.ref a__law_address)
  a__law_longest : Addr
  d__law_longest : FuncData
  F__law_longest : Fun K "_law_longest" "_law_longest" s__law_longest a__law_longest d__law_longest
  b__law_longest : Binds K d__law_longest ["_law_entries_here", "_law_address_here"] []
  m__law_longest : mg "_law_longest" = some (.ref a__law_longest)
  a__law_due : Addr
  d__law_due : FuncData
  F__law_due : Fun K "_law_due" "_law_due" s__law_due a__law_due d__law_due
  b__law_due : Binds K d__law_due ["_law_nexts", "_law_start"] []
  m__law_due : mg "_law_due" = some (.ref a__law_due)
  a_is_router : Addr
  d_is_router : FuncData
  F_is_router : Fun K "is_router" "is_router" s_is_router a_is_router d_is_router
  b_is_router : Binds K d_is_router ["size", "thing"] []
  m_is_router : mg "is_router" = some (.ref a_is_router)
  a_check_router : Addr
  d_check_router : FuncData
  F_check_router : Fun K "check_router" "check_router" s_check_router a_check_router d_check_router
  b_check_router : Binds K d_check_router ["size", "thing"] []
  m_check_router : mg "check_router" = some (.ref a_check_router)
  a_check_address : Addr
  d_check_address : FuncData
  F_check_address : Fun K "check_address" "check_address" s_check_address a_check_address d_check_address
  b_check_address : Binds K d_check_address ["thing"] []
  m_check_address : mg "check_address" = some (.ref a_check_address)
  a_turned : Addr
  d_turned : FuncData
  F_turned : Fun K "turned" "turned" s_turned a_turned d_turned
  b_turned : Binds K d_turned ["routers"] []
  m_turned : mg "turned" = some (.ref a_turned)
  a_follow : Addr
  d_follow : FuncData
  F_follow : Fun K "follow" "follow" s_follow a_follow d_follow
  b_follow : Binds K d_follow ["nexts", "start"] []
  m_follow : mg "follow" = some (.ref a_follow)
  a_Table__onward : Addr
  d_Table__onward : FuncData
  F_Table__onward : Fun K "onward" "Table.onward" s_Table__onward a_Table__onward d_Table__onward
  b_Table__onward : Binds K d_Table__onward ["self", "address"] []
  M_Table__onward : Meth K c_Table "onward" a_Table__onward
  a_fate : Addr
  d_fate : FuncData
  F_fate : Fun K "fate" "fate" s_fate a_fate d_fate
  b_fate : Binds K d_fate ["field", "start", "address"] []
  m_fate : mg "fate" = some (.ref a_fate)
  a__law_told : Addr
  d__law_told : FuncData
  F__law_told : Fun K "_law_told" "_law_told" s__law_told a__law_told d__law_told
  b__law_told : Binds K d__law_told ["_law_told_here", "_law_due_here"] []
  m__law_told : mg "_law_told" = some (.ref a__law_told)
  a__law_behind : Addr
  d__law_behind : FuncData
  F__law_behind : Fun K "_law_behind" "_law_behind" s__law_behind a__law_behind d__law_behind
  b__law_behind : Binds K d__law_behind ["_law_field", "_law_nexts", "_law_start", "_law_address_here", "_law_told_here"] []
  m__law_behind : mg "_law_behind" = some (.ref a__law_behind)
  a_law : Addr
  d_law : FuncData
  F_law : Fun K "law" "law" s_law a_law d_law
  b_law : Binds K d_law ["_law_script"] []
  m_law : mg "law" = some (.ref a_law)
  n_abs : mg "abs" = none
  n_bool : mg "bool" = none
  n_int : mg "int" = none
  n_isinstance : mg "isinstance" = none
  n_len : mg "len" = none
  n_list : mg "list" = none
  n_min : mg "min" = none
  n_range : mg "range" = none
  n_sorted : mg "sorted" = none
  n_str : mg "str" = none
  n_tuple : mg "tuple" = none
  c_WishError : Addr
  mc_WishError : mg "WishError" = some (.ref c_WishError)
  c_NoRouter : Addr
  mc_NoRouter : mg "NoRouter" = some (.ref c_NoRouter)
  c_BadTable : Addr
  mc_BadTable : mg "BadTable" = some (.ref c_BadTable)
  c_BadAddress : Addr
  mc_BadAddress : mg "BadAddress" = some (.ref c_BadAddress)
  c_BadField : Addr
  mc_BadField : mg "BadField" = some (.ref c_BadField)
  o_BadTable : OexC K c_BadTable
  i_BadTable : Addr
  di_BadTable : FuncData
  in_BadTable : PySem.W.findIn K (.ref c_BadTable) "__init__" = some (some (.ref i_BadTable))
  ti_BadTable : PySem.W.typeIn K (.ref i_BadTable) = some (.type "function")
  bi_BadTable : Binds K di_BadTable ["self", "index"] []
  kd_BadTable : Addr
  kc_BadTable : Addr
  Z_BadTable : SupI prg K mg c_BadTable i_BadTable kd_BadTable kc_BadTable di_BadTable "BadTable.__init__" (defArgs s_BadTable) (defBody s_BadTable) (defScope s_BadTable)
  no_BadTable_index : PySem.W.findIn K (.ref c_BadTable) "index" = some none
  o_BadField : OexC K c_BadField
  i_BadField : Addr
  di_BadField : FuncData
  in_BadField : PySem.W.findIn K (.ref c_BadField) "__init__" = some (some (.ref i_BadField))
  ti_BadField : PySem.W.typeIn K (.ref i_BadField) = some (.type "function")
  bi_BadField : Binds K di_BadField ["self", "router"] []
  kd_BadField : Addr
  kc_BadField : Addr
  Z_BadField : SupI prg K mg c_BadField i_BadField kd_BadField kc_BadField di_BadField "BadField.__init__" (defArgs s_BadField) (defBody s_BadField) (defScope s_BadField)
  no_BadField_router : PySem.W.findIn K (.ref c_BadField) "router" = some none
  o_NoRouter : OexC K c_NoRouter
  i_NoRouter : Addr
  di_NoRouter : FuncData
  in_NoRouter : PySem.W.findIn K (.ref c_NoRouter) "__init__" = some (some (.ref i_NoRouter))
  ti_NoRouter : PySem.W.typeIn K (.ref i_NoRouter) = some (.type "function")
  bi_NoRouter : Binds K di_NoRouter ["self", "router"] []
  kd_NoRouter : Addr
  kc_NoRouter : Addr
  Z_NoRouter : SupI prg K mg c_NoRouter i_NoRouter kd_NoRouter kc_NoRouter di_NoRouter "NoRouter.__init__" (defArgs s_NoRouter) (defBody s_NoRouter) (defScope s_NoRouter)
  no_NoRouter_router : PySem.W.findIn K (.ref c_NoRouter) "router" = some none
  o_BadAddress : OexC K c_BadAddress
  i_BadAddress : Addr
  di_BadAddress : FuncData
  in_BadAddress : PySem.W.findIn K (.ref c_BadAddress) "__init__" = some (some (.ref i_BadAddress))
  ti_BadAddress : PySem.W.typeIn K (.ref i_BadAddress) = some (.type "function")
  bi_BadAddress : Binds K di_BadAddress ["self"] []
  kd_BadAddress : Addr
  kc_BadAddress : Addr
  Z_BadAddress : SupI prg K mg c_BadAddress i_BadAddress kd_BadAddress kc_BadAddress di_BadAddress "BadAddress.__init__" (defArgs s_BadAddress) (defBody s_BadAddress) (defScope s_BadAddress)
  xf : XF K mg subs
theorem ok_BadTable {w : World} {K : PySem.W.Frag} {mg : Str → Option Value} {base : Heap} (T : Tx K mg) : FnOk prg w K mg base (L2.CX prg w) 1 T.i_BadTable T.di_BadTable ["self", "index"] (spSup T.c_BadTable ["index"]) :=
  sup1_ok (N := ["self", "index", "__class__"]) T.Z_BadTable T.o_BadTable rfl (NdefX.nscope_by (by decide +kernel)) (by rfl) (by rfl) (by rfl) (by rfl) T.no_BadTable_index (by decide) (by decide)
theorem ok_BadField {w : World} {K : PySem.W.Frag} {mg : Str → Option Value} {base : Heap} (T : Tx K mg) : FnOk prg w K mg base (L2.CX prg w) 1 T.i_BadField T.di_BadField ["self", "router"] (spSup T.c_BadField ["router"]) :=
  sup1_ok (N := ["self", "router", "__class__"]) T.Z_BadField T.o_BadField rfl (NdefX.nscope_by (by decide +kernel)) (by rfl) (by rfl) (by rfl) (by rfl) T.no_BadField_router (by decide) (by decide)
theorem ok_NoRouter {w : World} {K : PySem.W.Frag} {mg : Str → Option Value} {base : Heap} (T : Tx K mg) : FnOk prg w K mg base (L2.CX prg w) 1 T.i_NoRouter T.di_NoRouter ["self", "router"] (spSup T.c_NoRouter ["router"]) :=
  sup1_ok (N := ["self", "router", "__class__"]) T.Z_NoRouter T.o_NoRouter rfl (NdefX.nscope_by (by decide +kernel)) (by rfl) (by rfl) (by rfl) (by rfl) T.no_NoRouter_router (by decide) (by decide)
theorem ok_BadAddress {w : World} {K : PySem.W.Frag} {mg : Str → Option Value} {base : Heap} (T : Tx K mg) : FnOk prg w K mg base (L2.CX prg w) 1 T.i_BadAddress T.di_BadAddress ["self"] (spSup0 T.c_BadAddress) :=
  sup0_ok (N := ["self", "__class__"]) T.Z_BadAddress T.o_BadAddress (NdefX.nscope_by (by decide +kernel)) (by rfl) (by rfl) (by rfl) (by rfl)
theorem ok__law_pool {w : World} {K : PySem.W.Frag} {mg : Str → Option Value} {base : Heap} (T : Tx K mg) : FnOk prg w K mg base (L2.CX prg w) 1 T.a__law_pool T.d__law_pool ["_law_script"] (spD ⟨K, mg, none⟩ [.s] .d f__law_pool) := by
  refine def_ok (μ := u__law_pool) T.F__law_pool sc__law_pool (Pm.of (by decide) (by decide)) rfl (by decide) (by decide) fun cdv A outer s H E hr tk po => ?_
  unfold m__law_pool
  exact (s_cons (s_setLc (i := 1) rfl sc__law_pool.nd rfl rfl (i_val (v_sl (v_name (pv 0)) o_no (o_yes (W := WF) (v_int (md := .s))) false)) (blkOk_by (own := [("_law_cell", 4)]) (by show blkC ["_law_script", "_law_cells", "_law_great", "_law_state", "_law_cell"] (defScope s__law_pool) _ _ = true; decide +kernel)) (fun _ _ _ _ _ => (g_name (i := 4) sc__law_pool.nd rfl (Or.inl rfl))) (fun _ _ _ _ _ => f_none) (fun _ _ _ _ _ => (v_callTyS call_int1 cs_int pu_int (by rfl) T.n_int (by decide +kernel) (l_cons (v_name (pv 4)) (l_nil (dp := true))) (md := .s))) (by decide) (by decide) (by decide) (by decide))
    (s_cons (s_setLc (i := 2) rfl sc__law_pool.nd rfl rfl (i_val (v_name (pv 1))) (blkOk_by (own := [("_law_cell", 4)]) (by show blkC ["_law_script", "_law_cells", "_law_great", "_law_state", "_law_cell"] (defScope s__law_pool) _ _ = true; decide +kernel)) (fun _ _ _ _ _ => (g_name (i := 4) sc__law_pool.nd rfl (Or.inl rfl))) (fun _ _ _ _ _ => (f_one (t_ge (v_callBS call_abs cs_abs pu_abs (by rfl) T.n_abs (by decide +kernel) (l_cons (v_name (pv 4)) (l_nil (dp := true))) (md := .s)) (v_pow (md := .s) (v_int (md := .s)) (v_int (md := .s)))))) (fun _ _ _ _ _ => (v_callBS call_abs cs_abs pu_abs (by rfl) T.n_abs (by decide +kernel) (l_cons (v_name (pv 4)) (l_nil (dp := true))) (md := .d))) (by decide) (by decide) (by decide) (by decide))
    (s_cons (s_set (i := 3) sc__law_pool.nd rfl (Or.inl rfl) (v_int (md := .s)))
    (s_cons (s_for po rfl (i_val (v_name (pv 1))) (g_name (i := 4) sc__law_pool.nd rfl (Or.inl rfl))
    (s_one (s_set (i := 3) sc__law_pool.nd rfl (Or.inl rfl) (v_mod (md := .s) (v_callTyS call_int1 cs_int pu_int (by rfl) T.n_int (by decide +kernel) (l_cons (v_add (v_add (v_mul (md := .s) (v_name (pv 3)) (v_int (md := .s))) (v_mod (md := .s) (v_name (pv 4)) (v_int (md := .s))) false) (v_int (md := .s)) false) (l_nil (dp := true))) (md := .s)) (v_int (md := .s))))))
    (s_one (s_ret (v_dctD (d_cons (v_rd (v_add (v_name (pv 1)) (v_lst (l_cons (v_callBS crv_lenA cs_lenA pu_lenA (by rfl) T.n_len PySem.boot_len (l_cons (v_name (pv 1)) (l_nil (dp := true))) (md := .s)) (l_nil (dp := true)))) false)) (d_cons (v_move (pv 2)) (d_cons (v_int (md := .d)) (d_cons (v_chk (md := .s) (md' := .d) (v_name (pv 3))) (d_cons (v_int (md := .d)) d_nil))))) (aCons_len (aCons_len (aCons_len (aCons_len (aCons_len aNil_len))))))))))))
theorem ok__law_draw {w : World} {K : PySem.W.Frag} {mg : Str → Option Value} {base : Heap} (T : Tx K mg) : FnOk prg w K mg base (L2.CX prg w) 1 T.a__law_draw T.d__law_draw ["_law_pool_here", "_law_many"] (spD ⟨K, mg, none⟩ [.fd, .s] .d f__law_draw) := by
  refine def_ok (μ := u__law_draw) T.F__law_draw sc__law_draw (Pm.of (by decide) (by decide)) rfl (by decide) (by decide) fun cdv A outer s H E hr tk po => ?_
  unfold m__law_draw
  exact (s_cons (s_if (t_pw (t_and (t_lt (v_idx (v_nameA (pv 0)) (v_str (md := .s)) hr) (v_int (md := .s))) (t_and1 (t_gt (v_callBS crv_lenA cs_lenA pu_lenA (by rfl) T.n_len PySem.boot_len (l_cons (v_idx (v_nameA (pv 0)) (v_str (md := .s)) hr) (l_nil (dp := true))) (md := .s)) (v_int (md := .s))))))
    (s_one (s_setLU hr (p_name (pv 0)) (v_str (md := .d)) (v_popAt (p_key hr (p_name (pv 0)) (v_str (md := .s))) (l_cons (v_int (md := .d)) (l_nil (dp := true))))))
    s_nil)
    (s_cons (s_set (i := 2) sc__law_draw.nd rfl (Or.inl rfl) (v_callTyS call_int1 cs_int pu_int (by rfl) T.n_int (by decide +kernel) (l_cons (v_idx (v_nameA (pv 0)) (v_str (md := .s)) hr) (l_nil (dp := true))) (md := .s)))
    (s_cons (s_if (t_gt (v_name (pv 2)) (v_int (md := .s)))
    (s_cons (s_setLU hr (p_name (pv 0)) (v_str (md := .d)) (v_fdiv (md := .d) (v_name (pv 2)) (v_name (pv 1))))
    (s_one (s_ret (v_mod (md := .d) (v_name (pv 2)) (v_name (pv 1))))))
    s_nil)
    (s_cons (s_set (i := 3) sc__law_draw.nd rfl (Or.inl rfl) (v_le (md' := .s) (v_add (v_callTyS call_int1 cs_int pu_int (by rfl) T.n_int (by decide +kernel) (l_cons (v_idx (v_nameA (pv 0)) (v_str (md := .s)) hr) (l_nil (dp := true))) (md := .s)) (v_int (md := .s)) false) (by decide)))
    (s_cons (s_setLU hr (p_name (pv 0)) (v_str (md := .d)) (v_chk (md := .s) (md' := .d) (v_name (pv 3))))
    (s_cons (s_set (i := 4) sc__law_draw.nd rfl (Or.inl rfl) (v_mod (md := .s) (v_callTyS call_int1 cs_int pu_int (by rfl) T.n_int (by decide +kernel) (l_cons (v_idx (v_idx (v_nameA (pv 0)) (v_str (md := .s)) hr) (v_mod (md := .s) (v_name (pv 3)) (v_callBS crv_lenA cs_lenA pu_lenA (by rfl) T.n_len PySem.boot_len (l_cons (v_idx (v_nameA (pv 0)) (v_str (md := .s)) hr) (l_nil (dp := true))) (md := .s))) hr) (l_nil (dp := true))) (md := .s)) (v_int (md := .s))))
    (s_cons (s_set (i := 5) sc__law_draw.nd rfl (Or.inl rfl) (v_mod (md := .s) (v_callTyS call_int1 cs_int pu_int (by rfl) T.n_int (by decide +kernel) (l_cons (v_add (v_add (v_mul (md := .s) (v_callTyS call_int1 cs_int pu_int (by rfl) T.n_int (by decide +kernel) (l_cons (v_idx (v_nameA (pv 0)) (v_str (md := .s)) hr) (l_nil (dp := true))) (md := .s)) (v_int (md := .s))) (v_name (pv 4)) false) (v_mul (md := .s) (v_int (md := .s)) (v_name (pv 3))) false) (l_nil (dp := true))) (md := .s)) (v_int (md := .s))))
    (s_cons (s_setLU hr (p_name (pv 0)) (v_str (md := .d)) (v_chk (md := .s) (md' := .d) (v_name (pv 5))))
    (s_cons (s_set (i := 6) sc__law_draw.nd rfl (Or.inl rfl) (v_mod (md := .s) (v_callTyS call_int1 cs_int pu_int (by rfl) T.n_int (by decide +kernel) (l_cons (v_mul (md := .s) (v_name (pv 5)) (v_add (v_fdiv (md := .s) (v_name (pv 5)) (v_int (md := .s))) (v_int (md := .s)) false)) (l_nil (dp := true))) (md := .s)) (v_int (md := .s))))
    (s_cons (s_set (i := 6) sc__law_draw.nd rfl (Or.inl rfl) (v_mod (md := .s) (v_callTyS call_int1 cs_int pu_int (by rfl) T.n_int (by decide +kernel) (l_cons (v_mul (md := .s) (v_name (pv 6)) (v_add (v_fdiv (md := .s) (v_name (pv 6)) (v_int (md := .s))) (v_int (md := .s)) false)) (l_nil (dp := true))) (md := .s)) (v_int (md := .s))))
    (s_one (s_ret (v_mod (md := .d) (v_fdiv (md := .s) (v_name (pv 6)) (v_int (md := .s))) (v_name (pv 1)))))))))))))))
theorem ok__law_bits {w : World} {K : PySem.W.Frag} {mg : Str → Option Value} {base : Heap} (T : Tx K mg) : FnOk prg w K mg base (L2.CX prg w) 2 T.a__law_bits T.d__law_bits ["_law_pool_here", "_law_most"] (spD ⟨K, mg, none⟩ [.fd, .s] .d f__law_bits) := by
  refine def_ok (μ := u__law_bits) T.F__law_bits sc__law_bits (Pm.of (by decide) (by decide)) rfl (by decide) (by decide) fun cdv A outer s H E hr tk po => ?_
  unfold m__law_bits
  exact (s_one (s_ret (v_join (md := .d) (v_str (md := .s)) (v_lc rfl sc__law_bits.nd (i_rng1 (by rfl) T.n_range (l_cons (v_call (ok__law_draw T) (hr.mono (by decide)) (by rfl) T.m__law_draw T.F__law_draw.kp T.b__law_draw tk (ag_slot (pv 0) (ag_val (v_add (v_name (pv 1)) (v_int (md := .s)) false) ag_nil)) (Pass.of (by decide) (by decide) (by decide) (by decide)) (al := false) (by decide)) (l_nil (dp := true)))) (blkOk_by (own := [("_law_k", 2)]) (by show blkC ["_law_pool_here", "_law_most", "_law_k"] (defScope s__law_bits) _ _ = true; decide +kernel)) (fun _ _ _ _ _ => (g_name (i := 2) sc__law_bits.nd rfl (Or.inl rfl))) (fun _ _ _ _ _ => f_none) (fun _ _ _ _ _ => (v_callTyS cr_str cs_str pu_str (by rfl) T.n_str (by decide +kernel) (l_cons (v_call (ok__law_draw T) (hr.mono (by decide)) (by rfl) T.m__law_draw T.F__law_draw.kp T.b__law_draw takes0 (ag_slot (pv 0) (ag_val (v_int (md := .s)) ag_nil)) (Pass.of (by decide) (by decide) (by decide) (by decide)) (al := false) (by decide)) (l_nil (dp := true))) (md := .s))) (by decide) (by decide) (by decide)))))
theorem ok__law_entries {w : World} {K : PySem.W.Frag} {mg : Str → Option Value} {base : Heap} (T : Tx K mg) : FnOk prg w K mg base (L2.CX prg w) 3 T.a__law_entries T.d__law_entries ["_law_pool_here", "_law_many", "_law_nexts"] (spD ⟨K, mg, none⟩ [.fd, .s, .s] .r f__law_entries) := by
  refine def_ok (μ := u__law_entries) T.F__law_entries sc__law_entries (Pm.of (by decide) (by decide)) rfl (by decide) (by decide) fun cdv A outer s H E hr tk po => ?_
  unfold m__law_entries
  exact (s_cons (s_set (i := 3) sc__law_entries.nd rfl (Or.inr rfl) v_dct0)
    (s_cons (s_for po rfl (i_rng1 (by rfl) T.n_range (l_cons (v_name (pv 1)) (l_nil (dp := true)))) (g_name (i := 4) sc__law_entries.nd rfl (Or.inl rfl))
    (s_cons (s_set (i := 5) sc__law_entries.nd rfl (Or.inl rfl) (v_le (md' := .s) (v_call (ok__law_bits T) (hr.mono (by decide)) (by rfl) T.m__law_bits T.F__law_bits.kp T.b__law_bits tk (ag_slot (pv 0) (ag_val (v_int (md := .s)) ag_nil)) (Pass.of (by decide) (by decide) (by decide) (by decide)) (al := false) (by decide)) (by decide)))
    (s_cons (s_set (i := 6) sc__law_entries.nd rfl (Or.inl rfl) (v_le (md' := .s) (v_call (ok__law_draw T) (hr.mono (by decide)) (by rfl) T.m__law_draw T.F__law_draw.kp T.b__law_draw tk (ag_slot (pv 0) (ag_val (v_int (md := .s)) ag_nil)) (Pass.of (by decide) (by decide) (by decide) (by decide)) (al := false) (by decide)) (by decide)))
    (s_cons (s_if (t_pw (t_and (t_gt (v_name (pv 6)) (v_int (md := .s))) (t_and1 (t_gt (v_callBS crv_lenA cs_lenA pu_lenA (by rfl) T.n_len PySem.boot_len (l_cons (v_nameA (pv 3)) (l_nil (dp := true))) (md := .s)) (v_int (md := .s))))))
    (s_cons (s_set (i := 7) sc__law_entries.nd rfl (Or.inl rfl) (v_idx (v_sortA rfl (by rfl) T.n_sorted (l_cons (v_nameA (pv 3)) (l_nil (dp := true))) true (by decide)) (v_call (ok__law_draw T) (hr.mono (by decide)) (by rfl) T.m__law_draw T.F__law_draw.kp T.b__law_draw tk (ag_slot (pv 0) (ag_val (v_callBS crv_lenA cs_lenA pu_lenA (by rfl) T.n_len PySem.boot_len (l_cons (v_nameA (pv 3)) (l_nil (dp := true))) (md := .s)) ag_nil)) (Pass.of (by decide) (by decide) (by decide) (by decide)) (al := false) (by decide)) hr))
    (s_one (s_if (t_eq (v_name (pv 6)) (v_int (md := .s)) (hr := hr))
    (s_one (s_set (i := 5) sc__law_entries.nd rfl (Or.inl rfl) (v_le (md' := .s) (v_sl (v_add (v_name (pv 7)) (v_name (pv 5)) false) o_no (o_yes (W := WF) (v_int (md := .s))) false) (by decide))))
    (s_one (s_set (i := 5) sc__law_entries.nd rfl (Or.inl rfl) (v_le (md' := .s) (v_add (v_sl (v_name (pv 7)) o_no (o_yes (W := WF) (v_neg (v_int (md := .s)) (md := .s))) false) (v_callTyS cr_str cs_str pu_str (by rfl) T.n_str (by decide +kernel) (l_cons (v_sub (md := .s) (v_int (md := .s)) (v_callTyS call_int1 cs_int pu_int (by rfl) T.n_int (by decide +kernel) (l_cons (v_eq (md := .s) (v_sl (v_name (pv 7)) (o_yes (W := WF) (v_neg (v_int (md := .s)) (md := .s))) o_no false) (v_str (md := .s)) (hr := hr)) (l_nil (dp := true))) (md := .s))) (l_nil (dp := true))) (md := .s)) false) (by decide)))))))
    s_nil)
    (s_one (s_setLU hr (p_name (pv 3)) (v_chk (md := .s) (md' := .d) (v_name (pv 5))) (v_chk (md := .s) (md' := .d) (v_idx (v_name (pv 2)) (v_call (ok__law_draw T) (hr.mono (by decide)) (by rfl) T.m__law_draw T.F__law_draw.kp T.b__law_draw tk (ag_slot (pv 0) (ag_val (v_callBS crv_lenA cs_lenA pu_lenA (by rfl) T.n_len PySem.boot_len (l_cons (v_name (pv 2)) (l_nil (dp := true))) (md := .s)) ag_nil)) (Pass.of (by decide) (by decide) (by decide) (by decide)) (al := false) (by decide)) hr))))))))
    (s_one (s_ret (v_lockD 3 none (v_lc rfl sc__law_entries.nd (i_keysN (i := 3) (pv 3)) (blkOk_by (own := [("_law_bits_here", 5)]) (by show blkC ["_law_pool_here", "_law_many", "_law_nexts", "_law_known", "_law_k", "_law_bits_here", "_law_kind", "_law_earlier"] (defScope s__law_entries) _ _ = true; decide +kernel)) (fun _ _ _ _ _ => (g_name (i := 5) sc__law_entries.nd rfl (Or.inl rfl))) (fun _ _ _ _ _ => f_none) (fun _ _ _ _ _ => (v_le (md' := .s) (v_tup (l_cons (v_name (pv 5)) (l_cons (v_chk (md := .al) (md' := .s) (v_idx (v_nameA (pv 3)) (v_name (pv 5)) hr)) (l_nil (dp := true)))) false) (by decide))) (by decide) (by decide) (by decide)))))))
theorem ok__law_rows {w : World} {K : PySem.W.Frag} {mg : Str → Option Value} {base : Heap} (T : Tx K mg) : FnOk prg w K mg base (L2.CX prg w) 4 T.a__law_rows T.d__law_rows ["_law_pool_here", "_law_size", "_law_most"] (spD ⟨K, mg, none⟩ [.fd, .s, .s] .r f__law_rows) := by
  refine def_ok (μ := u__law_rows) T.F__law_rows sc__law_rows (Pm.of (by decide) (by decide)) rfl (by decide) (by decide) fun cdv A outer s H E hr tk po => ?_
  unfold m__law_rows
  exact (s_cons (s_set (i := 3) sc__law_rows.nd rfl (Or.inr rfl) (v_le (md' := .s) (v_add (v_lst (l_cons (v_str (md := .s)) (l_cons (v_str (md := .s)) (l_nil (dp := true))))) (v_rep (v_lc rfl sc__law_rows.nd (i_rng1 (by rfl) T.n_range (l_cons (v_name (pv 1)) (l_nil (dp := true)))) (blkOk_by (own := [("_law_k", 4)]) (by show blkC ["_law_pool_here", "_law_size", "_law_most", "_law_nexts", "_law_k"] (defScope s__law_rows) _ _ = true; decide +kernel)) (fun _ _ _ _ _ => (g_name (i := 4) sc__law_rows.nd rfl (Or.inl rfl))) (fun _ _ _ _ _ => f_none) (fun _ _ _ _ _ => (v_name (pv 4))) (by decide) (by decide) (by decide)) (v_add (v_int (md := .s)) (v_call (ok__law_draw T) (hr.mono (by decide)) (by rfl) T.m__law_draw T.F__law_draw.kp T.b__law_draw tk (ag_slot (pv 0) (ag_val (v_int (md := .s)) ag_nil)) (Pass.of (by decide) (by decide) (by decide) (by decide)) (al := false) (by decide)) false) false) false) (by decide)))
    (s_one (s_ret (v_lc rfl sc__law_rows.nd (i_rng1 (by rfl) T.n_range (l_cons (v_name (pv 1)) (l_nil (dp := true)))) (blkOk_by (own := [("_law_k", 4)]) (by show blkC ["_law_pool_here", "_law_size", "_law_most", "_law_nexts", "_law_k"] (defScope s__law_rows) _ _ = true; decide +kernel)) (fun _ _ _ _ _ => (g_name (i := 4) sc__law_rows.nd rfl (Or.inl rfl))) (fun _ _ _ _ _ => f_none) (fun _ _ _ _ _ => (v_le (md' := .s) (v_call (ok__law_entries T) (hr.mono (by decide)) (by rfl) T.m__law_entries T.F__law_entries.kp T.b__law_entries takes0 (ag_slot (pv 0) (ag_val (v_call (ok__law_draw T) (hr.mono (by decide)) (by rfl) T.m__law_draw T.F__law_draw.kp T.b__law_draw takes0 (ag_slot (pv 0) (ag_val (v_add (v_name (pv 2)) (v_int (md := .s)) false) ag_nil)) (Pass.of (by decide) (by decide) (by decide) (by decide)) (al := false) (by decide)) (ag_val (v_name (pv 3)) ag_nil))) (Pass.of (by decide) (by decide) (by decide) (by decide)) (al := false) (by decide)) (by decide))) (by decide) (by decide) (by decide)))))
theorem ok_is_bits {w : World} {K : PySem.W.Frag} {mg : Str → Option Value} {base : Heap} (T : Tx K mg) : FnOk prg w K mg base (L2.CX prg w) 1 T.a_is_bits T.d_is_bits ["thing", "least", "most"] (spD ⟨K, mg, none⟩ [.s, .s, .s] .d f_is_bits) := by
  refine def_ok (μ := u_is_bits) T.F_is_bits sc_is_bits (Pm.of (by decide) (by decide)) rfl (by decide) (by decide) fun cdv A outer s H E hr tk po => ?_
  unfold m_is_bits
  exact (s_cons (s_if (t_pw (t_or (t_not (t_val (v_callBS crv_isi (cs_isiO T.ot) pu_isiO (by rfl) T.n_isinstance PyProof.Rows.boot_isinstance (l_cons (v_name (pv 0)) (l_cons (v_ty (md := .s) (by rfl) T.n_str (by decide +kernel)) (l_nil (dp := true)))) (md := .s)))) (t_or (t_lt (v_callBS crv_lenA cs_lenA pu_lenA (by rfl) T.n_len PySem.boot_len (l_cons (v_name (pv 0)) (l_nil (dp := true))) (md := .s)) (v_name (pv 1))) (t_or1 (t_gt (v_callBS crv_lenA cs_lenA pu_lenA (by rfl) T.n_len PySem.boot_len (l_cons (v_name (pv 0)) (l_nil (dp := true))) (md := .s)) (v_name (pv 2)))))))
    (s_one (s_ret (v_bl (md := .d))))
    s_nil)
    (s_one (s_ret (v_eq (md := .d) (v_add (v_count (md := .s) (v_name (pv 0)) (v_str (md := .s))) (v_count (md := .s) (v_name (pv 0)) (v_str (md := .s))) false) (v_callBS crv_lenA cs_lenA pu_lenA (by rfl) T.n_len PySem.boot_len (l_cons (v_name (pv 0)) (l_nil (dp := true))) (md := .s)) (hr := hr)))))
theorem ok_is_range {w : World} {K : PySem.W.Frag} {mg : Str → Option Value} {base : Heap} (T : Tx K mg) : FnOk prg w K mg base (L2.CX prg w) 2 T.a_is_range T.d_is_range ["thing"] (spD ⟨K, mg, none⟩ [.s] .d f_is_range) := by
  refine def_ok (μ := u_is_range) T.F_is_range sc_is_range (Pm.of (by decide) (by decide)) rfl (by decide) (by decide) fun cdv A outer s H E hr tk po => ?_
  unfold m_is_range
  exact (s_one (s_ret (v_call (ok_is_bits T) (hr.mono (by decide)) (by rfl) T.m_is_bits T.F_is_bits.kp T.b_is_bits tk (ag_val (v_name (pv 0)) (ag_val (v_int (md := .s)) (ag_val (v_gint (md := .s) (by rfl) T.km_LENGTH T.kr_LENGTH) ag_nil))) (Pass.of (by decide) (by decide) (by decide) (by decide)) (al := false) (by decide))))
theorem ok_is_integer {w : World} {K : PySem.W.Frag} {mg : Str → Option Value} {base : Heap} (T : Tx K mg) : FnOk prg w K mg base (L2.CX prg w) 1 T.a_is_integer T.d_is_integer ["thing"] (spD ⟨K, mg, none⟩ [.s] .d f_is_integer) := by
  refine def_ok (μ := u_is_integer) T.F_is_integer sc_is_integer (Pm.of (by decide) (by decide)) rfl (by decide) (by decide) fun cdv A outer s H E hr tk po => ?_
  unfold m_is_integer
  exact (s_one (s_ret (v_and (v_callBS crv_isi (cs_isiO T.ot) pu_isiO (by rfl) T.n_isinstance PyProof.Rows.boot_isinstance (l_cons (v_name (pv 0)) (l_cons (v_ty (md := .s) (by rfl) T.n_int (by decide +kernel)) (l_nil (dp := true)))) (md := .s)) (v_one (v_not (v_callBS crv_isi (cs_isiO T.ot) pu_isiO (by rfl) T.n_isinstance PyProof.Rows.boot_isinstance (l_cons (v_name (pv 0)) (l_cons (v_ty (md := .s) (by rfl) T.n_bool (by decide +kernel)) (l_nil (dp := true)))) (md := .s)) (md := .d))))))
theorem ok_is_next {w : World} {K : PySem.W.Frag} {mg : Str → Option Value} {base : Heap} (T : Tx K mg) : FnOk prg w K mg base (L2.CX prg w) 2 T.a_is_next T.d_is_next ["thing"] (spD ⟨K, mg, none⟩ [.s] .d f_is_next) := by
  refine def_ok (μ := u_is_next) T.F_is_next sc_is_next (Pm.of (by decide) (by decide)) rfl (by decide) (by decide) fun cdv A outer s H E hr tk po => ?_
  unfold m_is_next
  exact (s_cons (s_if (t_val (v_callBS crv_isi (cs_isiO T.ot) pu_isiO (by rfl) T.n_isinstance PyProof.Rows.boot_isinstance (l_cons (v_name (pv 0)) (l_cons (v_ty (md := .s) (by rfl) T.n_str (by decide +kernel)) (l_nil (dp := true)))) (md := .s)))
    (s_one (s_ret (v_or (v_eq (md := .s) (v_name (pv 0)) (v_str (md := .s)) (hr := hr)) (v_one (v_eq (md := .d) (v_name (pv 0)) (v_str (md := .s)) (hr := hr))))))
    s_nil)
    (s_one (s_ret (v_and (v_call (ok_is_integer T) (hr.mono (by decide)) (by rfl) T.m_is_integer T.F_is_integer.kp T.b_is_integer tk (ag_val (v_name (pv 0)) ag_nil) (Pass.of (by decide) (by decide) (by decide) (by decide)) (al := false) (by decide)) (v_one (v_chain (md := .d) op_le op_lt ops_le ops_lt pu_le pu_lt (v_int (md := .s)) (v_name (pv 0)) (v_gint (md := .s) (by rfl) T.km_ROUTERS T.kr_ROUTERS)))))))
theorem ok_is_entry {w : World} {K : PySem.W.Frag} {mg : Str → Option Value} {base : Heap} (T : Tx K mg) : FnOk prg w K mg base (L2.CX prg w) 3 T.a_is_entry T.d_is_entry ["thing"] (spD ⟨K, mg, none⟩ [.s] .d f_is_entry) := by
  refine def_ok (μ := u_is_entry) T.F_is_entry sc_is_entry (Pm.of (by decide) (by decide)) rfl (by decide) (by decide) fun cdv A outer s H E hr tk po => ?_
  unfold m_is_entry
  exact (s_cons (s_if (t_pw (t_or (t_not (t_val (v_callBS crv_isi (cs_isiO T.ot) pu_isiO (by rfl) T.n_isinstance PyProof.Rows.boot_isinstance (l_cons (v_name (pv 0)) (l_cons (v_ty (md := .s) (by rfl) T.n_tuple (by decide +kernel)) (l_nil (dp := true)))) (md := .s)))) (t_or1 (t_ne (v_callBS crv_lenA cs_lenA pu_lenA (by rfl) T.n_len PySem.boot_len (l_cons (v_name (pv 0)) (l_nil (dp := true))) (md := .s)) (v_int (md := .s)) (hr := hr)))))
    (s_one (s_ret (v_bl (md := .d))))
    s_nil)
    (s_one (s_ret (v_and (v_call (ok_is_range T) (hr.mono (by decide)) (by rfl) T.m_is_range T.F_is_range.kp T.b_is_range tk (ag_val (v_idx (v_name (pv 0)) (v_int (md := .s)) hr) ag_nil) (Pass.of (by decide) (by decide) (by decide) (by decide)) (al := false) (by decide)) (v_one (v_call (ok_is_next T) (hr.mono (by decide)) (by rfl) T.m_is_next T.F_is_next.kp T.b_is_next tk (ag_val (v_idx (v_name (pv 0)) (v_int (md := .s)) hr) ag_nil) (Pass.of (by decide) (by decide) (by decide) (by decide)) (al := false) (by decide)))))))
theorem ok_Table__init {w : World} {K : PySem.W.Frag} {mg : Str → Option Value} {base : Heap} (T : Tx K mg) : FnOk prg w K mg base (L2.CX prg w) 4 T.a_Table__init T.d_Table__init ["self", "entries"] (spD ⟨K, mg, none⟩ [.fr, .s] .r f_Table__init) := by
  refine def_ok (μ := u_Table__init) T.F_Table__init sc_Table__init (Pm.of (by decide) (by decide)) rfl (by decide) (by decide) fun cdv A outer s H E hr tk po => ?_
  unfold m_Table__init
  exact (s_cons (s_if (t_pw (t_or (t_not (t_val (v_callBS crv_isi (cs_isiO T.ot) pu_isiO (by rfl) T.n_isinstance PyProof.Rows.boot_isinstance (l_cons (v_name (pv 1)) (l_cons (v_tup (l_cons (v_ty (md := .s) (by rfl) T.n_list (by decide +kernel)) (l_cons (v_ty (md := .s) (by rfl) T.n_tuple (by decide +kernel)) (l_nil (dp := true)))) false) (l_nil (dp := true)))) (md := .s)))) (t_or1 (t_gt (v_callBS crv_lenA cs_lenA pu_lenA (by rfl) T.n_len PySem.boot_len (l_cons (v_name (pv 1)) (l_nil (dp := true))) (md := .s)) (v_gint (md := .s) (by rfl) T.km_MOST_ENTRIES T.kr_MOST_ENTRIES)))))
    (s_one (s_raise rfl tk T.o_BadTable T.in_BadTable T.ti_BadTable (ok_BadTable T) (hr.mono (by decide)) T.bi_BadTable (by rfl) T.mc_BadTable (l_cons (v_neg (v_int (md := .s)) (md := .s)) (l_nil (dp := true)))))
    s_nil)
    (s_cons (s_set (i := 2) sc_Table__init.nd rfl (Or.inr rfl) v_dct0)
    (s_cons (s_for po rfl (i_rng1 (by rfl) T.n_range (l_cons (v_callBS crv_lenA cs_lenA pu_lenA (by rfl) T.n_len PySem.boot_len (l_cons (v_name (pv 1)) (l_nil (dp := true))) (md := .s)) (l_nil (dp := true)))) (g_name (i := 3) sc_Table__init.nd rfl (Or.inl rfl))
    (s_cons (s_set (i := 4) sc_Table__init.nd rfl (Or.inl rfl) (v_idx (v_name (pv 1)) (v_name (pv 3)) hr))
    (s_cons (s_if (t_pw (t_or (t_not (t_val (v_call (ok_is_entry T) (hr.mono (by decide)) (by rfl) T.m_is_entry T.F_is_entry.kp T.b_is_entry tk (ag_val (v_name (pv 4)) ag_nil) (Pass.of (by decide) (by decide) (by decide) (by decide)) (al := false) (by decide)))) (t_or1 (t_in (v_idx (v_name (pv 4)) (v_int (md := .s)) hr) (v_nameA (pv 2)) (hr := hr) (hm := by rfl)))))
    (s_one (s_raise rfl tk T.o_BadTable T.in_BadTable T.ti_BadTable (ok_BadTable T) (hr.mono (by decide)) T.bi_BadTable (by rfl) T.mc_BadTable (l_cons (v_name (pv 3)) (l_nil (dp := true)))))
    s_nil)
    (s_one (s_setLU hr (p_name (pv 2)) (v_chk (md := .s) (md' := .d) (v_idx (v_name (pv 4)) (v_int (md := .s)) hr)) (v_chk (md := .s) (md' := .d) (v_idx (v_name (pv 4)) (v_int (md := .s)) hr)))))))
    (s_one (s_putF T.cf (p_name (pv 0)) (v_le (md' := .s) (v_callTy call_tuple_of cs_tuple (by rfl) T.n_tuple (by decide +kernel) (l_cons (v_lc rfl sc_Table__init.nd (i_val (v_sortA rfl (by rfl) T.n_sorted (l_cons (v_nameA (pv 2)) (l_nil (dp := true))) true (by decide))) (blkOk_by (own := [("bits", 5)]) (by show blkC ["self", "entries", "known", "index", "entry", "bits"] (defScope s_Table__init) _ _ = true; decide +kernel)) (fun _ _ _ _ _ => (g_name (i := 5) sc_Table__init.nd rfl (Or.inl rfl))) (fun _ _ _ _ _ => f_none) (fun _ _ _ _ _ => (v_le (md' := .s) (v_tup (l_cons (v_name (pv 5)) (l_cons (v_chk (md := .al) (md' := .s) (v_idx (v_nameA (pv 2)) (v_name (pv 5)) hr)) (l_nil (dp := true)))) false) (by decide))) (by decide) (by decide) (by decide)) (l_nil (dp := true))) false (by decide)) (by decide)))))))
theorem ok_fits_field {w : World} {K : PySem.W.Frag} {mg : Str → Option Value} {base : Heap} (T : Tx K mg) : FnOk prg w K mg base (L2.CX prg w) 2 T.a_fits_field T.d_fits_field ["table", "size"] (spD ⟨K, mg, none⟩ [.s, .s] .d f_fits_field) := by
  refine def_ok (μ := u_fits_field) T.F_fits_field sc_fits_field (Pm.of (by decide) (by decide)) rfl (by decide) (by decide) fun cdv A outer s H E hr tk po => ?_
  unfold m_fits_field
  exact (s_cons (s_if (t_not (t_val (v_callBS crv_isi (cs_isiO T.ot) pu_isiO (by rfl) T.n_isinstance PyProof.Rows.boot_isinstance (l_cons (v_name (pv 0)) (l_cons (v_cls (md := .s) (by rfl) T.mc_Table) (l_nil (dp := true)))) (md := .s))))
    (s_one (s_ret (v_bl (md := .d))))
    s_nil)
    (s_cons (s_for po rfl (i_val (v_fld T.cf (v_name (pv 0)))) (g_tup 2 rfl (gs_cons (g_name (i := 2) sc_fits_field.nd rfl (Or.inl rfl)) (gs_cons (g_name (i := 3) sc_fits_field.nd rfl (Or.inl rfl)) gs_nil)))
    (s_one (s_if (t_pw (t_and (t_val (v_call (ok_is_integer T) (hr.mono (by decide)) (by rfl) T.m_is_integer T.F_is_integer.kp T.b_is_integer tk (ag_val (v_name (pv 3)) ag_nil) (Pass.of (by decide) (by decide) (by decide) (by decide)) (al := false) (by decide))) (t_and1 (t_ge (v_name (pv 3)) (v_name (pv 1))))))
    (s_one (s_ret (v_bl (md := .d))))
    s_nil)))
    (s_one (s_ret (v_bl (md := .d))))))
theorem ok_Field__init {w : World} {K : PySem.W.Frag} {mg : Str → Option Value} {base : Heap} (T : Tx K mg) : FnOk prg w K mg base (L2.CX prg w) 3 T.a_Field__init T.d_Field__init ["self", "tables"] (spD ⟨K, mg, none⟩ [.fr, .s] .r f_Field__init) := by
  refine def_ok (μ := u_Field__init) T.F_Field__init sc_Field__init (Pm.of (by decide) (by decide)) rfl (by decide) (by decide) fun cdv A outer s H E hr tk po => ?_
  unfold m_Field__init
  exact (s_cons (s_if (t_pw (t_or (t_not (t_val (v_callBS crv_isi (cs_isiO T.ot) pu_isiO (by rfl) T.n_isinstance PyProof.Rows.boot_isinstance (l_cons (v_name (pv 1)) (l_cons (v_ty (md := .s) (by rfl) T.n_tuple (by decide +kernel)) (l_nil (dp := true)))) (md := .s)))) (t_or1 (t_not (t_chain op_le op_le ops_le ops_le bl_le bl_le (v_int (md := .s)) (v_callBS crv_lenA cs_lenA pu_lenA (by rfl) T.n_len PySem.boot_len (l_cons (v_name (pv 1)) (l_nil (dp := true))) (md := .s)) (v_int (md := .s)))))))
    (s_one (s_raise rfl tk T.o_BadField T.in_BadField T.ti_BadField (ok_BadField T) (hr.mono (by decide)) T.bi_BadField (by rfl) T.mc_BadField (l_cons (v_neg (v_int (md := .s)) (md := .s)) (l_nil (dp := true)))))
    s_nil)
    (s_cons (s_for po rfl (i_rng1 (by rfl) T.n_range (l_cons (v_callBS crv_lenA cs_lenA pu_lenA (by rfl) T.n_len PySem.boot_len (l_cons (v_name (pv 1)) (l_nil (dp := true))) (md := .s)) (l_nil (dp := true)))) (g_name (i := 2) sc_Field__init.nd rfl (Or.inl rfl))
    (s_one (s_if (t_not (t_val (v_call (ok_fits_field T) (hr.mono (by decide)) (by rfl) T.m_fits_field T.F_fits_field.kp T.b_fits_field tk (ag_val (v_idx (v_name (pv 1)) (v_name (pv 2)) hr) (ag_val (v_callBS crv_lenA cs_lenA pu_lenA (by rfl) T.n_len PySem.boot_len (l_cons (v_name (pv 1)) (l_nil (dp := true))) (md := .s)) ag_nil)) (Pass.of (by decide) (by decide) (by decide) (by decide)) (al := false) (by decide))))
    (s_one (s_raise rfl tk T.o_BadField T.in_BadField T.ti_BadField (ok_BadField T) (hr.mono (by decide)) T.bi_BadField (by rfl) T.mc_BadField (l_cons (v_name (pv 2)) (l_nil (dp := true)))))
    s_nil)))
    (s_cons (s_putF T.cf (p_name (pv 0)) (v_callBS crv_lenA cs_lenA pu_lenA (by rfl) T.n_len PySem.boot_len (l_cons (v_name (pv 1)) (l_nil (dp := true))) (md := .s)))
    (s_one (s_putF T.cf (p_name (pv 0)) (v_name (pv 1)))))))
theorem ok__law_address {w : World} {K : PySem.W.Frag} {mg : Str → Option Value} {base : Heap} (T : Tx K mg) : FnOk prg w K mg base (L2.CX prg w) 2 T.a__law_address T.d__law_address ["_law_pool_here", "_law_rows_here"] (spD ⟨K, mg, none⟩ [.fd, .s] .s f__law_address) := by
  refine def_ok (μ := u__law_address) T.F__law_address sc__law_address (Pm.of (by decide) (by decide)) rfl (by decide) (by decide) fun cdv A outer s H E hr tk po => ?_
  unfold m__law_address
  exact (s_cons (s_set (i := 2) sc__law_address.nd rfl (Or.inl rfl) (v_join (md := .s) (v_str (md := .s)) (v_lc rfl sc__law_address.nd (i_rng1 (by rfl) T.n_range (l_cons (v_int (md := .s)) (l_nil (dp := true)))) (blkOk_by (own := [("_law_k", 4)]) (by show blkC ["_law_pool_here", "_law_rows_here", "_law_bits_here", "_law_entries_here", "_law_k"] (defScope s__law_address) _ _ = true; decide +kernel)) (fun _ _ _ _ _ => (g_name (i := 4) sc__law_address.nd rfl (Or.inl rfl))) (fun _ _ _ _ _ => f_none) (fun _ _ _ _ _ => (v_callTyS cr_str cs_str pu_str (by rfl) T.n_str (by decide +kernel) (l_cons (v_call (ok__law_draw T) (hr.mono (by decide)) (by rfl) T.m__law_draw T.F__law_draw.kp T.b__law_draw takes0 (ag_slot (pv 0) (ag_val (v_int (md := .s)) ag_nil)) (Pass.of (by decide) (by decide) (by decide) (by decide)) (al := false) (by decide)) (l_nil (dp := true))) (md := .s))) (by decide) (by decide) (by decide))))
    (s_cons (s_set (i := 3) sc__law_address.nd rfl (Or.inl rfl) (v_idx (v_name (pv 1)) (v_call (ok__law_draw T) (hr.mono (by decide)) (by rfl) T.m__law_draw T.F__law_draw.kp T.b__law_draw tk (ag_slot (pv 0) (ag_val (v_callBS crv_lenA cs_lenA pu_lenA (by rfl) T.n_len PySem.boot_len (l_cons (v_name (pv 1)) (l_nil (dp := true))) (md := .s)) ag_nil)) (Pass.of (by decide) (by decide) (by decide) (by decide)) (al := false) (by decide)) hr))
    (s_cons (s_if (t_pw (t_or (t_eq (v_callBS crv_lenA cs_lenA pu_lenA (by rfl) T.n_len PySem.boot_len (l_cons (v_name (pv 3)) (l_nil (dp := true))) (md := .s)) (v_int (md := .s)) (hr := hr)) (t_or1 (t_eq (v_call (ok__law_draw T) (hr.mono (by decide)) (by rfl) T.m__law_draw T.F__law_draw.kp T.b__law_draw tk (ag_slot (pv 0) (ag_val (v_int (md := .s)) ag_nil)) (Pass.of (by decide) (by decide) (by decide) (by decide)) (al := false) (by decide)) (v_int (md := .s)) (hr := hr)))))
    (s_one (s_ret (v_name (pv 2))))
    s_nil)
    (s_one (s_ret (v_le (md' := .s) (v_sl (v_add (v_idx (v_idx (v_name (pv 3)) (v_call (ok__law_draw T) (hr.mono (by decide)) (by rfl) T.m__law_draw T.F__law_draw.kp T.b__law_draw tk (ag_slot (pv 0) (ag_val (v_callBS crv_lenA cs_lenA pu_lenA (by rfl) T.n_len PySem.boot_len (l_cons (v_name (pv 3)) (l_nil (dp := true))) (md := .s)) ag_nil)) (Pass.of (by decide) (by decide) (by decide) (by decide)) (al := false) (by decide)) hr) (v_int (md := .s)) hr) (v_name (pv 2)) false) o_no (o_yes (W := WF) (v_int (md := .s))) false) (by decide)))))))
theorem ok__law_longest {w : World} {K : PySem.W.Frag} {mg : Str → Option Value} {base : Heap} (T : Tx K mg) : FnOk prg w K mg base (L2.CX prg w) 1 T.a__law_longest T.d__law_longest ["_law_entries_here", "_law_address_here"] (spD ⟨K, mg, none⟩ [.s, .s] .s f__law_longest) := by
  refine def_ok (μ := u__law_longest) T.F__law_longest sc__law_longest (Pm.of (by decide) (by decide)) rfl (by decide) (by decide) fun cdv A outer s H E hr tk po => ?_
  unfold m__law_longest
  exact (s_cons (s_set (i := 2) sc__law_longest.nd rfl (Or.inl rfl) (v_str (md := .s)))
    (s_cons (s_set (i := 3) sc__law_longest.nd rfl (Or.inl rfl) (v_neg (v_int (md := .s)) (md := .s)))
    (s_cons (s_for po rfl (i_val (v_name (pv 0))) (g_tup 2 rfl (gs_cons (g_name (i := 4) sc__law_longest.nd rfl (Or.inl rfl)) (gs_cons (g_name (i := 5) sc__law_longest.nd rfl (Or.inl rfl)) gs_nil)))
    (s_one (s_if (t_pw (t_and (t_gt (v_callBS crv_lenA cs_lenA pu_lenA (by rfl) T.n_len PySem.boot_len (l_cons (v_name (pv 4)) (l_nil (dp := true))) (md := .s)) (v_name (pv 3))) (t_and1 (t_eq (v_sl (v_name (pv 1)) o_no (o_yes (W := WF) (v_callBS crv_lenA cs_lenA pu_lenA (by rfl) T.n_len PySem.boot_len (l_cons (v_name (pv 4)) (l_nil (dp := true))) (md := .s))) false) (v_name (pv 4)) (hr := hr)))))
    (s_cons (s_set (i := 2) sc__law_longest.nd rfl (Or.inl rfl) (v_name (pv 5)))
    (s_one (s_set (i := 3) sc__law_longest.nd rfl (Or.inl rfl) (v_callBS crv_lenA cs_lenA pu_lenA (by rfl) T.n_len PySem.boot_len (l_cons (v_name (pv 4)) (l_nil (dp := true))) (md := .s)))))
    s_nil)))
    (s_one (s_ret (v_name (pv 2)))))))
theorem ok__law_due {w : World} {K : PySem.W.Frag} {mg : Str → Option Value} {base : Heap} (T : Tx K mg) : FnOk prg w K mg base (L2.CX prg w) 1 T.a__law_due T.d__law_due ["_law_nexts", "_law_start"] (spD ⟨K, mg, none⟩ [.s, .s] .s f__law_due) := by
  refine def_ok (μ := u__law_due) T.F__law_due sc__law_due (Pm.of (by decide) (by decide)) rfl (by decide) (by decide) fun cdv A outer s H E hr tk po => ?_
  unfold m__law_due
  exact (s_cons (s_set (i := 2) sc__law_due.nd rfl (Or.inl rfl) (v_name (pv 1)))
    (s_cons (s_set (i := 3) sc__law_due.nd rfl (Or.inl rfl) (v_lstD (l_nil (dp := true))))
    (s_cons (s_for po rfl (i_rng1 (by rfl) T.n_range (l_cons (v_int (md := .s)) (l_nil (dp := true)))) (g_name (i := 4) sc__law_due.nd rfl (Or.inl rfl))
    (s_cons (s_if (t_val (v_callBS crv_isi (cs_isiO T.ot) pu_isiO (by rfl) T.n_isinstance PyProof.Rows.boot_isinstance (l_cons (v_idx (v_name (pv 0)) (v_name (pv 2)) hr) (l_cons (v_ty (md := .s) (by rfl) T.n_str (by decide +kernel)) (l_nil (dp := true)))) (md := .s)))
    (s_one (s_ret (v_le (md' := .s) (v_tup (l_cons (v_idx (v_name (pv 0)) (v_name (pv 2)) hr) (l_cons (v_name (pv 2)) (l_cons (v_name (pv 4)) (l_nil (dp := true))))) false) (by decide))))
    s_nil)
    (s_cons (s_expr (v_append (p_name (pv 3)) (l_cons (v_chk (md := .s) (md' := .d) (v_name (pv 2))) (l_nil (dp := true)))))
    (s_cons (s_set (i := 2) sc__law_due.nd rfl (Or.inl rfl) (v_idx (v_name (pv 0)) (v_name (pv 2)) hr))
    (s_one (s_if (t_in (v_name (pv 2)) (v_nameA (pv 3)) (hr := hr) (hm := by rfl))
    (s_cons (s_set (i := 5) sc__law_due.nd rfl (Or.inl rfl) (v_le (md' := .s) (v_sl (v_nameA (pv 3)) (o_yes (W := WF) (v_index (md := .s) (v_nameA (pv 3)) (v_name (pv 2)))) o_no true) (by decide)))
    (s_cons (s_set (i := 6) sc__law_due.nd rfl (Or.inl rfl) (v_index (md := .s) (v_name (pv 5)) (v_min (md := .s) rfl (by rfl) T.n_min (l_cons (v_name (pv 5)) (l_nil (dp := true))))))
    (s_one (s_ret (v_le (md' := .s) (v_tup (l_cons (v_str (md := .s)) (l_cons (v_callTy call_tuple_of cs_tuple (by rfl) T.n_tuple (by decide +kernel) (l_cons (v_add (v_sl (v_name (pv 5)) (o_yes (W := WF) (v_name (pv 6))) o_no false) (v_sl (v_name (pv 5)) o_no (o_yes (W := WF) (v_name (pv 6))) false) false) (l_nil (dp := true))) false (by decide)) (l_nil (dp := true)))) false) (by decide))))))
    s_nil))))))
    (s_one (s_ret (v_non (md := .s)))))))
theorem ok_is_router {w : World} {K : PySem.W.Frag} {mg : Str → Option Value} {base : Heap} (T : Tx K mg) : FnOk prg w K mg base (L2.CX prg w) 2 T.a_is_router T.d_is_router ["size", "thing"] (spD ⟨K, mg, none⟩ [.s, .s] .d f_is_router) := by
  refine def_ok (μ := u_is_router) T.F_is_router sc_is_router (Pm.of (by decide) (by decide)) rfl (by decide) (by decide) fun cdv A outer s H E hr tk po => ?_
  unfold m_is_router
  exact (s_one (s_ret (v_and (v_call (ok_is_integer T) (hr.mono (by decide)) (by rfl) T.m_is_integer T.F_is_integer.kp T.b_is_integer tk (ag_val (v_name (pv 1)) ag_nil) (Pass.of (by decide) (by decide) (by decide) (by decide)) (al := false) (by decide)) (v_one (v_chain (md := .d) op_le op_lt ops_le ops_lt pu_le pu_lt (v_int (md := .s)) (v_name (pv 1)) (v_name (pv 0)))))))
theorem ok_check_router {w : World} {K : PySem.W.Frag} {mg : Str → Option Value} {base : Heap} (T : Tx K mg) : FnOk prg w K mg base (L2.CX prg w) 3 T.a_check_router T.d_check_router ["size", "thing"] (spD ⟨K, mg, none⟩ [.s, .s] .d f_check_router) := by
  refine def_ok (μ := u_check_router) T.F_check_router sc_check_router (Pm.of (by decide) (by decide)) rfl (by decide) (by decide) fun cdv A outer s H E hr tk po => ?_
  unfold m_check_router
  exact (s_one (s_if (t_not (t_val (v_call (ok_is_router T) (hr.mono (by decide)) (by rfl) T.m_is_router T.F_is_router.kp T.b_is_router tk (ag_val (v_name (pv 0)) (ag_val (v_name (pv 1)) ag_nil)) (Pass.of (by decide) (by decide) (by decide) (by decide)) (al := false) (by decide))))
    (s_one (s_raise rfl tk T.o_NoRouter T.in_NoRouter T.ti_NoRouter (ok_NoRouter T) (hr.mono (by decide)) T.bi_NoRouter (by rfl) T.mc_NoRouter (l_cons (v_name (pv 1)) (l_nil (dp := true)))))
    s_nil))
theorem ok_check_address {w : World} {K : PySem.W.Frag} {mg : Str → Option Value} {base : Heap} (T : Tx K mg) : FnOk prg w K mg base (L2.CX prg w) 3 T.a_check_address T.d_check_address ["thing"] (spD ⟨K, mg, none⟩ [.s] .d f_check_address) := by
  refine def_ok (μ := u_check_address) T.F_check_address sc_check_address (Pm.of (by decide) (by decide)) rfl (by decide) (by decide) fun cdv A outer s H E hr tk po => ?_
  unfold m_check_address
  exact (s_one (s_if (t_not (t_val (v_call (ok_is_bits T) (hr.mono (by decide)) (by rfl) T.m_is_bits T.F_is_bits.kp T.b_is_bits tk (ag_val (v_name (pv 0)) (ag_val (v_gint (md := .s) (by rfl) T.km_LENGTH T.kr_LENGTH) (ag_val (v_gint (md := .s) (by rfl) T.km_LENGTH T.kr_LENGTH) ag_nil))) (Pass.of (by decide) (by decide) (by decide) (by decide)) (al := false) (by decide))))
    (s_one (s_raise0 rfl tk T.o_BadAddress T.in_BadAddress T.ti_BadAddress (ok_BadAddress T) (hr.mono (by decide)) T.bi_BadAddress (by rfl) T.mc_BadAddress))
    s_nil))
theorem ok_turned {w : World} {K : PySem.W.Frag} {mg : Str → Option Value} {base : Heap} (T : Tx K mg) : FnOk prg w K mg base (L2.CX prg w) 1 T.a_turned T.d_turned ["routers"] (spD ⟨K, mg, none⟩ [.s] .s f_turned) := by
  refine def_ok (μ := u_turned) T.F_turned sc_turned (Pm.of (by decide) (by decide)) rfl (by decide) (by decide) fun cdv A outer s H E hr tk po => ?_
  unfold m_turned
  exact (s_cons (s_set (i := 1) sc_turned.nd rfl (Or.inl rfl) (v_index (md := .s) (v_name (pv 0)) (v_min (md := .s) rfl (by rfl) T.n_min (l_cons (v_name (pv 0)) (l_nil (dp := true))))))
    (s_one (s_ret (v_le (md' := .s) (v_callTy call_tuple_of cs_tuple (by rfl) T.n_tuple (by decide +kernel) (l_cons (v_add (v_sl (v_name (pv 0)) (o_yes (W := WF) (v_name (pv 1))) o_no false) (v_sl (v_name (pv 0)) o_no (o_yes (W := WF) (v_name (pv 1))) false) false) (l_nil (dp := true))) false (by decide)) (by decide)))))
theorem ok_follow {w : World} {K : PySem.W.Frag} {mg : Str → Option Value} {base : Heap} (T : Tx K mg) : FnOk prg w K mg base (L2.CX prg w) 2 T.a_follow T.d_follow ["nexts", "start"] (spD ⟨K, mg, none⟩ [.s, .s] .s f_follow) := by
  refine def_ok (μ := u_follow) T.F_follow sc_follow (Pm.of (by decide) (by decide)) rfl (by decide) (by decide) fun cdv A outer s H E hr tk po => ?_
  unfold m_follow
  exact (s_cons (s_set (i := 2) sc_follow.nd rfl (Or.inl rfl) (v_lstD (l_cons (v_chk (md := .s) (md' := .d) (v_name (pv 1))) (l_nil (dp := true)))))
    (s_one (s_while 200 po (t_val (v_bl (md := .s)))
    (s_cons (s_set (i := 3) sc_follow.nd rfl (Or.inl rfl) (v_idx (v_name (pv 0)) (v_idx (v_nameA (pv 2)) (v_neg (v_int (md := .s)) (md := .s)) hr) hr))
    (s_cons (s_if (t_pw (t_or (t_eq (v_name (pv 3)) (v_str (md := .s)) (hr := hr)) (t_or1 (t_eq (v_name (pv 3)) (v_str (md := .s)) (hr := hr)))))
    (s_one (s_ret (v_le (md' := .s) (v_tup (l_cons (v_name (pv 3)) (l_cons (v_chk (md := .al) (md' := .s) (v_idx (v_nameA (pv 2)) (v_neg (v_int (md := .s)) (md := .s)) hr)) (l_cons (v_sub (md := .s) (v_callBS crv_lenA cs_lenA pu_lenA (by rfl) T.n_len PySem.boot_len (l_cons (v_nameA (pv 2)) (l_nil (dp := true))) (md := .s)) (v_int (md := .s))) (l_nil (dp := true))))) false) (by decide))))
    s_nil)
    (s_cons (s_if (t_in (v_name (pv 3)) (v_nameA (pv 2)) (hr := hr) (hm := by rfl))
    (s_one (s_ret (v_le (md' := .s) (v_tup (l_cons (v_str (md := .s)) (l_cons (v_call (ok_turned T) (hr.mono (by decide)) (by rfl) T.m_turned T.F_turned.kp T.b_turned tk (ag_val (v_sl (v_nameA (pv 2)) (o_yes (W := WF) (v_index (md := .s) (v_nameA (pv 2)) (v_name (pv 3)))) o_no true) ag_nil) (Pass.of (by decide) (by decide) (by decide) (by decide)) (al := false) (by decide)) (l_nil (dp := true)))) false) (by decide))))
    s_nil)
    (s_one (s_expr (v_append (p_name (pv 2)) (l_cons (v_chk (md := .s) (md' := .d) (v_name (pv 3))) (l_nil (dp := true))))))))))))
theorem ok_Table__onward {w : World} {K : PySem.W.Frag} {mg : Str → Option Value} {base : Heap} (T : Tx K mg) : FnOk prg w K mg base (L2.CX prg w) 4 T.a_Table__onward T.d_Table__onward ["self", "address"] (spD ⟨K, mg, none⟩ [.s, .s] .s f_Table__onward) := by
  refine def_ok (μ := u_Table__onward) T.F_Table__onward sc_Table__onward (Pm.of (by decide) (by decide)) rfl (by decide) (by decide) fun cdv A outer s H E hr tk po => ?_
  unfold m_Table__onward
  exact (s_cons (s_expr (v_call (ok_check_address T) (hr.mono (by decide)) (by rfl) T.m_check_address T.F_check_address.kp T.b_check_address tk (ag_val (v_name (pv 1)) ag_nil) (Pass.of (by decide) (by decide) (by decide) (by decide)) (al := false) (by decide)))
    (s_cons (s_set (i := 2) sc_Table__onward.nd rfl (Or.inl rfl) (v_str (md := .s)))
    (s_cons (s_for po rfl (i_val (v_fld T.cf (v_name (pv 0)))) (g_tup 2 rfl (gs_cons (g_name (i := 3) sc_Table__onward.nd rfl (Or.inl rfl)) (gs_cons (g_name (i := 4) sc_Table__onward.nd rfl (Or.inl rfl)) gs_nil)))
    (s_one (s_if (t_val (v_starts (md := .s) (v_name (pv 1)) (v_name (pv 3))))
    (s_one (s_set (i := 2) sc_Table__onward.nd rfl (Or.inl rfl) (v_name (pv 4))))
    s_nil)))
    (s_one (s_ret (v_name (pv 2)))))))
theorem ok_fate {w : World} {K : PySem.W.Frag} {mg : Str → Option Value} {base : Heap} (T : Tx K mg) : FnOk prg w K mg base (L2.CX prg w) 5 T.a_fate T.d_fate ["field", "start", "address"] (spD ⟨K, mg, none⟩ [.s, .s, .s] .s f_fate) := by
  refine def_ok (μ := u_fate) T.F_fate sc_fate (Pm.of (by decide) (by decide)) rfl (by decide) (by decide) fun cdv A outer s H E hr tk po => ?_
  unfold m_fate
  exact (s_cons (s_expr (v_call (ok_check_router T) (hr.mono (by decide)) (by rfl) T.m_check_router T.F_check_router.kp T.b_check_router tk (ag_val (v_fld T.cf (v_name (pv 0))) (ag_val (v_name (pv 1)) ag_nil)) (Pass.of (by decide) (by decide) (by decide) (by decide)) (al := false) (by decide)))
    (s_cons (s_expr (v_call (ok_check_address T) (hr.mono (by decide)) (by rfl) T.m_check_address T.F_check_address.kp T.b_check_address tk (ag_val (v_name (pv 2)) ag_nil) (Pass.of (by decide) (by decide) (by decide) (by decide)) (al := false) (by decide)))
    (s_one (s_ret (v_call (ok_follow T) (hr.mono (by decide)) (by rfl) T.m_follow T.F_follow.kp T.b_follow tk (ag_val (v_lc rfl sc_fate.nd (i_val (v_fld T.cf (v_name (pv 0)))) (blkOk_by (own := [("table", 3)]) (by show blkC ["field", "start", "address", "table"] (defScope s_fate) _ _ = true; decide +kernel)) (fun _ _ _ _ _ => (g_name (i := 3) sc_fate.nd rfl (Or.inl rfl))) (fun _ _ _ _ _ => f_none) (fun _ _ _ _ _ => (v_methV (v_name (pv 3)) T.mc_Table T.cls_Table T.M_Table__onward (ok_Table__onward T) (hr.mono (by decide)) T.b_Table__onward takes0 (ag_val (v_name (pv 2)) ag_nil) (Pass.of (by decide) (by decide) (by decide) (by decide)) (al := false) (by decide))) (by decide) (by decide) (by decide)) (ag_val (v_name (pv 1)) ag_nil)) (Pass.of (by decide) (by decide) (by decide) (by decide)) (al := false) (by decide))))))
theorem ok__law_told {w : World} {K : PySem.W.Frag} {mg : Str → Option Value} {base : Heap} (T : Tx K mg) : FnOk prg w K mg base (L2.CX prg w) 1 T.a__law_told T.d__law_told ["_law_told_here", "_law_due_here"] (spD ⟨K, mg, none⟩ [.s, .s] .d f__law_told) := by
  refine def_ok (μ := u__law_told) T.F__law_told sc__law_told (Pm.of (by decide) (by decide)) rfl (by decide) (by decide) fun cdv A outer s H E hr tk po => ?_
  unfold m__law_told
  exact (s_cons (s_if (t_pw (t_or (t_not (t_val (v_callBS crv_isi (cs_isiO T.ot) pu_isiO (by rfl) T.n_isinstance PyProof.Rows.boot_isinstance (l_cons (v_name (pv 0)) (l_cons (v_ty (md := .s) (by rfl) T.n_tuple (by decide +kernel)) (l_nil (dp := true)))) (md := .s)))) (t_or (t_ne (v_callBS crv_lenA cs_lenA pu_lenA (by rfl) T.n_len PySem.boot_len (l_cons (v_name (pv 0)) (l_nil (dp := true))) (md := .s)) (v_callBS crv_lenA cs_lenA pu_lenA (by rfl) T.n_len PySem.boot_len (l_cons (v_name (pv 1)) (l_nil (dp := true))) (md := .s)) (hr := hr)) (t_or1 (t_not (t_val (v_callBS crv_isi (cs_isiO T.ot) pu_isiO (by rfl) T.n_isinstance PyProof.Rows.boot_isinstance (l_cons (v_idx (v_name (pv 0)) (v_int (md := .s)) hr) (l_cons (v_ty (md := .s) (by rfl) T.n_str (by decide +kernel)) (l_nil (dp := true)))) (md := .s))))))))
    (s_one (s_ret (v_bl (md := .d))))
    s_nil)
    (s_cons (s_set (i := 2) sc__law_told.nd rfl (Or.inl rfl) (v_le (md' := .s) (v_sl (v_name (pv 0)) (o_yes (W := WF) (v_int (md := .s))) o_no false) (by decide)))
    (s_cons (s_if (t_eq (v_idx (v_name (pv 1)) (v_int (md := .s)) hr) (v_str (md := .s)) (hr := hr))
    (s_one (s_set (i := 2) sc__law_told.nd rfl (Or.inl rfl) (v_idx (v_name (pv 0)) (v_int (md := .s)) hr)))
    s_nil)
    (s_cons (s_if (t_not (t_val (v_callBS crv_isi (cs_isiO T.ot) pu_isiO (by rfl) T.n_isinstance PyProof.Rows.boot_isinstance (l_cons (v_name (pv 2)) (l_cons (v_ty (md := .s) (by rfl) T.n_tuple (by decide +kernel)) (l_nil (dp := true)))) (md := .s))))
    (s_one (s_ret (v_bl (md := .d))))
    s_nil)
    (s_cons (s_for po rfl (i_val (v_name (pv 2))) (g_name (i := 3) sc__law_told.nd rfl (Or.inl rfl))
    (s_one (s_if (t_pw (t_or (t_not (t_val (v_callBS crv_isi (cs_isiO T.ot) pu_isiO (by rfl) T.n_isinstance PyProof.Rows.boot_isinstance (l_cons (v_name (pv 3)) (l_cons (v_ty (md := .s) (by rfl) T.n_int (by decide +kernel)) (l_nil (dp := true)))) (md := .s)))) (t_or1 (t_val (v_callBS crv_isi (cs_isiO T.ot) pu_isiO (by rfl) T.n_isinstance PyProof.Rows.boot_isinstance (l_cons (v_name (pv 3)) (l_cons (v_ty (md := .s) (by rfl) T.n_bool (by decide +kernel)) (l_nil (dp := true)))) (md := .s))))))
    (s_one (s_ret (v_bl (md := .d))))
    s_nil)))
    (s_one (s_ret (v_eq (md := .d) (v_name (pv 0)) (v_name (pv 1)) (hr := hr)))))))))
theorem ok__law_behind {w : World} {K : PySem.W.Frag} {mg : Str → Option Value} {base : Heap} (T : Tx K mg) : FnOk prg w K mg base (L2.CX prg w) 6 T.a__law_behind T.d__law_behind ["_law_field", "_law_nexts", "_law_start", "_law_address_here", "_law_told_here"] (spD ⟨K, mg, none⟩ [.s, .s, .s, .s, .s] .d f__law_behind) := by
  refine def_ok (μ := u__law_behind) T.F__law_behind sc__law_behind (Pm.of (by decide) (by decide)) rfl (by decide) (by decide) fun cdv A outer s H E hr tk po => ?_
  unfold m__law_behind
  exact (s_cons (s_set (i := 5) sc__law_behind.nd rfl (Or.inl rfl) (v_idx (v_name (pv 1)) (v_name (pv 2)) hr))
    (s_cons (s_if (t_val (v_callBS crv_isi (cs_isiO T.ot) pu_isiO (by rfl) T.n_isinstance PyProof.Rows.boot_isinstance (l_cons (v_name (pv 5)) (l_cons (v_ty (md := .s) (by rfl) T.n_str (by decide +kernel)) (l_nil (dp := true)))) (md := .s)))
    (s_one (s_ret (v_eq (md := .d) (v_name (pv 4)) (v_tup (l_cons (v_name (pv 5)) (l_cons (v_name (pv 2)) (l_cons (v_int (md := .s)) (l_nil (dp := true))))) false) (hr := hr))))
    s_nil)
    (s_cons (s_set (i := 6) sc__law_behind.nd rfl (Or.inl rfl) (v_call (ok_fate T) (hr.mono (by decide)) (by rfl) T.m_fate T.F_fate.kp T.b_fate tk (ag_val (v_name (pv 0)) (ag_val (v_name (pv 5)) (ag_val (v_name (pv 3)) ag_nil))) (Pass.of (by decide) (by decide) (by decide) (by decide)) (al := false) (by decide)))
    (s_cons (s_if (t_eq (v_idx (v_name (pv 4)) (v_int (md := .s)) hr) (v_str (md := .s)) (hr := hr))
    (s_one (s_ret (v_eq (md := .d) (v_name (pv 6)) (v_name (pv 4)) (hr := hr))))
    s_nil)
    (s_one (s_ret (v_eq (md := .d) (v_name (pv 6)) (v_tup (l_cons (v_idx (v_name (pv 4)) (v_int (md := .s)) hr) (l_cons (v_idx (v_name (pv 4)) (v_int (md := .s)) hr) (l_cons (v_sub (md := .s) (v_idx (v_name (pv 4)) (v_int (md := .s)) hr) (v_int (md := .s))) (l_nil (dp := true))))) false) (hr := hr))))))))
theorem ok_law {w : World} {K : PySem.W.Frag} {mg : Str → Option Value} {base : Heap} (T : Tx K mg) : FnOk prg w K mg base (L2.CX prg w) 7 T.a_law T.d_law ["_law_script"] (spD ⟨K, mg, none⟩ [.s] .d f_law) := by
  refine def_ok (μ := u_law) T.F_law sc_law (Pm.of (by decide) (by decide)) rfl (by decide) (by decide) fun cdv A outer s H E hr tk po => ?_
  unfold m_law
  exact (s_cons (s_set (i := 1) sc_law.nd rfl (Or.inl rfl) (v_call (ok__law_pool T) (hr.mono (by decide)) (by rfl) T.m__law_pool T.F__law_pool.kp T.b__law_pool tk (ag_val (v_name (pv 0)) ag_nil) (Pass.of (by decide) (by decide) (by decide) (by decide)) (al := false) (by decide)))
    (s_cons (s_set (i := 2) sc_law.nd rfl (Or.inl rfl) (v_le (md' := .s) (v_add (v_int (md := .s)) (v_call (ok__law_draw T) (hr.mono (by decide)) (by rfl) T.m__law_draw T.F__law_draw.kp T.b__law_draw tk (ag_slot (pv 1) (ag_val (v_int (md := .s)) ag_nil)) (Pass.of (by decide) (by decide) (by decide) (by decide)) (al := false) (by decide)) false) (by decide)))
    (s_cons (s_set (i := 3) sc_law.nd rfl (Or.inl rfl) (v_le (md' := .s) (v_call (ok__law_rows T) (hr.mono (by decide)) (by rfl) T.m__law_rows T.F__law_rows.kp T.b__law_rows tk (ag_slot (pv 1) (ag_val (v_name (pv 2)) (ag_val (v_int (md := .s)) ag_nil))) (Pass.of (by decide) (by decide) (by decide) (by decide)) (al := false) (by decide)) (by decide)))
    (s_cons (s_set (i := 4) sc_law.nd rfl (Or.inl rfl) (v_le (md' := .s) (v_make T.K_Field (ok_Field__init T) (hr.mono (by decide)) (by rfl) T.mc_Field T.b_Field__init tk (ag_val (v_callTy call_tuple_of cs_tuple (by rfl) T.n_tuple (by decide +kernel) (l_cons (v_lc rfl sc_law.nd (i_val (v_name (pv 3))) (blkOk_by (own := [("_law_row", 12)]) (by show blkC ["_law_script", "_law_pool_here", "_law_size", "_law_rows_here", "_law_field", "_law_other", "_law_k", "_law_address_here", "_law_nexts", "_law_start", "_law_due_here", "_law_told_here", "_law_row"] (defScope s_law) _ _ = true; decide +kernel)) (fun _ _ _ _ _ => (g_name (i := 12) sc_law.nd rfl (Or.inl rfl))) (fun _ _ _ _ _ => f_none) (fun _ _ _ _ _ => (v_le (md' := .s) (v_make T.K_Table (ok_Table__init T) (hr.mono (by decide)) (by rfl) T.mc_Table T.b_Table__init takes0 (ag_val (v_listA rfl (by rfl) T.n_list (l_cons (v_name (pv 12)) (l_nil (dp := true))) false (by decide)) ag_nil) (Pass.of (by decide) (by decide) (by decide) (by decide)) (.inr ⟨rfl, by decide⟩)) (by decide))) (by decide) (by decide) (by decide)) (l_nil (dp := true))) false (by decide)) ag_nil) (Pass.of (by decide) (by decide) (by decide) (by decide)) (.inr ⟨rfl, by decide⟩)) (by decide)))
    (s_cons (s_set (i := 5) sc_law.nd rfl (Or.inl rfl) (v_le (md' := .s) (v_make T.K_Field (ok_Field__init T) (hr.mono (by decide)) (by rfl) T.mc_Field T.b_Field__init tk (ag_val (v_callTy call_tuple_of cs_tuple (by rfl) T.n_tuple (by decide +kernel) (l_cons (v_lc rfl sc_law.nd (i_val (v_name (pv 3))) (blkOk_by (own := [("_law_row", 12)]) (by show blkC ["_law_script", "_law_pool_here", "_law_size", "_law_rows_here", "_law_field", "_law_other", "_law_k", "_law_address_here", "_law_nexts", "_law_start", "_law_due_here", "_law_told_here", "_law_row"] (defScope s_law) _ _ = true; decide +kernel)) (fun _ _ _ _ _ => (g_name (i := 12) sc_law.nd rfl (Or.inl rfl))) (fun _ _ _ _ _ => f_none) (fun _ _ _ _ _ => (v_le (md' := .s) (v_make T.K_Table (ok_Table__init T) (hr.mono (by decide)) (by rfl) T.mc_Table T.b_Table__init takes0 (ag_val (v_callTy call_tuple_of cs_tuple (by rfl) T.n_tuple (by decide +kernel) (l_cons (v_sortA rfl (by rfl) T.n_sorted (l_cons (v_name (pv 12)) (l_nil (dp := true))) false (by decide)) (l_nil (dp := true))) false (by decide)) ag_nil) (Pass.of (by decide) (by decide) (by decide) (by decide)) (.inr ⟨rfl, by decide⟩)) (by decide))) (by decide) (by decide) (by decide)) (l_nil (dp := true))) false (by decide)) ag_nil) (Pass.of (by decide) (by decide) (by decide) (by decide)) (.inr ⟨rfl, by decide⟩)) (by decide)))
    (s_cons (s_for po rfl (i_rng1 (by rfl) T.n_range (l_cons (v_add (v_int (md := .s)) (v_call (ok__law_draw T) (hr.mono (by decide)) (by rfl) T.m__law_draw T.F__law_draw.kp T.b__law_draw tk (ag_slot (pv 1) (ag_val (v_int (md := .s)) ag_nil)) (Pass.of (by decide) (by decide) (by decide) (by decide)) (al := false) (by decide)) false) (l_nil (dp := true)))) (g_name (i := 6) sc_law.nd rfl (Or.inl rfl))
    (s_cons (s_set (i := 7) sc_law.nd rfl (Or.inr rfl) (v_call (ok__law_address T) (hr.mono (by decide)) (by rfl) T.m__law_address T.F__law_address.kp T.b__law_address tk (ag_slot (pv 1) (ag_val (v_name (pv 3)) ag_nil)) (Pass.of (by decide) (by decide) (by decide) (by decide)) (al := false) (by decide)))
    (s_cons (s_setLc (i := 8) rfl sc_law.nd rfl rfl (i_val (v_name (pv 3))) (blkOk_by (own := [("_law_row", 12)]) (by show blkC ["_law_script", "_law_pool_here", "_law_size", "_law_rows_here", "_law_field", "_law_other", "_law_k", "_law_address_here", "_law_nexts", "_law_start", "_law_due_here", "_law_told_here", "_law_row"] (defScope s_law) _ _ = true; decide +kernel)) (fun _ _ _ _ _ => (g_name (i := 12) sc_law.nd rfl (Or.inl rfl))) (fun _ _ _ _ _ => f_none) (fun _ _ _ _ _ => (v_call (ok__law_longest T) (hr.mono (by decide)) (by rfl) T.m__law_longest T.F__law_longest.kp T.b__law_longest takes0 (ag_val (v_name (pv 12)) (ag_val (v_name (pv 7)) ag_nil)) (Pass.of (by decide) (by decide) (by decide) (by decide)) (al := false) (by decide))) (by decide) (by decide) (by decide) (by decide))
    (s_one (s_for po rfl (i_rng1 (by rfl) T.n_range (l_cons (v_name (pv 2)) (l_nil (dp := true)))) (g_name (i := 9) sc_law.nd rfl (Or.inl rfl))
    (s_cons (s_set (i := 10) sc_law.nd rfl (Or.inl rfl) (v_call (ok__law_due T) (hr.mono (by decide)) (by rfl) T.m__law_due T.F__law_due.kp T.b__law_due tk (ag_val (v_name (pv 8)) (ag_val (v_name (pv 9)) ag_nil)) (Pass.of (by decide) (by decide) (by decide) (by decide)) (al := false) (by decide)))
    (s_cons (s_set (i := 11) sc_law.nd rfl (Or.inl rfl) (v_call (ok_fate T) (hr.mono (by decide)) (by rfl) T.m_fate T.F_fate.kp T.b_fate tk (ag_val (v_name (pv 4)) (ag_val (v_name (pv 9)) (ag_val (v_name (pv 7)) ag_nil))) (Pass.of (by decide) (by decide) (by decide) (by decide)) (al := false) (by decide)))
    (s_cons (s_if (t_pw (t_or (t_not (t_val (v_call (ok__law_told T) (hr.mono (by decide)) (by rfl) T.m__law_told T.F__law_told.kp T.b__law_told tk (ag_val (v_name (pv 11)) (ag_val (v_name (pv 10)) ag_nil)) (Pass.of (by decide) (by decide) (by decide) (by decide)) (al := false) (by decide)))) (t_or1 (t_not (t_val (v_call (ok__law_behind T) (hr.mono (by decide)) (by rfl) T.m__law_behind T.F__law_behind.kp T.b__law_behind tk (ag_val (v_name (pv 4)) (ag_val (v_name (pv 8)) (ag_val (v_name (pv 9)) (ag_val (v_name (pv 7)) (ag_val (v_name (pv 11)) ag_nil))))) (Pass.of (by decide) (by decide) (by decide) (by decide)) (al := false) (by decide)))))))
    (s_one (s_ret (v_bl (md := .d))))
    s_nil)
    (s_one (s_if (t_pw (t_or (t_ne (v_call (ok_fate T) (hr.mono (by decide)) (by rfl) T.m_fate T.F_fate.kp T.b_fate tk (ag_val (v_name (pv 5)) (ag_val (v_name (pv 9)) (ag_val (v_name (pv 7)) ag_nil))) (Pass.of (by decide) (by decide) (by decide) (by decide)) (al := false) (by decide)) (v_name (pv 10)) (hr := hr)) (t_or1 (t_ne (v_call (ok_fate T) (hr.mono (by decide)) (by rfl) T.m_fate T.F_fate.kp T.b_fate tk (ag_val (v_name (pv 4)) (ag_val (v_name (pv 9)) (ag_val (v_name (pv 7)) ag_nil))) (Pass.of (by decide) (by decide) (by decide) (by decide)) (al := false) (by decide)) (v_name (pv 10)) (hr := hr)))))
    (s_one (s_ret (v_bl (md := .d))))
    s_nil))))))))))
    (s_one (s_ret (v_bl (md := .d))))))))))
theorem all_mk {w : World} {K : PySem.W.Frag} {h : Heap} {mg : Str → Option Value} {fa : Addr} {C_Table : Addr}
    {C_Field : Addr}
    {tk_LENGTH : Tok}
    {tk_MOST_ENTRIES : Tok}
    {tk_ROUTERS : Tok}
    {p0 : Addr} {od0 an0 : Option Addr} {sl0 : Array (Option Value)} {oc0 kV0 dc0 pm0 cd0 ct0 : Value}
    {p1 : Addr} {od1 an1 : Option Addr} {sl1 : Array (Option Value)} {oc1 kV1 dc1 pm1 cd1 ct1 : Value}
    {p2 : Addr} {od2 an2 : Option Addr} {sl2 : Array (Option Value)} {oc2 kV2 dc2 pm2 cd2 ct2 : Value}
    {p3 : Addr} {od3 an3 : Option Addr} {sl3 : Array (Option Value)} {oc3 kV3 dc3 pm3 cd3 ct3 : Value}
    {p4 : Addr} {od4 an4 : Option Addr} {sl4 : Array (Option Value)} {oc4 kV4 dc4 pm4 cd4 ct4 : Value}
    {p5 : Addr} {od5 an5 : Option Addr} {sl5 : Array (Option Value)} {oc5 kV5 dc5 pm5 cd5 ct5 : Value}
    {p6 : Addr} {od6 an6 : Option Addr} {sl6 : Array (Option Value)} {oc6 kV6 dc6 pm6 cd6 ct6 : Value}
    {p7 : Addr} {od7 an7 : Option Addr} {sl7 : Array (Option Value)} {oc7 kV7 dc7 pm7 cd7 ct7 : Value}
    {p8 : Addr} {od8 an8 : Option Addr} {sl8 : Array (Option Value)} {oc8 kV8 dc8 pm8 cd8 ct8 : Value}
    {p9 : Addr} {od9 an9 : Option Addr} {sl9 : Array (Option Value)} {oc9 kV9 dc9 pm9 cd9 ct9 : Value}
    {p10 : Addr} {od10 an10 : Option Addr} {sl10 : Array (Option Value)} {oc10 kV10 dc10 pm10 cd10 ct10 : Value}
    {p11 : Addr} {od11 an11 : Option Addr} {sl11 : Array (Option Value)} {oc11 kV11 dc11 pm11 cd11 ct11 : Value}
    {p12 : Addr} {od12 an12 : Option Addr} {sl12 : Array (Option Value)} {oc12 kV12 dc12 pm12 cd12 ct12 : Value}
    {p13 : Addr} {od13 an13 : Option Addr} {sl13 : Array (Option Value)} {oc13 kV13 dc13 pm13 cd13 ct13 : Value}
    {p14 : Addr} {od14 an14 : Option Addr} {sl14 : Array (Option Value)} {oc14 kV14 dc14 pm14 cd14 ct14 : Value}
    {p15 : Addr} {od15 an15 : Option Addr} {sl15 : Array (Option Value)} {oc15 kV15 dc15 pm15 cd15 ct15 : Value}
    {p16 : Addr} {od16 an16 : Option Addr} {sl16 : Array (Option Value)} {oc16 kV16 dc16 pm16 cd16 ct16 : Value}
    {p17 : Addr} {od17 an17 : Option Addr} {sl17 : Array (Option Value)} {oc17 kV17 dc17 pm17 cd17 ct17 : Value}
    {p18 : Addr} {od18 an18 : Option Addr} {sl18 : Array (Option Value)} {oc18 kV18 dc18 pm18 cd18 ct18 : Value}
    {p19 : Addr} {od19 an19 : Option Addr} {sl19 : Array (Option Value)} {oc19 kV19 dc19 pm19 cd19 ct19 : Value}
    {p20 : Addr} {od20 an20 : Option Addr} {sl20 : Array (Option Value)} {oc20 kV20 dc20 pm20 cd20 ct20 : Value}
    {p21 : Addr} {od21 an21 : Option Addr} {sl21 : Array (Option Value)} {oc21 kV21 dc21 pm21 cd21 ct21 : Value}
    {p22 : Addr} {od22 an22 : Option Addr} {sl22 : Array (Option Value)} {oc22 kV22 dc22 pm22 cd22 ct22 : Value}
    {p23 : Addr} {od23 an23 : Option Addr} {sl23 : Array (Option Value)} {oc23 kV23 dc23 pm23 cd23 ct23 : Value}
    {p24 : Addr} {od24 an24 : Option Addr} {sl24 : Array (Option Value)} {oc24 kV24 dc24 pm24 cd24 ct24 : Value}
    {p25 : Addr} {od25 an25 : Option Addr} {sl25 : Array (Option Value)} {oc25 kV25 dc25 pm25 cd25 ct25 : Value}
    {C_WishError : Addr}
    {C_NoRouter : Addr}
    {C_BadTable : Addr}
    {C_BadAddress : Addr}
    {C_BadField : Addr}
    {nm_BadTable q_BadTable : Str} {N_BadTable : Addr} {bs_BadTable bm_BadTable sub_BadTable : List Value} {sn_BadTable : List Str} {ab_BadTable : Bool} {col_BadTable : Option Bool} {dd_BadTable : Option Addr} {m0_BadTable m1_BadTable m2_BadTable m3_BadTable m5_BadTable : Option Value}
    {i_BadTable kd_BadTable kc_BadTable : Addr} {odi_BadTable ani_BadTable : Option Addr} {sli_BadTable : Array (Option Value)} {oci_BadTable kVi_BadTable dci_BadTable pmi_BadTable cti_BadTable : Value} {ccl_BadTable : Value} {cdd_BadTable : Option Addr} {vs_BadTable : Array Value} {ccs_BadTable : Array (Option Value)} {fl_BadTable : Str} {tf_BadTable : Tok} {cl_BadTable : Value} {cld_BadTable : Option Addr} {csl_BadTable : Array (Option Value)} {cdD_BadTable : ClassData}
    {nm_BadField q_BadField : Str} {N_BadField : Addr} {bs_BadField bm_BadField sub_BadField : List Value} {sn_BadField : List Str} {ab_BadField : Bool} {col_BadField : Option Bool} {dd_BadField : Option Addr} {m0_BadField m1_BadField m2_BadField m3_BadField m5_BadField : Option Value}
    {i_BadField kd_BadField kc_BadField : Addr} {odi_BadField ani_BadField : Option Addr} {sli_BadField : Array (Option Value)} {oci_BadField kVi_BadField dci_BadField pmi_BadField cti_BadField : Value} {ccl_BadField : Value} {cdd_BadField : Option Addr} {vs_BadField : Array Value} {ccs_BadField : Array (Option Value)} {fl_BadField : Str} {tf_BadField : Tok} {cl_BadField : Value} {cld_BadField : Option Addr} {csl_BadField : Array (Option Value)} {cdD_BadField : ClassData}
    {nm_NoRouter q_NoRouter : Str} {N_NoRouter : Addr} {bs_NoRouter bm_NoRouter sub_NoRouter : List Value} {sn_NoRouter : List Str} {ab_NoRouter : Bool} {col_NoRouter : Option Bool} {dd_NoRouter : Option Addr} {m0_NoRouter m1_NoRouter m2_NoRouter m3_NoRouter m5_NoRouter : Option Value}
    {i_NoRouter kd_NoRouter kc_NoRouter : Addr} {odi_NoRouter ani_NoRouter : Option Addr} {sli_NoRouter : Array (Option Value)} {oci_NoRouter kVi_NoRouter dci_NoRouter pmi_NoRouter cti_NoRouter : Value} {ccl_NoRouter : Value} {cdd_NoRouter : Option Addr} {vs_NoRouter : Array Value} {ccs_NoRouter : Array (Option Value)} {fl_NoRouter : Str} {tf_NoRouter : Tok} {cl_NoRouter : Value} {cld_NoRouter : Option Addr} {csl_NoRouter : Array (Option Value)} {cdD_NoRouter : ClassData}
    {nm_BadAddress q_BadAddress : Str} {N_BadAddress : Addr} {bs_BadAddress bm_BadAddress sub_BadAddress : List Value} {sn_BadAddress : List Str} {ab_BadAddress : Bool} {col_BadAddress : Option Bool} {dd_BadAddress : Option Addr} {m0_BadAddress m1_BadAddress m2_BadAddress m3_BadAddress m5_BadAddress : Option Value}
    {i_BadAddress kd_BadAddress kc_BadAddress : Addr} {odi_BadAddress ani_BadAddress : Option Addr} {sli_BadAddress : Array (Option Value)} {oci_BadAddress kVi_BadAddress dci_BadAddress pmi_BadAddress cti_BadAddress : Value} {ccl_BadAddress : Value} {cdd_BadAddress : Option Addr} {vs_BadAddress : Array Value} {ccs_BadAddress : Array (Option Value)} {fl_BadAddress : Str} {tf_BadAddress : Tok} {cl_BadAddress : Value} {cld_BadAddress : Option Addr} {csl_BadAddress : Array (Option Value)} {cdD_BadAddress : ClassData}
    (plain : ∀ ns : List Int, ns.length ≤ 63 → ∃ ds, f_law [.scr ns] = .ok (.bl true) ds) (X : K.In h) (G : h.Ns mainGlobals mg) (hfa : mg "law" = some (.ref fa))
    (aC_Table : PySem.W.nsIn K mainGlobals "Table" = some (some (.ref C_Table)))
    (pg_Table : PySem.W.plainGet K C_Table Str.empty = true)
    (hd_Table : PySem.W.hasDictIn K C_Table = true)
    (po_Table : PySem.W.plainOver K C_Table = true)
    (sa_Table : PySem.W.findIn K (.ref C_Table) "__setattr__" = some (some (.builtin "object.__setattr__")))
    (mk_Table : PySem.W.makesIn K C_Table = true)
    (kC_Table : PySem.W.keepIn K (.ref C_Table) = true)
    (gc_Table : PySem.W.findIn K (.ref C_Table) "__class__" = some (some (.builtin "object.__class__")))
    (mo_Table : PySem.W.mroIn K C_Table (.type "object") = some true)
    (ci_Table : (PySem.W.clsIn K C_Table).isSome = true)
    (ti_Table : PySem.W.typeIn K (.ref C_Table) = some (.type "type"))
    (s1_Table_NoneType : PySem.W.subIn K (.ref C_Table) (.type "NoneType") = some false)
    (s2_Table_NoneType : PySem.W.subIn K (.type "NoneType") (.ref C_Table) = some false)
    (s1_Table_bool : PySem.W.subIn K (.ref C_Table) (.type "bool") = some false)
    (s2_Table_bool : PySem.W.subIn K (.type "bool") (.ref C_Table) = some false)
    (s1_Table_int : PySem.W.subIn K (.ref C_Table) (.type "int") = some false)
    (s2_Table_int : PySem.W.subIn K (.type "int") (.ref C_Table) = some false)
    (s1_Table_str : PySem.W.subIn K (.ref C_Table) (.type "str") = some false)
    (s2_Table_str : PySem.W.subIn K (.type "str") (.ref C_Table) = some false)
    (s1_Table_tuple : PySem.W.subIn K (.ref C_Table) (.type "tuple") = some false)
    (s2_Table_tuple : PySem.W.subIn K (.type "tuple") (.ref C_Table) = some false)
    (s1_Table_list : PySem.W.subIn K (.ref C_Table) (.type "list") = some false)
    (s2_Table_list : PySem.W.subIn K (.type "list") (.ref C_Table) = some false)
    (s1_Table_dict : PySem.W.subIn K (.ref C_Table) (.type "dict") = some false)
    (s2_Table_dict : PySem.W.subIn K (.type "dict") (.ref C_Table) = some false)
    (no_Table_entries : PySem.W.findIn K (.ref C_Table) "entries" = some none)
    (aC_Field : PySem.W.nsIn K mainGlobals "Field" = some (some (.ref C_Field)))
    (pg_Field : PySem.W.plainGet K C_Field Str.empty = true)
    (hd_Field : PySem.W.hasDictIn K C_Field = true)
    (po_Field : PySem.W.plainOver K C_Field = true)
    (sa_Field : PySem.W.findIn K (.ref C_Field) "__setattr__" = some (some (.builtin "object.__setattr__")))
    (mk_Field : PySem.W.makesIn K C_Field = true)
    (kC_Field : PySem.W.keepIn K (.ref C_Field) = true)
    (gc_Field : PySem.W.findIn K (.ref C_Field) "__class__" = some (some (.builtin "object.__class__")))
    (mo_Field : PySem.W.mroIn K C_Field (.type "object") = some true)
    (ci_Field : (PySem.W.clsIn K C_Field).isSome = true)
    (ti_Field : PySem.W.typeIn K (.ref C_Field) = some (.type "type"))
    (s1_Field_NoneType : PySem.W.subIn K (.ref C_Field) (.type "NoneType") = some false)
    (s2_Field_NoneType : PySem.W.subIn K (.type "NoneType") (.ref C_Field) = some false)
    (s1_Field_bool : PySem.W.subIn K (.ref C_Field) (.type "bool") = some false)
    (s2_Field_bool : PySem.W.subIn K (.type "bool") (.ref C_Field) = some false)
    (s1_Field_int : PySem.W.subIn K (.ref C_Field) (.type "int") = some false)
    (s2_Field_int : PySem.W.subIn K (.type "int") (.ref C_Field) = some false)
    (s1_Field_str : PySem.W.subIn K (.ref C_Field) (.type "str") = some false)
    (s2_Field_str : PySem.W.subIn K (.type "str") (.ref C_Field) = some false)
    (s1_Field_tuple : PySem.W.subIn K (.ref C_Field) (.type "tuple") = some false)
    (s2_Field_tuple : PySem.W.subIn K (.type "tuple") (.ref C_Field) = some false)
    (s1_Field_list : PySem.W.subIn K (.ref C_Field) (.type "list") = some false)
    (s2_Field_list : PySem.W.subIn K (.type "list") (.ref C_Field) = some false)
    (s1_Field_dict : PySem.W.subIn K (.ref C_Field) (.type "dict") = some false)
    (s2_Field_dict : PySem.W.subIn K (.type "dict") (.ref C_Field) = some false)
    (no_Field_size : PySem.W.findIn K (.ref C_Field) "size" = some none)
    (no_Field_tables : PySem.W.findIn K (.ref C_Field) "tables" = some none)
    (gsp : PySem.W.specialIn K (.builtin "object.__class__") "__get__" = some (some (.builtin "getset_descriptor.__get__")))
    (gtk : PySem.W.takesIn K (.builtin "object.__class__") = some true)
    (ne_Table_Field : C_Table ≠ C_Field)
    (s3_Table_Field : PySem.W.subIn K (.ref C_Table) (.ref C_Field) = some false)
    (ne_Field_Table : C_Field ≠ C_Table)
    (s3_Field_Table : PySem.W.subIn K (.ref C_Field) (.ref C_Table) = some false)
    (kc_LENGTH : PySem.W.nsIn K mainGlobals "LENGTH" = some (some (.int 10 tk_LENGTH)))
    (kc_MOST_ENTRIES : PySem.W.nsIn K mainGlobals "MOST_ENTRIES" = some (some (.int 24 tk_MOST_ENTRIES)))
    (kc_ROUTERS : PySem.W.nsIn K mainGlobals "ROUTERS" = some (some (.int 8 tk_ROUTERS)))
    (a0 : PySem.W.nsIn K mainGlobals "_law_pool" = some (some (.ref p0)))
    (l0 : K.lookup p0 = some ⟨oc0, od0, .func (PySem.W.fnOf "_law_pool" "_law_pool" (defArgs s__law_pool) (defBody s__law_pool) (defScope s__law_pool) .none kV0 dc0 pm0 an0 cd0 ct0), sl0⟩)
    (c0 : PySem.W.codeIn K cd0 "_law_pool" = true)
    (k0 : PySem.W.keepIn K (.ref p0) = true)
    (a1 : PySem.W.nsIn K mainGlobals "_law_draw" = some (some (.ref p1)))
    (l1 : K.lookup p1 = some ⟨oc1, od1, .func (PySem.W.fnOf "_law_draw" "_law_draw" (defArgs s__law_draw) (defBody s__law_draw) (defScope s__law_draw) .none kV1 dc1 pm1 an1 cd1 ct1), sl1⟩)
    (c1 : PySem.W.codeIn K cd1 "_law_draw" = true)
    (k1 : PySem.W.keepIn K (.ref p1) = true)
    (a2 : PySem.W.nsIn K mainGlobals "_law_bits" = some (some (.ref p2)))
    (l2 : K.lookup p2 = some ⟨oc2, od2, .func (PySem.W.fnOf "_law_bits" "_law_bits" (defArgs s__law_bits) (defBody s__law_bits) (defScope s__law_bits) .none kV2 dc2 pm2 an2 cd2 ct2), sl2⟩)
    (c2 : PySem.W.codeIn K cd2 "_law_bits" = true)
    (k2 : PySem.W.keepIn K (.ref p2) = true)
    (a3 : PySem.W.nsIn K mainGlobals "_law_entries" = some (some (.ref p3)))
    (l3 : K.lookup p3 = some ⟨oc3, od3, .func (PySem.W.fnOf "_law_entries" "_law_entries" (defArgs s__law_entries) (defBody s__law_entries) (defScope s__law_entries) .none kV3 dc3 pm3 an3 cd3 ct3), sl3⟩)
    (c3 : PySem.W.codeIn K cd3 "_law_entries" = true)
    (k3 : PySem.W.keepIn K (.ref p3) = true)
    (a4 : PySem.W.nsIn K mainGlobals "_law_rows" = some (some (.ref p4)))
    (l4 : K.lookup p4 = some ⟨oc4, od4, .func (PySem.W.fnOf "_law_rows" "_law_rows" (defArgs s__law_rows) (defBody s__law_rows) (defScope s__law_rows) .none kV4 dc4 pm4 an4 cd4 ct4), sl4⟩)
    (c4 : PySem.W.codeIn K cd4 "_law_rows" = true)
    (k4 : PySem.W.keepIn K (.ref p4) = true)
    (a5 : PySem.W.nsIn K mainGlobals "is_bits" = some (some (.ref p5)))
    (l5 : K.lookup p5 = some ⟨oc5, od5, .func (PySem.W.fnOf "is_bits" "is_bits" (defArgs s_is_bits) (defBody s_is_bits) (defScope s_is_bits) .none kV5 dc5 pm5 an5 cd5 ct5), sl5⟩)
    (c5 : PySem.W.codeIn K cd5 "is_bits" = true)
    (k5 : PySem.W.keepIn K (.ref p5) = true)
    (a6 : PySem.W.nsIn K mainGlobals "is_range" = some (some (.ref p6)))
    (l6 : K.lookup p6 = some ⟨oc6, od6, .func (PySem.W.fnOf "is_range" "is_range" (defArgs s_is_range) (defBody s_is_range) (defScope s_is_range) .none kV6 dc6 pm6 an6 cd6 ct6), sl6⟩)
    (c6 : PySem.W.codeIn K cd6 "is_range" = true)
    (k6 : PySem.W.keepIn K (.ref p6) = true)
    (a7 : PySem.W.nsIn K mainGlobals "is_integer" = some (some (.ref p7)))
    (l7 : K.lookup p7 = some ⟨oc7, od7, .func (PySem.W.fnOf "is_integer" "is_integer" (defArgs s_is_integer) (defBody s_is_integer) (defScope s_is_integer) .none kV7 dc7 pm7 an7 cd7 ct7), sl7⟩)
    (c7 : PySem.W.codeIn K cd7 "is_integer" = true)
    (k7 : PySem.W.keepIn K (.ref p7) = true)
    (a8 : PySem.W.nsIn K mainGlobals "is_next" = some (some (.ref p8)))
    (l8 : K.lookup p8 = some ⟨oc8, od8, .func (PySem.W.fnOf "is_next" "is_next" (defArgs s_is_next) (defBody s_is_next) (defScope s_is_next) .none kV8 dc8 pm8 an8 cd8 ct8), sl8⟩)
    (c8 : PySem.W.codeIn K cd8 "is_next" = true)
    (k8 : PySem.W.keepIn K (.ref p8) = true)
    (a9 : PySem.W.nsIn K mainGlobals "is_entry" = some (some (.ref p9)))
    (l9 : K.lookup p9 = some ⟨oc9, od9, .func (PySem.W.fnOf "is_entry" "is_entry" (defArgs s_is_entry) (defBody s_is_entry) (defScope s_is_entry) .none kV9 dc9 pm9 an9 cd9 ct9), sl9⟩)
    (c9 : PySem.W.codeIn K cd9 "is_entry" = true)
    (k9 : PySem.W.keepIn K (.ref p9) = true)
    (a10 : PySem.W.findIn K (.ref C_Table) "__init__" = some (some (.ref p10)))
    (f10 : PySem.W.isFn K (.ref p10) = true)
    (l10 : K.lookup p10 = some ⟨oc10, od10, .func (PySem.W.fnOf "__init__" "Table.__init__" (defArgs s_Table__init) (defBody s_Table__init) (defScope s_Table__init) .none kV10 dc10 pm10 an10 cd10 ct10), sl10⟩)
    (c10 : PySem.W.codeIn K cd10 "Table.__init__" = true)
    (k10 : PySem.W.keepIn K (.ref p10) = true)
    (a11 : PySem.W.nsIn K mainGlobals "fits_field" = some (some (.ref p11)))
    (l11 : K.lookup p11 = some ⟨oc11, od11, .func (PySem.W.fnOf "fits_field" "fits_field" (defArgs s_fits_field) (defBody s_fits_field) (defScope s_fits_field) .none kV11 dc11 pm11 an11 cd11 ct11), sl11⟩)
    (c11 : PySem.W.codeIn K cd11 "fits_field" = true)
    (k11 : PySem.W.keepIn K (.ref p11) = true)
    (a12 : PySem.W.findIn K (.ref C_Field) "__init__" = some (some (.ref p12)))
    (f12 : PySem.W.isFn K (.ref p12) = true)
    (l12 : K.lookup p12 = some ⟨oc12, od12, .func (PySem.W.fnOf "__init__" "Field.__init__" (defArgs s_Field__init) (defBody s_Field__init) (defScope s_Field__init) .none kV12 dc12 pm12 an12 cd12 ct12), sl12⟩)
    (c12 : PySem.W.codeIn K cd12 "Field.__init__" = true)
    (k12 : PySem.W.keepIn K (.ref p12) = true)
    (a13 : PySem.W.nsIn K mainGlobals "_law_address" = some (some (.ref p13)))
    (l13 : K.lookup p13 = some ⟨oc13, od13, .func (PySem.W.fnOf "_law_address" "_law_address" (defArgs s__law_address) (defBody s__law_address) (defScope s__law_address) .none kV13 dc13 pm13 an13 cd13 ct13), sl13⟩)
    (c13 : PySem.W.codeIn K cd13 "_law_address" = true)
    (k13 : PySem.W.keepIn K (.ref p13) = true)
    (a14 : PySem.W.nsIn K mainGlobals "_law_longest" = some (some (.ref p14)))
    (l14 : K.lookup p14 = some ⟨oc14, od14, .func (PySem.W.fnOf "_law_longest" "_law_longest" (defArgs s__law_longest) (defBody s__law_longest) (defScope s__law_longest) .none kV14 dc14 pm14 an14 cd14 ct14), sl14⟩)
    (c14 : PySem.W.codeIn K cd14 "_law_longest" = true)
    (k14 : PySem.W.keepIn K (.ref p14) = true)
    (a15 : PySem.W.nsIn K mainGlobals "_law_due" = some (some (.ref p15)))
    (l15 : K.lookup p15 = some ⟨oc15, od15, .func (PySem.W.fnOf "_law_due" "_law_due" (defArgs s__law_due) (defBody s__law_due) (defScope s__law_due) .none kV15 dc15 pm15 an15 cd15 ct15), sl15⟩)
    (c15 : PySem.W.codeIn K cd15 "_law_due" = true)
    (k15 : PySem.W.keepIn K (.ref p15) = true)
    (a16 : PySem.W.nsIn K mainGlobals "is_router" = some (some (.ref p16)))
    (l16 : K.lookup p16 = some ⟨oc16, od16, .func (PySem.W.fnOf "is_router" "is_router" (defArgs s_is_router) (defBody s_is_router) (defScope s_is_router) .none kV16 dc16 pm16 an16 cd16 ct16), sl16⟩)
    (c16 : PySem.W.codeIn K cd16 "is_router" = true)
    (k16 : PySem.W.keepIn K (.ref p16) = true)
    (a17 : PySem.W.nsIn K mainGlobals "check_router" = some (some (.ref p17)))
    (l17 : K.lookup p17 = some ⟨oc17, od17, .func (PySem.W.fnOf "check_router" "check_router" (defArgs s_check_router) (defBody s_check_router) (defScope s_check_router) .none kV17 dc17 pm17 an17 cd17 ct17), sl17⟩)
    (c17 : PySem.W.codeIn K cd17 "check_router" = true)
    (k17 : PySem.W.keepIn K (.ref p17) = true)
    (a18 : PySem.W.nsIn K mainGlobals "check_address" = some (some (.ref p18)))
    (l18 : K.lookup p18 = some ⟨oc18, od18, .func (PySem.W.fnOf "check_address" "check_address" (defArgs s_check_address) (defBody s_check_address) (defScope s_check_address) .none kV18 dc18 pm18 an18 cd18 ct18), sl18⟩)
    (c18 : PySem.W.codeIn K cd18 "check_address" = true)
    (k18 : PySem.W.keepIn K (.ref p18) = true)
    (a19 : PySem.W.nsIn K mainGlobals "turned" = some (some (.ref p19)))
    (l19 : K.lookup p19 = some ⟨oc19, od19, .func (PySem.W.fnOf "turned" "turned" (defArgs s_turned) (defBody s_turned) (defScope s_turned) .none kV19 dc19 pm19 an19 cd19 ct19), sl19⟩)
    (c19 : PySem.W.codeIn K cd19 "turned" = true)
    (k19 : PySem.W.keepIn K (.ref p19) = true)
    (a20 : PySem.W.nsIn K mainGlobals "follow" = some (some (.ref p20)))
    (l20 : K.lookup p20 = some ⟨oc20, od20, .func (PySem.W.fnOf "follow" "follow" (defArgs s_follow) (defBody s_follow) (defScope s_follow) .none kV20 dc20 pm20 an20 cd20 ct20), sl20⟩)
    (c20 : PySem.W.codeIn K cd20 "follow" = true)
    (k20 : PySem.W.keepIn K (.ref p20) = true)
    (a21 : PySem.W.findIn K (.ref C_Table) "onward" = some (some (.ref p21)))
    (f21 : PySem.W.isFn K (.ref p21) = true)
    (l21 : K.lookup p21 = some ⟨oc21, od21, .func (PySem.W.fnOf "onward" "Table.onward" (defArgs s_Table__onward) (defBody s_Table__onward) (defScope s_Table__onward) .none kV21 dc21 pm21 an21 cd21 ct21), sl21⟩)
    (c21 : PySem.W.codeIn K cd21 "Table.onward" = true)
    (k21 : PySem.W.keepIn K (.ref p21) = true)
    (a22 : PySem.W.nsIn K mainGlobals "fate" = some (some (.ref p22)))
    (l22 : K.lookup p22 = some ⟨oc22, od22, .func (PySem.W.fnOf "fate" "fate" (defArgs s_fate) (defBody s_fate) (defScope s_fate) .none kV22 dc22 pm22 an22 cd22 ct22), sl22⟩)
    (c22 : PySem.W.codeIn K cd22 "fate" = true)
    (k22 : PySem.W.keepIn K (.ref p22) = true)
    (a23 : PySem.W.nsIn K mainGlobals "_law_told" = some (some (.ref p23)))
    (l23 : K.lookup p23 = some ⟨oc23, od23, .func (PySem.W.fnOf "_law_told" "_law_told" (defArgs s__law_told) (defBody s__law_told) (defScope s__law_told) .none kV23 dc23 pm23 an23 cd23 ct23), sl23⟩)
    (c23 : PySem.W.codeIn K cd23 "_law_told" = true)
    (k23 : PySem.W.keepIn K (.ref p23) = true)
    (a24 : PySem.W.nsIn K mainGlobals "_law_behind" = some (some (.ref p24)))
    (l24 : K.lookup p24 = some ⟨oc24, od24, .func (PySem.W.fnOf "_law_behind" "_law_behind" (defArgs s__law_behind) (defBody s__law_behind) (defScope s__law_behind) .none kV24 dc24 pm24 an24 cd24 ct24), sl24⟩)
    (c24 : PySem.W.codeIn K cd24 "_law_behind" = true)
    (k24 : PySem.W.keepIn K (.ref p24) = true)
    (a25 : PySem.W.nsIn K mainGlobals "law" = some (some (.ref p25)))
    (l25 : K.lookup p25 = some ⟨oc25, od25, .func (PySem.W.fnOf "law" "law" (defArgs s_law) (defBody s_law) (defScope s_law) .none kV25 dc25 pm25 an25 cd25 ct25), sl25⟩)
    (c25 : PySem.W.codeIn K cd25 "law" = true)
    (k25 : PySem.W.keepIn K (.ref p25) = true)
    (z_abs : PySem.W.nsIn K mainGlobals "abs" = some none)
    (z_bool : PySem.W.nsIn K mainGlobals "bool" = some none)
    (z_int : PySem.W.nsIn K mainGlobals "int" = some none)
    (z_isinstance : PySem.W.nsIn K mainGlobals "isinstance" = some none)
    (z_len : PySem.W.nsIn K mainGlobals "len" = some none)
    (z_list : PySem.W.nsIn K mainGlobals "list" = some none)
    (z_min : PySem.W.nsIn K mainGlobals "min" = some none)
    (z_range : PySem.W.nsIn K mainGlobals "range" = some none)
    (z_sorted : PySem.W.nsIn K mainGlobals "sorted" = some none)
    (z_str : PySem.W.nsIn K mainGlobals "str" = some none)
    (z_tuple : PySem.W.nsIn K mainGlobals "tuple" = some none)
    (aC_WishError : PySem.W.nsIn K mainGlobals "WishError" = some (some (.ref C_WishError)))
    (aC_NoRouter : PySem.W.nsIn K mainGlobals "NoRouter" = some (some (.ref C_NoRouter)))
    (aC_BadTable : PySem.W.nsIn K mainGlobals "BadTable" = some (some (.ref C_BadTable)))
    (aC_BadAddress : PySem.W.nsIn K mainGlobals "BadAddress" = some (some (.ref C_BadAddress)))
    (aC_BadField : PySem.W.nsIn K mainGlobals "BadField" = some (some (.ref C_BadField)))
    (z_super : PySem.W.nsIn K mainGlobals "super" = some none)
    (opq : PySem.W.nsIn K PySem.cStatics "thirdparty.any" = some none)
    (xL_BadTable : K.lookup C_BadTable = some (excClassObj nm_BadTable q_BadTable C_BadTable N_BadTable bs_BadTable bm_BadTable true sn_BadTable sub_BadTable ab_BadTable col_BadTable dd_BadTable m0_BadTable m1_BadTable m2_BadTable m3_BadTable m5_BadTable "ValueError.__new__"))
    (rv_BadTable : PySem.HandSPX.refsVE bm_BadTable = true)
    (sa_BadTable : PySem.W.findIn K (.ref C_BadTable) "__setattr__" = some (some (.builtin "object.__setattr__")))
    (eC_BadTable : PySem.W.subIn K (.ref C_BadTable) (.type "BaseException") = some true)
    (tC_BadTable : PySem.W.typeIn K (.ref C_BadTable) = some (.type "type"))
    (kC_BadTable : PySem.W.keepIn K (.ref C_BadTable) = true)
    (in_BadTable : PySem.W.findIn K (.ref C_BadTable) "__init__" = some (some (.ref i_BadTable)))
    (ti_BadTable : PySem.W.typeIn K (.ref i_BadTable) = some (.type "function"))
    (li_BadTable : K.lookup i_BadTable = some ⟨oci_BadTable, odi_BadTable, .func (ksFn "__init__" "BadTable.__init__" (defArgs s_BadTable) (defBody s_BadTable) (defScope s_BadTable) .none kVi_BadTable dci_BadTable pmi_BadTable ani_BadTable (.ref kd_BadTable) cti_BadTable kc_BadTable), sli_BadTable⟩)
    (ci_BadTable : PySem.W.codeIn K (.ref kd_BadTable) "BadTable.__init__" = true)
    (fi_BadTable : K.lookup kd_BadTable = some ⟨ccl_BadTable, cdd_BadTable, .fields vs_BadTable, ccs_BadTable⟩)
    (v2_BadTable : vs_BadTable[2]? = some (.str fl_BadTable tf_BadTable))
    (fe_BadTable : ((prg.main.file : Str) == fl_BadTable) = true)
    (ce_BadTable : K.lookup kc_BadTable = some ⟨cl_BadTable, cld_BadTable, .cell (some (.ref C_BadTable)), csl_BadTable⟩)
    (cd_BadTable : PySem.W.clsIn K C_BadTable = some cdD_BadTable)
    (su_BadTable : PySem.W.mroIn K C_BadTable (.ref C_BadTable) = some true)
    (al_BadTable : PySem.W.ks_superIn K C_BadTable C_BadTable "__init__" = some (some (.builtin "ValueError.__init__")))
    (sv_BadTable : PySem.W.subIn K (.ref C_BadTable) (.type "ValueError") = some true)
    (no_BadTable_index : PySem.W.findIn K (.ref C_BadTable) "index" = some none)
    (xL_BadField : K.lookup C_BadField = some (excClassObj nm_BadField q_BadField C_BadField N_BadField bs_BadField bm_BadField true sn_BadField sub_BadField ab_BadField col_BadField dd_BadField m0_BadField m1_BadField m2_BadField m3_BadField m5_BadField "ValueError.__new__"))
    (rv_BadField : PySem.HandSPX.refsVE bm_BadField = true)
    (sa_BadField : PySem.W.findIn K (.ref C_BadField) "__setattr__" = some (some (.builtin "object.__setattr__")))
    (eC_BadField : PySem.W.subIn K (.ref C_BadField) (.type "BaseException") = some true)
    (tC_BadField : PySem.W.typeIn K (.ref C_BadField) = some (.type "type"))
    (kC_BadField : PySem.W.keepIn K (.ref C_BadField) = true)
    (in_BadField : PySem.W.findIn K (.ref C_BadField) "__init__" = some (some (.ref i_BadField)))
    (ti_BadField : PySem.W.typeIn K (.ref i_BadField) = some (.type "function"))
    (li_BadField : K.lookup i_BadField = some ⟨oci_BadField, odi_BadField, .func (ksFn "__init__" "BadField.__init__" (defArgs s_BadField) (defBody s_BadField) (defScope s_BadField) .none kVi_BadField dci_BadField pmi_BadField ani_BadField (.ref kd_BadField) cti_BadField kc_BadField), sli_BadField⟩)
    (ci_BadField : PySem.W.codeIn K (.ref kd_BadField) "BadField.__init__" = true)
    (fi_BadField : K.lookup kd_BadField = some ⟨ccl_BadField, cdd_BadField, .fields vs_BadField, ccs_BadField⟩)
    (v2_BadField : vs_BadField[2]? = some (.str fl_BadField tf_BadField))
    (fe_BadField : ((prg.main.file : Str) == fl_BadField) = true)
    (ce_BadField : K.lookup kc_BadField = some ⟨cl_BadField, cld_BadField, .cell (some (.ref C_BadField)), csl_BadField⟩)
    (cd_BadField : PySem.W.clsIn K C_BadField = some cdD_BadField)
    (su_BadField : PySem.W.mroIn K C_BadField (.ref C_BadField) = some true)
    (al_BadField : PySem.W.ks_superIn K C_BadField C_BadField "__init__" = some (some (.builtin "ValueError.__init__")))
    (sv_BadField : PySem.W.subIn K (.ref C_BadField) (.type "ValueError") = some true)
    (no_BadField_router : PySem.W.findIn K (.ref C_BadField) "router" = some none)
    (xL_NoRouter : K.lookup C_NoRouter = some (excClassObj nm_NoRouter q_NoRouter C_NoRouter N_NoRouter bs_NoRouter bm_NoRouter true sn_NoRouter sub_NoRouter ab_NoRouter col_NoRouter dd_NoRouter m0_NoRouter m1_NoRouter m2_NoRouter m3_NoRouter m5_NoRouter "ValueError.__new__"))
    (rv_NoRouter : PySem.HandSPX.refsVE bm_NoRouter = true)
    (sa_NoRouter : PySem.W.findIn K (.ref C_NoRouter) "__setattr__" = some (some (.builtin "object.__setattr__")))
    (eC_NoRouter : PySem.W.subIn K (.ref C_NoRouter) (.type "BaseException") = some true)
    (tC_NoRouter : PySem.W.typeIn K (.ref C_NoRouter) = some (.type "type"))
    (kC_NoRouter : PySem.W.keepIn K (.ref C_NoRouter) = true)
    (in_NoRouter : PySem.W.findIn K (.ref C_NoRouter) "__init__" = some (some (.ref i_NoRouter)))
    (ti_NoRouter : PySem.W.typeIn K (.ref i_NoRouter) = some (.type "function"))
    (li_NoRouter : K.lookup i_NoRouter = some ⟨oci_NoRouter, odi_NoRouter, .func (ksFn "__init__" "NoRouter.__init__" (defArgs s_NoRouter) (defBody s_NoRouter) (defScope s_NoRouter) .none kVi_NoRouter dci_NoRouter pmi_NoRouter ani_NoRouter (.ref kd_NoRouter) cti_NoRouter kc_NoRouter), sli_NoRouter⟩)
    (ci_NoRouter : PySem.W.codeIn K (.ref kd_NoRouter) "NoRouter.__init__" = true)
    (fi_NoRouter : K.lookup kd_NoRouter = some ⟨ccl_NoRouter, cdd_NoRouter, .fields vs_NoRouter, ccs_NoRouter⟩)
    (v2_NoRouter : vs_NoRouter[2]? = some (.str fl_NoRouter tf_NoRouter))
    (fe_NoRouter : ((prg.main.file : Str) == fl_NoRouter) = true)
    (ce_NoRouter : K.lookup kc_NoRouter = some ⟨cl_NoRouter, cld_NoRouter, .cell (some (.ref C_NoRouter)), csl_NoRouter⟩)
    (cd_NoRouter : PySem.W.clsIn K C_NoRouter = some cdD_NoRouter)
    (su_NoRouter : PySem.W.mroIn K C_NoRouter (.ref C_NoRouter) = some true)
    (al_NoRouter : PySem.W.ks_superIn K C_NoRouter C_NoRouter "__init__" = some (some (.builtin "ValueError.__init__")))
    (sv_NoRouter : PySem.W.subIn K (.ref C_NoRouter) (.type "ValueError") = some true)
    (no_NoRouter_router : PySem.W.findIn K (.ref C_NoRouter) "router" = some none)
    (xL_BadAddress : K.lookup C_BadAddress = some (excClassObj nm_BadAddress q_BadAddress C_BadAddress N_BadAddress bs_BadAddress bm_BadAddress true sn_BadAddress sub_BadAddress ab_BadAddress col_BadAddress dd_BadAddress m0_BadAddress m1_BadAddress m2_BadAddress m3_BadAddress m5_BadAddress "ValueError.__new__"))
    (rv_BadAddress : PySem.HandSPX.refsVE bm_BadAddress = true)
    (sa_BadAddress : PySem.W.findIn K (.ref C_BadAddress) "__setattr__" = some (some (.builtin "object.__setattr__")))
    (eC_BadAddress : PySem.W.subIn K (.ref C_BadAddress) (.type "BaseException") = some true)
    (tC_BadAddress : PySem.W.typeIn K (.ref C_BadAddress) = some (.type "type"))
    (kC_BadAddress : PySem.W.keepIn K (.ref C_BadAddress) = true)
    (in_BadAddress : PySem.W.findIn K (.ref C_BadAddress) "__init__" = some (some (.ref i_BadAddress)))
    (ti_BadAddress : PySem.W.typeIn K (.ref i_BadAddress) = some (.type "function"))
    (li_BadAddress : K.lookup i_BadAddress = some ⟨oci_BadAddress, odi_BadAddress, .func (ksFn "__init__" "BadAddress.__init__" (defArgs s_BadAddress) (defBody s_BadAddress) (defScope s_BadAddress) .none kVi_BadAddress dci_BadAddress pmi_BadAddress ani_BadAddress (.ref kd_BadAddress) cti_BadAddress kc_BadAddress), sli_BadAddress⟩)
    (ci_BadAddress : PySem.W.codeIn K (.ref kd_BadAddress) "BadAddress.__init__" = true)
    (fi_BadAddress : K.lookup kd_BadAddress = some ⟨ccl_BadAddress, cdd_BadAddress, .fields vs_BadAddress, ccs_BadAddress⟩)
    (v2_BadAddress : vs_BadAddress[2]? = some (.str fl_BadAddress tf_BadAddress))
    (fe_BadAddress : ((prg.main.file : Str) == fl_BadAddress) = true)
    (ce_BadAddress : K.lookup kc_BadAddress = some ⟨cl_BadAddress, cld_BadAddress, .cell (some (.ref C_BadAddress)), csl_BadAddress⟩)
    (cd_BadAddress : PySem.W.clsIn K C_BadAddress = some cdD_BadAddress)
    (su_BadAddress : PySem.W.mroIn K C_BadAddress (.ref C_BadAddress) = some true)
    (al_BadAddress : PySem.W.ks_superIn K C_BadAddress C_BadAddress "__init__" = some (some (.builtin "ValueError.__init__")))
    (sv_BadAddress : PySem.W.subIn K (.ref C_BadAddress) (.type "ValueError") = some true)
    (ga_BadTable : PySem.W.findIn K (.ref C_BadTable) "__getattribute__" = some (some (.builtin "BaseException.__getattribute__")))
    (gg_BadTable : PySem.W.findIn K (.ref C_BadTable) "__getattr__" = some none)
    (hd_BadTable : PySem.W.hasDictIn K C_BadTable = true)
    (gc_BadTable : PySem.W.findIn K (.ref C_BadTable) "__class__" = some (some (.builtin "object.__class__")))
    (mo_BadTable : PySem.W.mroIn K C_BadTable (.type "object") = some true)
    (ss_BadTable : PySem.W.subIn K (.ref C_BadTable) (.ref C_BadTable) = some true)
    (ga_BadField : PySem.W.findIn K (.ref C_BadField) "__getattribute__" = some (some (.builtin "BaseException.__getattribute__")))
    (gg_BadField : PySem.W.findIn K (.ref C_BadField) "__getattr__" = some none)
    (hd_BadField : PySem.W.hasDictIn K C_BadField = true)
    (gc_BadField : PySem.W.findIn K (.ref C_BadField) "__class__" = some (some (.builtin "object.__class__")))
    (mo_BadField : PySem.W.mroIn K C_BadField (.type "object") = some true)
    (ss_BadField : PySem.W.subIn K (.ref C_BadField) (.ref C_BadField) = some true)
    (ga_NoRouter : PySem.W.findIn K (.ref C_NoRouter) "__getattribute__" = some (some (.builtin "BaseException.__getattribute__")))
    (gg_NoRouter : PySem.W.findIn K (.ref C_NoRouter) "__getattr__" = some none)
    (hd_NoRouter : PySem.W.hasDictIn K C_NoRouter = true)
    (gc_NoRouter : PySem.W.findIn K (.ref C_NoRouter) "__class__" = some (some (.builtin "object.__class__")))
    (mo_NoRouter : PySem.W.mroIn K C_NoRouter (.type "object") = some true)
    (ss_NoRouter : PySem.W.subIn K (.ref C_NoRouter) (.ref C_NoRouter) = some true)
    (ga_BadAddress : PySem.W.findIn K (.ref C_BadAddress) "__getattribute__" = some (some (.builtin "BaseException.__getattribute__")))
    (gg_BadAddress : PySem.W.findIn K (.ref C_BadAddress) "__getattr__" = some none)
    (hd_BadAddress : PySem.W.hasDictIn K C_BadAddress = true)
    (gc_BadAddress : PySem.W.findIn K (.ref C_BadAddress) "__class__" = some (some (.builtin "object.__class__")))
    (mo_BadAddress : PySem.W.mroIn K C_BadAddress (.type "object") = some true)
    (ss_BadAddress : PySem.W.subIn K (.ref C_BadAddress) (.ref C_BadAddress) = some true) :
    ∃ fd : FuncData, (∀ (s : Shared) (v : Value), BindsTo s fd ⟨[v], []⟩ [("_law_script", v)]) ∧ ∀ base : Heap, K.In base → base.Ns mainGlobals mg → FnOk prg w K mg base (L2.CX prg w) 7 fa fd ["_law_script"] (spL K) := by
  obtain rfl : p25 = fa := by
    have e := hfa.symm.trans (PySem.W.mg_of X G a25)
    cases e
    rfl
  have oc_Table : OC K C_Table := ⟨⟨pg_Table, hd_Table, po_Table, sa_Table⟩, gc_Table, gsp, gtk, mo_Table, ci_Table, ti_Table, fun t => by cases t <;> first | exact s1_Table_NoneType | exact s1_Table_bool | exact s1_Table_int | exact s1_Table_str | exact s1_Table_tuple | exact s1_Table_list | exact s1_Table_dict, fun t => by cases t <;> first | exact s2_Table_NoneType | exact s2_Table_bool | exact s2_Table_int | exact s2_Table_str | exact s2_Table_tuple | exact s2_Table_list | exact s2_Table_dict⟩
  have oc_Field : OC K C_Field := ⟨⟨pg_Field, hd_Field, po_Field, sa_Field⟩, gc_Field, gsp, gtk, mo_Field, ci_Field, ti_Field, fun t => by cases t <;> first | exact s1_Field_NoneType | exact s1_Field_bool | exact s1_Field_int | exact s1_Field_str | exact s1_Field_tuple | exact s1_Field_list | exact s1_Field_dict, fun t => by cases t <;> first | exact s2_Field_NoneType | exact s2_Field_bool | exact s2_Field_int | exact s2_Field_str | exact s2_Field_tuple | exact s2_Field_list | exact s2_Field_dict⟩
  have cf : CFld K mg tb := by
    refine ⟨fun c f h C hC => ?_⟩
    unfold tb at h
    split at h
    · rename_i z; obtain ⟨rfl, rfl⟩ := z; have e := hC.symm.trans (PySem.W.mg_of X G aC_Table); cases e; exact ⟨⟨pg_Table, hd_Table, po_Table, sa_Table⟩, no_Table_entries⟩
    split at h
    · rename_i z; obtain ⟨rfl, rfl⟩ := z; have e := hC.symm.trans (PySem.W.mg_of X G aC_Field); cases e; exact ⟨⟨pg_Field, hd_Field, po_Field, sa_Field⟩, no_Field_size⟩
    split at h
    · rename_i z; obtain ⟨rfl, rfl⟩ := z; have e := hC.symm.trans (PySem.W.mg_of X G aC_Field); cases e; exact ⟨⟨pg_Field, hd_Field, po_Field, sa_Field⟩, no_Field_tables⟩
    cases h
  have ot : OTy K mg oc := by
    refine ⟨fun c h C hC => ?_, fun c c2 C C2 h h2 hne hC hC2 => ?_⟩
    · unfold oc at h
      split at h
      · rename_i z; subst z; have e := hC.symm.trans (PySem.W.mg_of X G aC_Table); cases e; exact oc_Table
      split at h
      · rename_i z; subst z; have e := hC.symm.trans (PySem.W.mg_of X G aC_Field); cases e; exact oc_Field
      cases h
    · unfold oc at h h2
      split at h
      · rename_i z; subst z; have e := hC.symm.trans (PySem.W.mg_of X G aC_Table); cases e
        split at h2
        · rename_i z; subst z; exact absurd rfl hne
        split at h2
        · rename_i z; subst z; have e := hC2.symm.trans (PySem.W.mg_of X G aC_Field); cases e; exact ⟨ne_Table_Field, s3_Table_Field⟩
        cases h2
      split at h
      · rename_i z; subst z; have e := hC.symm.trans (PySem.W.mg_of X G aC_Field); cases e
        split at h2
        · rename_i z; subst z; have e := hC2.symm.trans (PySem.W.mg_of X G aC_Table); cases e; exact ⟨ne_Field_Table, s3_Field_Table⟩
        split at h2
        · rename_i z; subst z; exact absurd rfl hne
        cases h2
      cases h
  have x_BadTable : ExcC K C_BadTable := ⟨ga_BadTable, gg_BadTable, eC_BadTable, hd_BadTable, gc_BadTable, gsp, gtk, mo_BadTable⟩
  have x_BadField : ExcC K C_BadField := ⟨ga_BadField, gg_BadField, eC_BadField, hd_BadField, gc_BadField, gsp, gtk, mo_BadField⟩
  have x_NoRouter : ExcC K C_NoRouter := ⟨ga_NoRouter, gg_NoRouter, eC_NoRouter, hd_NoRouter, gc_NoRouter, gsp, gtk, mo_NoRouter⟩
  have x_BadAddress : ExcC K C_BadAddress := ⟨ga_BadAddress, gg_BadAddress, eC_BadAddress, hd_BadAddress, gc_BadAddress, gsp, gtk, mo_BadAddress⟩
  have xf : XF K mg subs := by
    refine ⟨fun c h b e => ?_⟩
    unfold subs at e
    cases e
  let T : Tx K mg := {
    c_Table := C_Table,
    mc_Table := PySem.W.mg_of X G aC_Table,
    cls_Table := ⟨pg_Table, hd_Table, po_Table, sa_Table⟩,
    c_Field := C_Field,
    mc_Field := PySem.W.mg_of X G aC_Field,
    cls_Field := ⟨pg_Field, hd_Field, po_Field, sa_Field⟩,
    cf := cf,
    ot := ot,
    ku_LENGTH := _,
    km_LENGTH := PySem.W.mg_of X G kc_LENGTH,
    kr_LENGTH := ⟨_, rfl⟩,
    ku_MOST_ENTRIES := _,
    km_MOST_ENTRIES := PySem.W.mg_of X G kc_MOST_ENTRIES,
    kr_MOST_ENTRIES := ⟨_, rfl⟩,
    ku_ROUTERS := _,
    km_ROUTERS := PySem.W.mg_of X G kc_ROUTERS,
    kr_ROUTERS := ⟨_, rfl⟩,
    a__law_pool := p0,
    d__law_pool := _,
    F__law_pool := fun_mk (st := s__law_pool) l0 c0 k0,
    b__law_pool := (fun_mk (st := s__law_pool) l0 c0 k0).binds fun _ _ _ _ _ _ us hl => match us, hl with | [_], _ => rfl,
    m__law_pool := PySem.W.mg_of X G a0,
    a__law_draw := p1,
    d__law_draw := _,
    F__law_draw := fun_mk (st := s__law_draw) l1 c1 k1,
    b__law_draw := (fun_mk (st := s__law_draw) l1 c1 k1).binds fun _ _ _ _ _ _ us hl => match us, hl with | [_, _], _ => rfl,
    m__law_draw := PySem.W.mg_of X G a1,
    a__law_bits := p2,
    d__law_bits := _,
    F__law_bits := fun_mk (st := s__law_bits) l2 c2 k2,
    b__law_bits := (fun_mk (st := s__law_bits) l2 c2 k2).binds fun _ _ _ _ _ _ us hl => match us, hl with | [_, _], _ => rfl,
    m__law_bits := PySem.W.mg_of X G a2,
    a__law_entries := p3,
    d__law_entries := _,
    F__law_entries := fun_mk (st := s__law_entries) l3 c3 k3,
    b__law_entries := (fun_mk (st := s__law_entries) l3 c3 k3).binds fun _ _ _ _ _ _ us hl => match us, hl with | [_, _, _], _ => rfl,
    m__law_entries := PySem.W.mg_of X G a3,
    a__law_rows := p4,
    d__law_rows := _,
    F__law_rows := fun_mk (st := s__law_rows) l4 c4 k4,
    b__law_rows := (fun_mk (st := s__law_rows) l4 c4 k4).binds fun _ _ _ _ _ _ us hl => match us, hl with | [_, _, _], _ => rfl,
    m__law_rows := PySem.W.mg_of X G a4,
    a_is_bits := p5,
    d_is_bits := _,
    F_is_bits := fun_mk (st := s_is_bits) l5 c5 k5,
    b_is_bits := (fun_mk (st := s_is_bits) l5 c5 k5).binds fun _ _ _ _ _ _ us hl => match us, hl with | [_, _, _], _ => rfl,
    m_is_bits := PySem.W.mg_of X G a5,
    a_is_range := p6,
    d_is_range := _,
    F_is_range := fun_mk (st := s_is_range) l6 c6 k6,
    b_is_range := (fun_mk (st := s_is_range) l6 c6 k6).binds fun _ _ _ _ _ _ us hl => match us, hl with | [_], _ => rfl,
    m_is_range := PySem.W.mg_of X G a6,
    a_is_integer := p7,
    d_is_integer := _,
    F_is_integer := fun_mk (st := s_is_integer) l7 c7 k7,
    b_is_integer := (fun_mk (st := s_is_integer) l7 c7 k7).binds fun _ _ _ _ _ _ us hl => match us, hl with | [_], _ => rfl,
    m_is_integer := PySem.W.mg_of X G a7,
    a_is_next := p8,
    d_is_next := _,
    F_is_next := fun_mk (st := s_is_next) l8 c8 k8,
    b_is_next := (fun_mk (st := s_is_next) l8 c8 k8).binds fun _ _ _ _ _ _ us hl => match us, hl with | [_], _ => rfl,
    m_is_next := PySem.W.mg_of X G a8,
    a_is_entry := p9,
    d_is_entry := _,
    F_is_entry := fun_mk (st := s_is_entry) l9 c9 k9,
    b_is_entry := (fun_mk (st := s_is_entry) l9 c9 k9).binds fun _ _ _ _ _ _ us hl => match us, hl with | [_], _ => rfl,
    m_is_entry := PySem.W.mg_of X G a9,
    a_Table__init := p10,
    d_Table__init := _,
    F_Table__init := fun_mk (st := s_Table__init) l10 c10 k10,
    b_Table__init := (fun_mk (st := s_Table__init) l10 c10 k10).binds fun _ _ _ _ _ _ us hl => match us, hl with | [_, _], _ => rfl,
    K_Table := ⟨mk_Table, a10, f10, kC_Table⟩,
    a_fits_field := p11,
    d_fits_field := _,
    F_fits_field := fun_mk (st := s_fits_field) l11 c11 k11,
    b_fits_field := (fun_mk (st := s_fits_field) l11 c11 k11).binds fun _ _ _ _ _ _ us hl => match us, hl with | [_, _], _ => rfl,
    m_fits_field := PySem.W.mg_of X G a11,
    a_Field__init := p12,
    d_Field__init := _,
    F_Field__init := fun_mk (st := s_Field__init) l12 c12 k12,
    b_Field__init := (fun_mk (st := s_Field__init) l12 c12 k12).binds fun _ _ _ _ _ _ us hl => match us, hl with | [_, _], _ => rfl,
    K_Field := ⟨mk_Field, a12, f12, kC_Field⟩,
    a__law_address := p13,
    d__law_address := _,
    F__law_address := fun_mk (st := s__law_address) l13 c13 k13,
    b__law_address := (fun_mk (st := s__law_address) l13 c13 k13).binds fun _ _ _ _ _ _ us hl => match us, hl with | [_, _], _ => rfl,
    m__law_address := PySem.W.mg_of X G a13,
    a__law_longest := p14,
    d__law_longest := _,
    F__law_longest := fun_mk (st := s__law_longest) l14 c14 k14,
    b__law_longest := (fun_mk (st := s__law_longest) l14 c14 k14).binds fun _ _ _ _ _ _ us hl => match us, hl with | [_, _], _ => rfl,
    m__law_longest := PySem.W.mg_of X G a14,
    a__law_due := p15,
    d__law_due := _,
    F__law_due := fun_mk (st := s__law_due) l15 c15 k15,
    b__law_due := (fun_mk (st := s__law_due) l15 c15 k15).binds fun _ _ _ _ _ _ us hl => match us, hl with | [_, _], _ => rfl,
    m__law_due := PySem.W.mg_of X G a15,
    a_is_router := p16,
    d_is_router := _,
    F_is_router := fun_mk (st := s_is_router) l16 c16 k16,
    b_is_router := (fun_mk (st := s_is_router) l16 c16 k16).binds fun _ _ _ _ _ _ us hl => match us, hl with | [_, _], _ => rfl,
    m_is_router := PySem.W.mg_of X G a16,
    a_check_router := p17,
    d_check_router := _,
    F_check_router := fun_mk (st := s_check_router) l17 c17 k17,
    b_check_router := (fun_mk (st := s_check_router) l17 c17 k17).binds fun _ _ _ _ _ _ us hl => match us, hl with | [_, _], _ => rfl,
    m_check_router := PySem.W.mg_of X G a17,
    a_check_address := p18,
    d_check_address := _,
    F_check_address := fun_mk (st := s_check_address) l18 c18 k18,
    b_check_address := (fun_mk (st := s_check_address) l18 c18 k18).binds fun _ _ _ _ _ _ us hl => match us, hl with | [_], _ => rfl,
    m_check_address := PySem.W.mg_of X G a18,
    a_turned := p19,
    d_turned := _,
    F_turned := fun_mk (st := s_turned) l19 c19 k19,
    b_turned := (fun_mk (st := s_turned) l19 c19 k19).binds fun _ _ _ _ _ _ us hl => match us, hl with | [_], _ => rfl,
    m_turned := PySem.W.mg_of X G a19,
    a_follow := p20,
    d_follow := _,
    F_follow := fun_mk (st := s_follow) l20 c20 k20,
    b_follow := (fun_mk (st := s_follow) l20 c20 k20).binds fun _ _ _ _ _ _ us hl => match us, hl with | [_, _], _ => rfl,
    m_follow := PySem.W.mg_of X G a20,
    a_Table__onward := p21,
    d_Table__onward := _,
    F_Table__onward := fun_mk (st := s_Table__onward) l21 c21 k21,
    b_Table__onward := (fun_mk (st := s_Table__onward) l21 c21 k21).binds fun _ _ _ _ _ _ us hl => match us, hl with | [_, _], _ => rfl,
    M_Table__onward := ⟨a21, f21, k21⟩,
    a_fate := p22,
    d_fate := _,
    F_fate := fun_mk (st := s_fate) l22 c22 k22,
    b_fate := (fun_mk (st := s_fate) l22 c22 k22).binds fun _ _ _ _ _ _ us hl => match us, hl with | [_, _, _], _ => rfl,
    m_fate := PySem.W.mg_of X G a22,
    a__law_told := p23,
    d__law_told := _,
    F__law_told := fun_mk (st := s__law_told) l23 c23 k23,
    b__law_told := (fun_mk (st := s__law_told) l23 c23 k23).binds fun _ _ _ _ _ _ us hl => match us, hl with | [_, _], _ => rfl,
    m__law_told := PySem.W.mg_of X G a23,
    a__law_behind := p24,
    d__law_behind := _,
    F__law_behind := fun_mk (st := s__law_behind) l24 c24 k24,
    b__law_behind := (fun_mk (st := s__law_behind) l24 c24 k24).binds fun _ _ _ _ _ _ us hl => match us, hl with | [_, _, _, _, _], _ => rfl,
    m__law_behind := PySem.W.mg_of X G a24,
    a_law := p25,
    d_law := _,
    F_law := fun_mk (st := s_law) l25 c25 k25,
    b_law := (fun_mk (st := s_law) l25 c25 k25).binds fun _ _ _ _ _ _ us hl => match us, hl with | [_], _ => rfl,
    m_law := PySem.W.mg_of X G a25,
    n_abs := PySem.W.mg_none_of X G z_abs,
    n_bool := PySem.W.mg_none_of X G z_bool,
    n_int := PySem.W.mg_none_of X G z_int,
    n_isinstance := PySem.W.mg_none_of X G z_isinstance,
    n_len := PySem.W.mg_none_of X G z_len,
    n_list := PySem.W.mg_none_of X G z_list,
    n_min := PySem.W.mg_none_of X G z_min,
    n_range := PySem.W.mg_none_of X G z_range,
    n_sorted := PySem.W.mg_none_of X G z_sorted,
    n_str := PySem.W.mg_none_of X G z_str,
    n_tuple := PySem.W.mg_none_of X G z_tuple,
    c_WishError := C_WishError,
    mc_WishError := PySem.W.mg_of X G aC_WishError,
    c_NoRouter := C_NoRouter,
    mc_NoRouter := PySem.W.mg_of X G aC_NoRouter,
    c_BadTable := C_BadTable,
    mc_BadTable := PySem.W.mg_of X G aC_BadTable,
    c_BadAddress := C_BadAddress,
    mc_BadAddress := PySem.W.mg_of X G aC_BadAddress,
    c_BadField := C_BadField,
    mc_BadField := PySem.W.mg_of X G aC_BadField,
    no_BadTable_index := no_BadTable_index,
    o_BadTable := ⟨⟨nm_BadTable, q_BadTable, N_BadTable, bs_BadTable, bm_BadTable, sn_BadTable, sub_BadTable, ab_BadTable, col_BadTable, dd_BadTable, m0_BadTable, m1_BadTable, m2_BadTable, m3_BadTable, m5_BadTable, xL_BadTable, rv_BadTable⟩, sa_BadTable, eC_BadTable, tC_BadTable, kC_BadTable⟩,
    i_BadTable := i_BadTable,
    di_BadTable := _,
    in_BadTable := in_BadTable,
    ti_BadTable := ti_BadTable,
    bi_BadTable := ks_binds fun us hl => match us, hl with | [_, _], _ => rfl,
    kd_BadTable := kd_BadTable,
    kc_BadTable := kc_BadTable,
    Z_BadTable := ⟨⟨_, _, _, _, _, _, _, _, _, rfl, li_BadTable⟩, ci_BadTable, ⟨_, _, _, _, _, _, fi_BadTable, v2_BadTable, fe_BadTable⟩, ⟨_, _, _, ce_BadTable⟩, ⟨_, cd_BadTable⟩, su_BadTable, PySem.W.mg_none_of X G z_super, (by decide +kernel), opq, al_BadTable, sv_BadTable⟩,
    no_BadField_router := no_BadField_router,
    o_BadField := ⟨⟨nm_BadField, q_BadField, N_BadField, bs_BadField, bm_BadField, sn_BadField, sub_BadField, ab_BadField, col_BadField, dd_BadField, m0_BadField, m1_BadField, m2_BadField, m3_BadField, m5_BadField, xL_BadField, rv_BadField⟩, sa_BadField, eC_BadField, tC_BadField, kC_BadField⟩,
    i_BadField := i_BadField,
    di_BadField := _,
    in_BadField := in_BadField,
    ti_BadField := ti_BadField,
    bi_BadField := ks_binds fun us hl => match us, hl with | [_, _], _ => rfl,
    kd_BadField := kd_BadField,
    kc_BadField := kc_BadField,
    Z_BadField := ⟨⟨_, _, _, _, _, _, _, _, _, rfl, li_BadField⟩, ci_BadField, ⟨_, _, _, _, _, _, fi_BadField, v2_BadField, fe_BadField⟩, ⟨_, _, _, ce_BadField⟩, ⟨_, cd_BadField⟩, su_BadField, PySem.W.mg_none_of X G z_super, (by decide +kernel), opq, al_BadField, sv_BadField⟩,
    no_NoRouter_router := no_NoRouter_router,
    o_NoRouter := ⟨⟨nm_NoRouter, q_NoRouter, N_NoRouter, bs_NoRouter, bm_NoRouter, sn_NoRouter, sub_NoRouter, ab_NoRouter, col_NoRouter, dd_NoRouter, m0_NoRouter, m1_NoRouter, m2_NoRouter, m3_NoRouter, m5_NoRouter, xL_NoRouter, rv_NoRouter⟩, sa_NoRouter, eC_NoRouter, tC_NoRouter, kC_NoRouter⟩,
    i_NoRouter := i_NoRouter,
    di_NoRouter := _,
    in_NoRouter := in_NoRouter,
    ti_NoRouter := ti_NoRouter,
    bi_NoRouter := ks_binds fun us hl => match us, hl with | [_, _], _ => rfl,
    kd_NoRouter := kd_NoRouter,
    kc_NoRouter := kc_NoRouter,
    Z_NoRouter := ⟨⟨_, _, _, _, _, _, _, _, _, rfl, li_NoRouter⟩, ci_NoRouter, ⟨_, _, _, _, _, _, fi_NoRouter, v2_NoRouter, fe_NoRouter⟩, ⟨_, _, _, ce_NoRouter⟩, ⟨_, cd_NoRouter⟩, su_NoRouter, PySem.W.mg_none_of X G z_super, (by decide +kernel), opq, al_NoRouter, sv_NoRouter⟩,
    o_BadAddress := ⟨⟨nm_BadAddress, q_BadAddress, N_BadAddress, bs_BadAddress, bm_BadAddress, sn_BadAddress, sub_BadAddress, ab_BadAddress, col_BadAddress, dd_BadAddress, m0_BadAddress, m1_BadAddress, m2_BadAddress, m3_BadAddress, m5_BadAddress, xL_BadAddress, rv_BadAddress⟩, sa_BadAddress, eC_BadAddress, tC_BadAddress, kC_BadAddress⟩,
    i_BadAddress := i_BadAddress,
    di_BadAddress := _,
    in_BadAddress := in_BadAddress,
    ti_BadAddress := ti_BadAddress,
    bi_BadAddress := ks_binds fun us hl => match us, hl with | [_], _ => rfl,
    kd_BadAddress := kd_BadAddress,
    kc_BadAddress := kc_BadAddress,
    Z_BadAddress := ⟨⟨_, _, _, _, _, _, _, _, _, rfl, li_BadAddress⟩, ci_BadAddress, ⟨_, _, _, _, _, _, fi_BadAddress, v2_BadAddress, fe_BadAddress⟩, ⟨_, _, _, ce_BadAddress⟩, ⟨_, cd_BadAddress⟩, su_BadAddress, PySem.W.mg_none_of X G z_super, (by decide +kernel), opq, al_BadAddress, sv_BadAddress⟩,
    xf := xf }
  exact ⟨T.d_law, fun s v => .of_eq rfl, fun base _ _ => (ok_law T).imp fun vs H Q E ⟨a, ns, e, hS, hO, hl, hq⟩ => by subst e; exact law_in hO hS (plain ns hl) hq⟩
end Zk89
namespace Zk89
open PySem VS
theorem ixN_nat {n j : Nat} (hj : j < n) : L2.ixN n (j : Int) = some j := by
  unfold L2.ixN
  rw [if_pos (by omega), if_pos (by omega), Int.toNat_natCast]
theorem okMul_lit {i j : Int} (h : j.natAbs < 2 ^ 64) : okMul i j = true := by simp [okMul, h]
theorem okMul_litL {i j : Int} (h : i.natAbs < 2 ^ 64) : okMul i j = true := by simp [okMul, h]
theorem okR_nat {n : Nat} (h : n < 100000) : okR (n : Int) = true := by unfold okR; rw [decide_eq_true_eq]; omega
theorem log_small {n : Int} (h0 : 0 < n) (h : n < 2000) : n.natAbs.log2 < 9000 := by
  have := Nat.log2_le_self n.natAbs
  omega
/-! ### the pool -/
def pkv (c g : List Int) (h s : Int) (m : Nat) : List (D × D) := [(.str ("cells" : Str), .lst (intsD c)), (.str ("great" : Str), .lst (intsD g)), (.str ("held" : Str), .int h), (.str ("state" : Str), .int s), (.str ("many" : Str), .int m)]
abbrev poolD (c g : List Int) (h s : Int) (m : Nat) : D := .dct ⟨false, false⟩ (pkv c g h s m)
theorem ke_cells_great : (("cells" : Str) == ("great" : Str)) = false := by decide +kernel
theorem ke_cells_held : (("cells" : Str) == ("held" : Str)) = false := by decide +kernel
theorem ke_cells_state : (("cells" : Str) == ("state" : Str)) = false := by decide +kernel
theorem ke_cells_many : (("cells" : Str) == ("many" : Str)) = false := by decide +kernel
theorem ke_great_cells : (("great" : Str) == ("cells" : Str)) = false := by decide +kernel
theorem ke_great_held : (("great" : Str) == ("held" : Str)) = false := by decide +kernel
theorem ke_great_state : (("great" : Str) == ("state" : Str)) = false := by decide +kernel
theorem ke_great_many : (("great" : Str) == ("many" : Str)) = false := by decide +kernel
theorem ke_held_cells : (("held" : Str) == ("cells" : Str)) = false := by decide +kernel
theorem ke_held_great : (("held" : Str) == ("great" : Str)) = false := by decide +kernel
theorem ke_held_state : (("held" : Str) == ("state" : Str)) = false := by decide +kernel
theorem ke_held_many : (("held" : Str) == ("many" : Str)) = false := by decide +kernel
theorem ke_state_cells : (("state" : Str) == ("cells" : Str)) = false := by decide +kernel
theorem ke_state_great : (("state" : Str) == ("great" : Str)) = false := by decide +kernel
theorem ke_state_held : (("state" : Str) == ("held" : Str)) = false := by decide +kernel
theorem ke_state_many : (("state" : Str) == ("many" : Str)) = false := by decide +kernel
theorem ke_many_cells : (("many" : Str) == ("cells" : Str)) = false := by decide +kernel
theorem ke_many_great : (("many" : Str) == ("great" : Str)) = false := by decide +kernel
theorem ke_many_held : (("many" : Str) == ("held" : Str)) = false := by decide +kernel
theorem ke_many_state : (("many" : Str) == ("state" : Str)) = false := by decide +kernel
section
variable {c g : List Int} {h s : Int} {m : Nat} {x : D}
theorem pg_cells : dGet (pkv c g h s m) (.str ("cells" : Str)) = some (.lst (intsD c)) := by simp [dGet, pkv, List.find?_cons, keq, atomEq, ke_cells_great, ke_cells_held, ke_cells_state, ke_cells_many, ke_great_cells, ke_great_held, ke_great_state, ke_great_many, ke_held_cells, ke_held_great, ke_held_state, ke_held_many, ke_state_cells, ke_state_great, ke_state_held, ke_state_many, ke_many_cells, ke_many_great, ke_many_held, ke_many_state]
theorem ph_cells : dHas (pkv c g h s m) (.str ("cells" : Str)) = true := by simp [dHas, pkv, keq, atomEq, ke_cells_great, ke_cells_held, ke_cells_state, ke_cells_many, ke_great_cells, ke_great_held, ke_great_state, ke_great_many, ke_held_cells, ke_held_great, ke_held_state, ke_held_many, ke_state_cells, ke_state_great, ke_state_held, ke_state_many, ke_many_cells, ke_many_great, ke_many_held, ke_many_state]
theorem pg_great : dGet (pkv c g h s m) (.str ("great" : Str)) = some (.lst (intsD g)) := by simp [dGet, pkv, List.find?_cons, keq, atomEq, ke_cells_great, ke_cells_held, ke_cells_state, ke_cells_many, ke_great_cells, ke_great_held, ke_great_state, ke_great_many, ke_held_cells, ke_held_great, ke_held_state, ke_held_many, ke_state_cells, ke_state_great, ke_state_held, ke_state_many, ke_many_cells, ke_many_great, ke_many_held, ke_many_state]
theorem ph_great : dHas (pkv c g h s m) (.str ("great" : Str)) = true := by simp [dHas, pkv, keq, atomEq, ke_cells_great, ke_cells_held, ke_cells_state, ke_cells_many, ke_great_cells, ke_great_held, ke_great_state, ke_great_many, ke_held_cells, ke_held_great, ke_held_state, ke_held_many, ke_state_cells, ke_state_great, ke_state_held, ke_state_many, ke_many_cells, ke_many_great, ke_many_held, ke_many_state]
theorem pg_held : dGet (pkv c g h s m) (.str ("held" : Str)) = some (.int h) := by simp [dGet, pkv, List.find?_cons, keq, atomEq, ke_cells_great, ke_cells_held, ke_cells_state, ke_cells_many, ke_great_cells, ke_great_held, ke_great_state, ke_great_many, ke_held_cells, ke_held_great, ke_held_state, ke_held_many, ke_state_cells, ke_state_great, ke_state_held, ke_state_many, ke_many_cells, ke_many_great, ke_many_held, ke_many_state]
theorem ph_held : dHas (pkv c g h s m) (.str ("held" : Str)) = true := by simp [dHas, pkv, keq, atomEq, ke_cells_great, ke_cells_held, ke_cells_state, ke_cells_many, ke_great_cells, ke_great_held, ke_great_state, ke_great_many, ke_held_cells, ke_held_great, ke_held_state, ke_held_many, ke_state_cells, ke_state_great, ke_state_held, ke_state_many, ke_many_cells, ke_many_great, ke_many_held, ke_many_state]
theorem pg_state : dGet (pkv c g h s m) (.str ("state" : Str)) = some (.int s) := by simp [dGet, pkv, List.find?_cons, keq, atomEq, ke_cells_great, ke_cells_held, ke_cells_state, ke_cells_many, ke_great_cells, ke_great_held, ke_great_state, ke_great_many, ke_held_cells, ke_held_great, ke_held_state, ke_held_many, ke_state_cells, ke_state_great, ke_state_held, ke_state_many, ke_many_cells, ke_many_great, ke_many_held, ke_many_state]
theorem ph_state : dHas (pkv c g h s m) (.str ("state" : Str)) = true := by simp [dHas, pkv, keq, atomEq, ke_cells_great, ke_cells_held, ke_cells_state, ke_cells_many, ke_great_cells, ke_great_held, ke_great_state, ke_great_many, ke_held_cells, ke_held_great, ke_held_state, ke_held_many, ke_state_cells, ke_state_great, ke_state_held, ke_state_many, ke_many_cells, ke_many_great, ke_many_held, ke_many_state]
theorem pg_many : dGet (pkv c g h s m) (.str ("many" : Str)) = some (.int m) := by simp [dGet, pkv, List.find?_cons, keq, atomEq, ke_cells_great, ke_cells_held, ke_cells_state, ke_cells_many, ke_great_cells, ke_great_held, ke_great_state, ke_great_many, ke_held_cells, ke_held_great, ke_held_state, ke_held_many, ke_state_cells, ke_state_great, ke_state_held, ke_state_many, ke_many_cells, ke_many_great, ke_many_held, ke_many_state]
theorem ph_many : dHas (pkv c g h s m) (.str ("many" : Str)) = true := by simp [dHas, pkv, keq, atomEq, ke_cells_great, ke_cells_held, ke_cells_state, ke_cells_many, ke_great_cells, ke_great_held, ke_great_state, ke_great_many, ke_held_cells, ke_held_great, ke_held_state, ke_held_many, ke_state_cells, ke_state_great, ke_state_held, ke_state_many, ke_many_cells, ke_many_great, ke_many_held, ke_many_state]
theorem pp_held {h2 : Int} : dPut (pkv c g h s m) (.str ("held" : Str)) (.int h2) = pkv c g h2 s m := by simp [dPut, ph_held]; simp [pkv, keq, atomEq, ke_cells_great, ke_cells_held, ke_cells_state, ke_cells_many, ke_great_cells, ke_great_held, ke_great_state, ke_great_many, ke_held_cells, ke_held_great, ke_held_state, ke_held_many, ke_state_cells, ke_state_great, ke_state_held, ke_state_many, ke_many_cells, ke_many_great, ke_many_held, ke_many_state]
theorem pp_state {h2 : Int} : dPut (pkv c g h s m) (.str ("state" : Str)) (.int h2) = pkv c g h h2 m := by simp [dPut, ph_state]; simp [pkv, keq, atomEq, ke_cells_great, ke_cells_held, ke_cells_state, ke_cells_many, ke_great_cells, ke_great_held, ke_great_state, ke_great_many, ke_held_cells, ke_held_great, ke_held_state, ke_held_many, ke_state_cells, ke_state_great, ke_state_held, ke_state_many, ke_many_cells, ke_many_great, ke_many_held, ke_many_state]
theorem pp_many {h2 : Nat} : dPut (pkv c g h s m) (.str ("many" : Str)) (.int h2) = pkv c g h s h2 := by simp [dPut, ph_many]; simp [pkv, keq, atomEq, ke_cells_great, ke_cells_held, ke_cells_state, ke_cells_many, ke_great_cells, ke_great_held, ke_great_state, ke_great_many, ke_held_cells, ke_held_great, ke_held_state, ke_held_many, ke_state_cells, ke_state_great, ke_state_held, ke_state_many, ke_many_cells, ke_many_great, ke_many_held, ke_many_state]
theorem ps_great {g2 : List Int} : dSet (pkv c g h s m) (.str ("great" : Str)) (.lst (intsD g2)) = pkv c g2 h s m := by simp [dSet, pkv, keq, atomEq, ke_cells_great, ke_cells_held, ke_cells_state, ke_cells_many, ke_great_cells, ke_great_held, ke_great_state, ke_great_many, ke_held_cells, ke_held_great, ke_held_state, ke_held_many, ke_state_cells, ke_state_great, ke_state_held, ke_state_many, ke_many_cells, ke_many_great, ke_many_held, ke_many_state]
theorem pk_len : (pkv c g h s m).length = 5 := rfl
theorem pk_cast {a : Nat} : ((a : Int) + 1) = ((a + 1 : Nat) : Int) := by omega
end
def Pool (p : D) : Prop := ∃ (c g : List Int) (h s : Int) (m : Nat), p = poolD c g h s m ∧ c ≠ [] ∧ (0 ≤ s ∧ s < 2147483647)
/-- what the draw does behind the great ones -/
theorem draw_ok {p : D} (hp : Pool p) {n : Int} (hn : 0 < n) (hl : n.natAbs.log2 < 9000) : ∃ (k : Int) (p' : D), f__law_draw [p, .int n] = .ok (.int k) [p', .int n] ∧ 0 ≤ k ∧ k < n ∧ Pool p' := by
  obtain ⟨c, g, h, s, m, rfl, hc, hs⟩ := hp
  have e0 : ([poolD c g h s m, D.int n].map some ++ List.replicate (7 - [poolD c g h s m, D.int n].length) none : En) = [some (poolD c g h s m), some (.int n), none, none, none, none, none] := rfl
  -- the first step
  obtain ⟨g2, h2, hpre⟩ : ∃ g2 h2, (sIf (bAnd (bT (mLt (mIdx (mVar 0) (mC (.str ("held" : Str)))) (mC (.int 2)))) (bT (mGt (mArg false gLnA (aCons (mIdx (mVar 0) (mC (.str ("great" : Str)))) aNil)) (mC (.int 0)))))
    (sPut 0 gSetL (pVar 0) (mC (.str ("held" : Str))) (mMut D.isL 0 gPopAt (pKey (pVar 0) (mC (.str ("great" : Str)))) (aCons (mC (.int 0)) aNil)))
    sNil) [some (poolD c g h s m), some (.int n), none, none, none, none, none] = .nx [some (poolD c g2 h2 s m), some (.int n), none, none, none, none, none] := by
    by_cases h1 : h < 2
    · cases g with
      | nil => exact ⟨[], h, by simp [pg_held, pg_great, h1]⟩
      | cons a r =>
        have hp := g_pop0 (i := 0) (r := intsD (a :: r)) (by decide) (j := 0) (by rw [intsD_len]; exact ixN_nat (j := 0) (by simp)) (y := .int a) rfl
        have e1 : (intsD (a :: r)).eraseIdx 0 = intsD r := rfl
        rw [e1] at hp
        refine ⟨r, a, ?_⟩
        have gt : (0 : Int) < ((intsD (a :: r)).length : Nat) := by rw [intsD_len]; simp
        simp only [intsD_cons] at hp gt
        simp [pg_held, pg_great, h1, hp, ps_great, pp_held, pk_len, gt]
    · exact ⟨g, h, by simp [pg_held, pg_great, h1]⟩
  have hml : ∀ s1 : SM, sSeq _ s1 _ = _ := fun s1 => seq_nx hpre
  by_cases h3 : 1 < h2
  · refine ⟨h2 % n, poolD c g2 (h2 / n) s m, ?_, Int.emod_nonneg _ (by omega), Int.emod_lt_of_pos _ hn, c, g2, _, s, m, rfl, hc, hs⟩
    simp only [f__law_draw, e_fnM, m__law_draw]
    rw [e0, hml]
    simp [pg_held, h3, hn, hl, pp_held, pk_len]
  · have hcl : 0 < c.length := List.length_pos_iff.mpr hc
    have hlt : (m + 1) % c.length < c.length := Nat.mod_lt _ hcl
    have hx : c[(m + 1) % c.length]? = some c[(m + 1) % c.length] := List.getElem?_eq_getElem hlt
    have hy : L2.atI (intsD c) (((m + 1) % c.length : Nat) : Int) = some (.int c[(m + 1) % c.length]) := L2.atI_nat (by rw [intsD, List.getElem?_map, hx]; rfl)
    have hy' : L2.atI (intsD c) (((m : Int) + 1) % (c.length : Int)) = some (.int c[(m + 1) % c.length]) := hy
    obtain ⟨cell, hcell⟩ : ∃ x : Int, x = c[(m + 1) % c.length] := ⟨_, rfl⟩
    rw [← hcell] at hy'
    obtain ⟨cl, hcl2⟩ : ∃ x : Int, x = cell % 2147483629 := ⟨_, rfl⟩
    obtain ⟨st, hst⟩ : ∃ x : Int, x = (s * 69621 + cl + 30103 * ((m : Int) + 1)) % 2147483647 := ⟨_, rfl⟩
    have bs : 0 ≤ st ∧ st < 2147483647 := by rw [hst]; exact ⟨Int.emod_nonneg _ (by decide), Int.emod_lt_of_pos _ (by decide)⟩
    obtain ⟨m1, hm1⟩ : ∃ x : Int, x = st * (st / 1009 + 48271) % 2147483629 := ⟨_, rfl⟩
    have b1 : 0 ≤ m1 ∧ m1 < 2147483629 := by rw [hm1]; exact ⟨Int.emod_nonneg _ (by decide), Int.emod_lt_of_pos _ (by decide)⟩
    obtain ⟨m2, hm2⟩ : ∃ x : Int, x = m1 * (m1 / 2003 + 40692) % 2147483399 := ⟨_, rfl⟩
    have k1 : okMul s 69621 = true := okMul_lit (by decide)
    have k2 : okMul 30103 ((m : Int) + 1) = true := okMul_litL (by decide)
    have k3 : okMul st (st / 1009 + 48271) = true := by simp only [okMul, Bool.or_eq_true, decide_eq_true_eq]; left; omega
    have k4 : okMul m1 (m1 / 2003 + 40692) = true := by simp only [okMul, Bool.or_eq_true, decide_eq_true_eq]; left; omega
    have l1 : (1009 : Nat).log2 < 9000 := by decide
    have l2 : (2003 : Nat).log2 < 9000 := by decide
    have l3 : (16 : Nat).log2 < 9000 := by decide
    have hlen : (0 : Int) < (c.length : Int) := by omega
    refine ⟨m2 / 16 % n, poolD c g2 h2 st (m + 1), ?_, Int.emod_nonneg _ (by omega), Int.emod_lt_of_pos _ hn, c, g2, h2, st, m + 1, rfl, hc, bs⟩
    simp only [f__law_draw, e_fnM, m__law_draw]
    rw [e0, hml]
    rw [seq_nx (e1 := [some (poolD c g2 h2 s m), some (.int n), some (.int h2), none, none, none, none]) (by simp [pg_held])]
    rw [seq_nx (e1 := [some (poolD c g2 h2 s m), some (.int n), some (.int h2), none, none, none, none]) (by simp [h3])]
    rw [seq_nx (e1 := [some (poolD c g2 h2 s m), some (.int n), some (.int h2), some (.int ((m + 1 : Nat) : Int)), none, none, none]) (by simp [pg_many])]
    rw [seq_nx (e1 := [some (poolD c g2 h2 s (m + 1)), some (.int n), some (.int h2), some (.int ((m + 1 : Nat) : Int)), none, none, none]) (by simp only [e_sPut, e_sPut2, e_sPut3, e_sPut4, e_mP, e_mP2, e_mVar, e_pVar, e_mC, List.getElem?_cons_succ, List.getElem?_cons_zero, Rt.bind_ok, Rt.st_ok, pr_int, if_true, mu_dct, g_setD, k_str, Bool.not_false, Bool.true_and, pk_len, pp_many]; rfl)]
    rw [seq_nx (e1 := [some (poolD c g2 h2 s (m + 1)), some (.int n), some (.int h2), some (.int ((m + 1 : Nat) : Int)), some (.int cl), none, none]) (by simp [pg_cells, hy', hcl2, hcl])]
    rw [seq_nx (e1 := [some (poolD c g2 h2 s (m + 1)), some (.int n), some (.int h2), some (.int ((m + 1 : Nat) : Int)), some (.int cl), some (.int st), none]) (by simp [pg_state, k1, k2, hst])]
    rw [seq_nx (e1 := [some (poolD c g2 h2 st (m + 1)), some (.int n), some (.int h2), some (.int ((m + 1 : Nat) : Int)), some (.int cl), some (.int st), none]) (by simp [pp_state, pk_len])]
    simp [k3, l1, ← hm1, k4, l2, ← hm2, l3, hn, hl]
end Zk89
namespace Zk89
open PySem VS
theorem ts0 : ((toString (0 : Int) : String) : Str) = ("0" : Str) := by decide +kernel
theorem ts1 : ((toString (1 : Int) : String) : Str) = ("1" : Str) := by decide +kernel
theorem g_str01 {v : Int} (h0 : 0 ≤ v) (h1 : v < 2) : ∃ s : Str, gStr [.int v] = some (.str s) ∧ (s = ("0" : Str) ∨ s = ("1" : Str)) := by
  have : v = 0 ∨ v = 1 := by omega
  rcases this with e | e <;> subst e
  · exact ⟨("0" : Str), by show (if decide ((0 : Int).natAbs.log2 < 1920) = true then some (D.str (Str.ofString (toString (0 : Int)))) else none) = _; rw [if_pos (by decide), ts0], .inl rfl⟩
  · exact ⟨("1" : Str), by show (if decide ((1 : Int).natAbs.log2 < 1920) = true then some (D.str (Str.ofString (toString (1 : Int)))) else none) = _; rw [if_pos (by decide), ts1], .inr rfl⟩
def Dig (s : Str) : Prop := s = ("0" : Str) ∨ s = ("1" : Str)
theorem Dig.bits {s : Str} (h : Dig s) : Bits s := by rcases h with rfl | rfl; exact bits0; exact bits1
theorem Dig.len {s : Str} (h : Dig s) : (tl s).length = 1 := by rcases h with rfl | rfl; rw [s0_eq]; rfl; rw [s1_eq]; rfl
theorem join_bits : ∀ {ys : List Str}, (∀ y ∈ ys, Dig y) → Bits (Txt.join ("" : Str) ys) ∧ (tl (Txt.join ("" : Str) ys)).length = ys.length ∧ (ys.map (·.length)).sum = ys.length := by
  intro ys h
  have key : ∀ zs : List Str, (∀ y ∈ zs, Dig y) → (∀ c ∈ (zs.map tl).flatten, c = 48 ∨ c = 49) ∧ ((zs.map tl).flatten).length = zs.length ∧ (zs.map (·.length)).sum = zs.length := by
    intro zs
    induction zs with
    | nil => intro _; simp
    | cons z r ih =>
      intro hz
      obtain ⟨a, b, c⟩ := ih fun y hy => hz y (by simp [hy])
      have d := hz z (by simp)
      refine ⟨fun x hx => ?_, ?_, ?_⟩
      · rw [List.map_cons, List.flatten_cons, List.mem_append] at hx
        exact hx.elim (d.bits x) (a x)
      · rw [List.map_cons, List.flatten_cons, List.length_append, b, d.len, List.length_cons]; omega
      · rw [List.map_cons, List.sum_cons, c, tl_len, d.len, List.length_cons]; omega
  obtain ⟨a, b, c⟩ := key ys h
  unfold Bits
  rw [tl_join]
  exact ⟨a, b, c⟩
theorem se_len : ("" : Str).length = 0 := rfl
/-- the row of drawn digits -/
theorem digits {n : Nat} {vs : List Nat} {f : D → En → Option En} {m : EM} (hn : n ≤ 100) (J : D → En → Prop) (hd : ∀ e, (∃ p, Pool p ∧ J p e) → ∀ d, ∃ e1, f d (dropV e vs) = some e1 ∧ ∃ s p' e2, m e1 = .ok (.str s) e2 ∧ Dig s ∧ Pool p' ∧ J p' e2) {e : En} {p : D} (hp : Pool p) (hJ : J p e) :
    ∃ s p' e', (lcL vs f bYes m (rngL 0 n) [] e).nox = .ok (.lst ((List.map D.str s))) (dropV e' vs) ∧ Pool p' ∧ J p' e' ∧ (∀ y ∈ s, Dig y) ∧ s.length = n := by
  obtain ⟨acc, e', l1, ys, p', e2, q1, q2, q3, q4, q5, q6⟩ := lcL_rule (vs := vs) (f := f) (t := bYes) (m := m)
    (fun i acc e => ∃ (ys : List Str) (p' : D), acc = ys.map D.str ∧ Pool p' ∧ J p' e ∧ (∀ y ∈ ys, Dig y) ∧ ys.length = i)
    (fun acc e => ∃ (ys : List Str) (p' : D) (e2 : En), acc = ys.map D.str ∧ Pool p' ∧ J p' e2 ∧ (∀ y ∈ ys, Dig y) ∧ ys.length = n ∧ e = dropV e2 vs) (rngL 0 n) [] 0 e ⟨[], p, rfl, hp, hJ, by simp, rfl⟩
    (fun i d acc e hdd ⟨ys, p1, h1, h2, h3, h4, h5⟩ => by
      obtain ⟨hi, rfl⟩ := rngL_at hdd
      obtain ⟨e1, g1, s, p2, e2, g2, g3, g4, g5⟩ := hd e ⟨p1, h2, h3⟩ (.int (0 + (i : Int)))
      refine ⟨e1, g1, true, e1, rfl, fun z => (by cases z), fun _ => ⟨by rw [h1, List.length_map, h5, LIM_val]; omega, _, e2, g2, ys ++ [s], p2, by rw [h1]; simp, g4, g5, fun y hy => ?_, by simp [h5]⟩⟩
      rcases List.mem_append.mp hy with hy | hy
      · exact h4 y hy
      · rw [List.mem_singleton] at hy; rw [hy]; exact g3)
    (fun acc e ⟨ys, p1, h1, h2, h3, h4, h5⟩ => ⟨ys, p1, e, h1, h2, h3, h4, by simpa using h5, rfl⟩)
  rw [l1, q1, q6, nox_ok]
  exact ⟨ys, p', e2, rfl, q2, q3, q4, q5⟩
theorem bits_ok {p : D} (hp : Pool p) {n : Nat} (hn : n ≤ 10) : ∃ (s : Str) (p' : D), f__law_bits [p, .int n] = .ok (.str s) [p', .int n] ∧ Bits s ∧ (tl s).length ≤ n ∧ Pool p' := by
  obtain ⟨k, p1, d1, d2, d3, q1⟩ := draw_ok hp (n := (n : Int) + 1) (by omega) (log_small (by omega) (by omega))
  obtain ⟨k', rfl⟩ : ∃ k' : Nat, k = (k' : Int) := ⟨k.toNat, by omega⟩
  obtain ⟨ys, p2, e', l1, q2, ⟨o, he⟩, g1, g2⟩ := digits (n := k') (vs := [2]) (f := gSet 2) (m := mArg false gStr (aCons (mCall [.fd, .s] .d false f__law_draw [.slot 0, .val (mC (.int 2))]) aNil)) (by omega)
    (fun p e => ∃ o, e = [some p, some (.int n), o])
    (fun e ⟨p, hp, o, he⟩ d => by
      subst he
      obtain ⟨v, p', w1, w2, w3, w4⟩ := draw_ok hp (n := 2) (by decide) (by decide)
      obtain ⟨s, w5, w6⟩ := g_str01 w2 w3
      exact ⟨[some p, some (.int n), some d], rfl, s, p', [some p', some (.int n), some d], by simp [w1, w5], w6, w4, _, rfl⟩)
    q1 (e := [some p1, some (.int n), none]) ⟨none, rfl⟩
  subst he
  obtain ⟨b1, b2, b3⟩ := join_bits g1
  have hj := g_join (x := ("" : Str)) (ys := ys) (by rw [b3, se_len]; omega)
  have hk : okR (k' : Int) = true := okR_nat (by omega)
  refine ⟨Txt.join ("" : Str) ys, p2, ?_, b1, by omega, q2⟩
  have e0 : ([p, D.int n].map some ++ List.replicate (3 - [p, D.int n].length) none : En) = [some p, some (.int n), none] := rfl
  simp only [f__law_bits, e_fnM, m__law_bits]
  rw [e0]
  have l2 : dropV [some p2, some (D.int ↑n), o] [2] = [some p2, some (D.int ↑n), none] := rfl
  rw [l2] at l1
  simp [d1, hk, l1, hj]
end Zk89
namespace Zk89
open PySem VS
theorem pool_ok {ns : List Int} (h : ns.length ≤ 63) : ∃ p, f__law_pool [.scr ns] = .ok p [.scr ns] ∧ Pool p := by
  have cut : pySl (.scr ns) none (some 63) = some (.lst (intsD ((ns.drop (HT.sIx ns.length 0 none)).take (HT.sIx ns.length ns.length (some 63) - HT.sIx ns.length 0 none)))) := id rfl
  obtain ⟨ms, hms⟩ : ∃ ms, ms = ((ns.drop (HT.sIx ns.length 0 none)).take (HT.sIx ns.length ns.length (some 63) - HT.sIx ns.length 0 none)) := ⟨_, rfl⟩
  have hml : ms.length ≤ 63 := by rw [hms, List.length_take, List.length_drop]; omega
  rw [← hms] at cut
  obtain ⟨acc, e', l1, l2⟩ := lcL_rule (vs := [4]) (f := gSet 4) (t := bYes) (m := mArg false gInt (aCons (mVar 4) aNil))
    (fun i acc e => ∃ o, e = [some (.scr ns), none, none, none, o] ∧ acc = intsD (ms.take i))
    (fun acc e => e = [some (.scr ns), none, none, none, none] ∧ acc = intsD ms) (intsD ms) [] 0 [some (.scr ns), none, none, none, none] ⟨none, rfl, rfl⟩
    (fun i d acc e hd ⟨o, he, h1⟩ => by
      subst he
      rw [intsD, List.getElem?_map] at hd
      cases hv : ms[i]? with
      | none => rw [hv] at hd; cases hd
      | some v =>
        rw [hv] at hd
        cases hd
        have hi := (List.getElem?_eq_some_iff.mp hv).1
        rw [Nat.zero_add] at h1 ⊢
        refine ⟨[some (.scr ns), none, none, none, some (.int v)], rfl, true, _, rfl, fun z => (by cases z), fun _ => ⟨by rw [h1, intsD_len, List.length_take, LIM_val]; omega, .int v, [some (.scr ns), none, none, none, some (.int v)], by simp, _, rfl, ?_⟩⟩
        rw [h1, List.take_succ, hv, intsD_app]
        rfl)
    (fun acc e ⟨o, he, h1⟩ => by
      subst he
      refine ⟨rfl, ?_⟩
      rw [h1, Nat.zero_add, intsD_len, List.take_length])
  obtain ⟨rfl, rfl⟩ : e' = [some (.scr ns), none, none, none, none] ∧ acc = intsD ms := l2
  -- the great ones
  obtain ⟨acc2, e2', l3, gs, l4, l5⟩ := lcL_rule (vs := [4]) (f := gSet 4) (t := bT (mGe (mArg false gAbs (aCons (mVar 4) aNil)) (mPow (mC (.int 10)) (mC (.int 18))))) (m := mArg false gAbs (aCons (mVar 4) aNil))
    (fun i acc e => ∃ (gs : List Int) (o : Option D), e = [some (.scr ns), some (.lst (intsD ms)), none, none, o] ∧ acc = intsD gs ∧ gs.length ≤ i)
    (fun acc e => ∃ gs : List Int, acc = intsD gs ∧ e = [some (.scr ns), some (.lst (intsD ms)), none, none, none]) (intsD ms) [] 0 [some (.scr ns), some (.lst (intsD ms)), none, none, none] ⟨[], none, rfl, rfl, Nat.zero_le _⟩
    (fun i d acc e hd ⟨gs, o, he, h1, h2⟩ => by
      subst he
      rw [intsD, List.getElem?_map] at hd
      cases hv : ms[i]? with
      | none => rw [hv] at hd; cases hd
      | some v =>
        rw [hv] at hd
        cases hd
        have hi := (List.getElem?_eq_some_iff.mp hv).1
        rw [Nat.zero_add] at h2 ⊢
        have g1 : gAbs [.int v] = some (.int (if v < 0 then -v else v)) := rfl
        refine ⟨[some (.scr ns), some (.lst (intsD ms)), none, none, some (.int v)], rfl, decide ((1000000000000000000 : Int) ≤ (if v < 0 then -v else v)), [some (.scr ns), some (.lst (intsD ms)), none, none, some (.int v)], by simp [g1], fun z => ⟨gs, _, rfl, h1, by omega⟩, fun _ => ⟨by rw [h1, intsD_len, LIM_val]; omega, .int (if v < 0 then -v else v), [some (.scr ns), some (.lst (intsD ms)), none, none, some (.int v)], by simp [g1], gs ++ [if v < 0 then -v else v], _, rfl, by rw [h1, intsD_app]; rfl, by rw [List.length_append]; simp; omega⟩⟩)
    (fun acc e ⟨gs, o, he, h1, h2⟩ => by
      subst he
      exact ⟨gs, h1, rfl⟩)
  subst l4
  subst l5
  -- the state
  obtain ⟨s, o, hs, lp⟩ : ∃ (s : Int) (o : Option D), (0 ≤ s ∧ s < 2147483647) ∧ forL (gSet 4) (sSet 3 (mMod (mArg false gInt (aCons (mAdd false (mAdd false (mMul (mVar 3) (mC (.int 48271))) (mMod (mVar 4) (mC (.int 2147483629)))) (mC (.int 1))) aNil)) (mC (.int 2147483647)))) (intsD ms) [some (.scr ns), some (.lst (intsD ms)), some (.lst (intsD gs)), some (.int 20011), none] = .nx [some (.scr ns), some (.lst (intsD ms)), some (.lst (intsD gs)), some (.int s), o] := by
    refine forL_rule (fun i e => ∃ (s : Int) (o : Option D), (0 ≤ s ∧ s < 2147483647) ∧ e = [some (.scr ns), some (.lst (intsD ms)), some (.lst (intsD gs)), some (.int s), o])
      (fun r => ∃ (s : Int) (o : Option D), (0 ≤ s ∧ s < 2147483647) ∧ r = .nx [some (.scr ns), some (.lst (intsD ms)), some (.lst (intsD gs)), some (.int s), o]) (intsD ms) 0 _ ⟨20011, none, by decide, rfl⟩ (fun i d e hd ⟨s, o, h1, h2⟩ => ?_) (fun e ⟨s, o, h1, h2⟩ => ⟨s, o, h1, by rw [h2]⟩)
    subst h2
    rw [intsD, List.getElem?_map] at hd
    cases hv : ms[i]? with
    | none => rw [hv] at hd; cases hd
    | some v =>
      rw [hv] at hd
      cases hd
      have k1 : okMul s 48271 = true := okMul_lit (by decide)
      refine ⟨_, rfl, lp_of (e := [some (.scr ns), some (.lst (intsD ms)), some (.lst (intsD gs)), some (.int ((s * 48271 + v % 2147483629 + 1) % 2147483647)), some (.int v)]) (by simp [k1]) ⟨_, _, ⟨Int.emod_nonneg _ (by decide), Int.emod_lt_of_pos _ (by decide)⟩, rfl⟩⟩
  have ml : (intsD ms).length = ms.length := intsD_len
  have pl : pureL (intsD ms ++ [D.int (ms.length : Int)]) = true := by
    have : intsD ms ++ [D.int (ms.length : Int)] = intsD (ms ++ [(ms.length : Int)]) := by rw [intsD_app]; rfl
    rw [this]; exact intsD_pure
  refine ⟨poolD (ms ++ [(ms.length : Int)]) gs 0 s 0, ?_, _, _, _, _, _, rfl, by simp, hs⟩
  have e0 : ([D.scr ns].map some ++ List.replicate (5 - [D.scr ns].length) none : En) = [some (.scr ns), none, none, none, none] := rfl
  simp only [f__law_pool, e_fnM, m__law_pool]
  rw [e0]
  rw [seq_nx (e1 := [some (.scr ns), some (.lst (intsD ms)), none, none, none]) (by simp [cut, l1, nox_ok])]
  rw [seq_nx (e1 := [some (.scr ns), some (.lst (intsD ms)), some (.lst (intsD gs)), none, none]) (by simp [l3, nox_ok])]
  rw [seq_nx (e1 := [some (.scr ns), some (.lst (intsD ms)), some (.lst (intsD gs)), some (.int 20011), none]) (by simp)]
  rw [seq_nx (e1 := [some (.scr ns), some (.lst (intsD ms)), some (.lst (intsD gs)), some (.int s), o]) (by simp [lp])]
  have hl2 : ms.length + 1 ≤ 16777216 := by omega
  simp [pl, hl2, pkv, intsD_app]
end Zk89
namespace Zk89
open PySem VS
def bitsB (s : Str) : Bool := (tl s).all fun c => c == 48 || c == 49
theorem bitsB_iff {s : Str} : bitsB s = true ↔ Bits s := by
  unfold bitsB Bits
  rw [List.all_eq_true]
  constructor
  · intro h c hc; have := h c hc; rw [Bool.or_eq_true, beq_iff_eq, beq_iff_eq] at this; exact this
  · intro h c hc; rw [Bool.or_eq_true, beq_iff_eq, beq_iff_eq]; exact h c hc
theorem p_inD {x : D} {t : DK} {kvs : List (D × D)} : pyIn x (.dct t kvs) = if isKey t.t x = true then some (.bl (dHas kvs x)) else none := by cases x <;> rfl
theorem e_len3 {a b c : D} : ([a, b, c].map some ++ List.replicate (3 - [a, b, c].length) none : En) = [some a, some b, some c] := rfl
theorem is_bits_str {s : Str} {lo hi : Int} (hl : (tl s).length ≤ LIM) : f_is_bits [.str s, .int lo, .int hi] = .ok (.bl (decide (lo ≤ (tl s).length) && decide (((tl s).length : Int) ≤ hi) && bitsB s)) [.str s, .int lo, .int hi] := by
  have g1 : gIsiO oc [.str s, .ty "str"] = some (.bl true) := rfl
  have hl' : s.length ≤ 16777216 := by rw [tl_len]; exact hl
  have hc : (Txt.count s ("0" : Str) + Txt.count s ("1" : Str) == (s.length : Int)) = bitsB s := by
    rw [Bool.eq_iff_iff, beq_iff_eq, bitsB_iff]
    exact Bits.cnt
  simp only [f_is_bits, e_fnM, m_is_bits]
  rw [e_len3]
  rw [← tl_len]
  by_cases h1 : (s.length : Int) < lo
  · have : ¬ (lo ≤ (s.length : Int)) := by omega
    simp [g1, hl', h1, this]
  · by_cases h2 : hi < (s.length : Int)
    · have : ¬ ((s.length : Int) ≤ hi) := by omega
      simp [g1, hl', h1, h2, this]
    · have a1 : lo ≤ (s.length : Int) := by omega
      have a2 : (s.length : Int) ≤ hi := by omega
      simp [g1, hl', h1, h2, a1, a2, hc]
theorem is_bits_no {d : D} {lo hi : Int} (h : gIsiO oc [d, .ty "str"] = some (.bl false)) : f_is_bits [d, .int lo, .int hi] = .ok (.bl false) [d, .int lo, .int hi] := by
  simp only [f_is_bits, e_fnM, m_is_bits]
  rw [e_len3]
  simp [h]
def Rng (s : Str) : Prop := Bits s ∧ (tl s).length ≤ 10
theorem is_range_ok {s : Str} (h : Rng s) : f_is_range [.str s] = .ok (.bl true) [.str s] := by
  have h1 : ((tl s).length : Int) ≤ 10 := by have := h.2; omega
  have h0 : (0 : Int) ≤ ((tl s).length : Int) := by omega
  have hb := bitsB_iff.mpr h.1
  have := is_bits_str (s := s) (lo := 0) (hi := 10) (by rw [LIM_val]; have := h.2; omega)
  rw [hb, decide_eq_true h1, decide_eq_true h0] at this
  simp [f_is_range, e_fnM, m_is_range, this]
def Nx (d : D) : Prop := d = .str ("here" : Str) ∨ d = .str ("drop" : Str) ∨ ∃ i : Int, d = .int i ∧ 0 ≤ i ∧ i < 8
theorem sk_here : PyData.strOk ("here" : Str) = true := by decide +kernel
theorem sk_drop : PyData.strOk ("drop" : Str) = true := by decide +kernel
theorem hd_ne : (("here" : Str) == ("drop" : Str)) = false := by decide +kernel
theorem dh_ne : (("drop" : Str) == ("here" : Str)) = false := by decide +kernel
theorem is_integer_int {i : Int} : f_is_integer [.int i] = .ok (.bl true) [.int i] := by
  have g1 : gIsiO oc [.int i, .ty "int"] = some (.bl true) := rfl
  have g2 : gIsiO oc [.int i, .ty "bool"] = some (.bl false) := rfl
  simp [f_is_integer, e_fnM, m_is_integer, g1, g2]
theorem is_next_ok {d : D} (h : Nx d) : f_is_next [d] = .ok (.bl true) [d] := by
  rcases h with rfl | rfl | ⟨i, rfl, h0, h1⟩
  · have g1 : gIsiO oc [.str ("here" : Str), .ty "str"] = some (.bl true) := rfl
    simp [f_is_next, e_fnM, m_is_next, g1, sk_here]
  · have g1 : gIsiO oc [.str ("drop" : Str), .ty "str"] = some (.bl true) := rfl
    simp [f_is_next, e_fnM, m_is_next, g1, sk_here, sk_drop, dh_ne]
  · have g1 : gIsiO oc [.int i, .ty "str"] = some (.bl false) := rfl
    simp [f_is_next, e_fnM, m_is_next, g1, is_integer_int, h0, h1]
theorem is_entry_ok {s : Str} {d : D} (hs : Rng s) (hd : Nx d) : f_is_entry [.tup [.str s, d]] = .ok (.bl true) [.tup [.str s, d]] := by
  have g1 : gIsiO oc [.tup [.str s, d], .ty "tuple"] = some (.bl true) := rfl
  have a0 : L2.atI [D.str s, d] 0 = some (.str s) := rfl
  have a1 : L2.atI [D.str s, d] 1 = some d := rfl
  simp [f_is_entry, e_fnM, m_is_entry, g1, a0, a1, is_range_ok hs, is_next_ok hd]
end Zk89
namespace Zk89
open PySem VS
abbrev Es := List (Str × D)
def pairE (e : Str × D) : D := .tup [.str e.1, e.2]
def pairsE (es : Es) : List D := es.map pairE
def kvE (es : Es) : List (D × D) := es.map fun e => (.str e.1, e.2)
def Val (es : Es) : Prop := (es.map (·.1)).Nodup ∧ ∀ e ∈ es, Rng e.1 ∧ Nx e.2
def getE (es : Es) (k : Str) : D := ((es.find? fun e => e.1 == k).map (·.2)).getD .non
def tabS (es : Es) : Es := (srtS (es.map (·.1))).map fun k => (k, getE es k)
theorem Nx.pure {d : D} (h : Nx d) : d.pure = true := by rcases h with rfl | rfl | ⟨i, rfl, _⟩ <;> rfl
theorem dHas_kvE {es : Es} {k : Str} : dHas (kvE es) (.str k) = decide (k ∈ es.map (·.1)) := by
  unfold dHas kvE
  rw [List.any_map, Bool.eq_iff_iff, List.any_eq_true, decide_eq_true_eq, List.mem_map]
  constructor
  · rintro ⟨e, h1, h2⟩
    refine ⟨e, h1, ?_⟩
    simpa [keq, atomEq] using h2
  · rintro ⟨e, h1, h2⟩
    exact ⟨e, h1, by simp [keq, atomEq, h2]⟩
theorem find_kvE {es : Es} {k : Str} : (kvE es).find? (fun kv => keq kv.1 (.str k)) = (es.find? fun e => e.1 == k).map fun e => (.str e.1, e.2) := by
  unfold kvE
  rw [List.find?_map]
  rfl
theorem dGet_kvE {es : Es} {k : Str} (h : k ∈ es.map (·.1)) : dGet (kvE es) (.str k) = some (getE es k) := by
  unfold dGet getE
  rw [find_kvE]
  cases hf : es.find? fun e => e.1 == k with
  | none =>
    rw [List.find?_eq_none] at hf
    obtain ⟨e, h1, h2⟩ := List.mem_map.mp h
    exact absurd (by simpa using h2) (hf e h1)
  | some e => rfl
theorem getE_mem {es : Es} {k : Str} (h : k ∈ es.map (·.1)) : (k, getE es k) ∈ es := by
  unfold getE
  cases hf : es.find? fun e => e.1 == k with
  | none =>
    rw [List.find?_eq_none] at hf
    obtain ⟨e, h1, h2⟩ := List.mem_map.mp h
    exact absurd (by simpa using h2) (hf e h1)
  | some e =>
    have h1 := List.mem_of_find?_eq_some hf
    have h2 := List.find?_some hf
    rw [beq_iff_eq] at h2
    subst h2
    exact h1
theorem dPut_kvE {es : Es} {k : Str} {d : D} (h : k ∉ es.map (·.1)) : dPut (kvE es) (.str k) d = kvE (es ++ [(k, d)]) := by
  unfold dPut
  rw [if_neg (by rw [dHas_kvE]; simpa using h)]
  simp [kvE]
theorem kvE_len {es : Es} : (kvE es).length = es.length := by simp [kvE]
theorem kvE_keys {es : Es} : (kvE es).map (·.1) = (es.map (·.1)).map D.str := by simp [kvE]
theorem tb_t : tb ("Table" : Str) ("entries" : Str) = true := by decide +kernel
theorem sortA_kv {es : Es} (h : es.length < 64) : gSortA [.dct ⟨false, false⟩ (kvE es)] = some (.lst ((srtS (es.map (·.1))).map D.str)) := by
  unfold gSortA gSortD
  simp only [kvE_keys, strsOf_map, List.length_map, h, if_true, Option.some_or]
theorem srtS_mem {l : List Str} {x : Str} : x ∈ srtS l ↔ x ∈ l := srtS_perm.mem_iff
theorem tabS_pairs {es : Es} : pairsE (tabS es) = (srtS (es.map (·.1))).map fun k => D.tup [.str k, getE es k] := by
  unfold pairsE tabS
  rw [List.map_map]
  rfl
/-- a row of the entries -/
structure RowE (row : D) (es : Es) : Prop where
  isi : gIsiO oc [row, .tup [.ty "list", .ty "tuple"]] = some (.bl true)
  len : gLnA [row] = some (.int es.length)
  idx : ∀ i, pyIdx row (.int i) = L2.atI (pairsE es) i
theorem rowL {es : Es} : RowE (.lst (pairsE es)) es := ⟨rfl, by simp [pairsE], fun i => rfl⟩
theorem rowT {es : Es} : RowE (.tup (pairsE es)) es := ⟨rfl, by simp [pairsE], fun i => rfl⟩
abbrev objT (ts : Es) : D := .obj ("Table" : Str) [(("entries" : Str), .tup (pairsE ts))]
theorem init_ok {row : D} {es : Es} (hr : RowE row es) (hv : Val es) (hl : es.length ≤ 24) : f_Table__init [.obj ("Table" : Str) [], row] = .ok .non [objT (tabS es), row] := by
  have e0 : ([D.obj ("Table" : Str) [], row].map some ++ List.replicate (6 - [D.obj ("Table" : Str) [], row].length) none : En) = [some (.obj ("Table" : Str) []), some row, none, none, none, none] := rfl
  have nl : ¬ (24 : Int) < (es.length : Int) := by omega
  have hrl : okR (es.length : Int) = true := okR_nat (by omega)
  obtain ⟨self, hself⟩ : ∃ s : D, s = .obj ("Table" : Str) [] := ⟨_, rfl⟩
  -- the entries, one after the other
  obtain ⟨o3, o4, lp⟩ : ∃ o3 o4, forL (gSet 3) (sSeq (sSet 4 (mIdx (mVar 1) (mVar 3)))
    (sSeq (sIf (bOr (bNot (bT (mCall [.s] .d false f_is_entry [.val (mVar 4)]))) (bT (mIn (mIdx (mVar 4) (mC (.int 0))) (mVar 2))))
    (sRaise ("BadTable" : Str) [("index" : Str)] (aCons (mVar 3) aNil))
    sNil)
    (sPut 2 gSetL (pVar 2) (mP (mIdx (mVar 4) (mC (.int 0)))) (mP (mIdx (mVar 4) (mC (.int 1))))))) (rngL 0 es.length) [some self, some row, some (.dct ⟨false, false⟩ []), none, none, none] = .nx [some self, some row, some (.dct ⟨false, false⟩ (kvE es)), o3, o4, none] := by
    refine forL_rule (fun i e => ∃ o3 o4, e = [some self, some row, some (.dct ⟨false, false⟩ (kvE (es.take i))), o3, o4, none])
      (fun r => ∃ o3 o4, r = .nx [some self, some row, some (.dct ⟨false, false⟩ (kvE es)), o3, o4, none]) _ 0 _ ⟨none, none, rfl⟩ (fun i d e hd ⟨o3, o4, he⟩ => ?_) (fun e ⟨o3, o4, he⟩ => ⟨o3, o4, by rw [he, Nat.zero_add, rngL_len, List.take_length]⟩)
    subst he
    obtain ⟨hi, rfl⟩ := rngL_at hd
    have hx : es[i]? = some es[i] := List.getElem?_eq_getElem hi
    obtain ⟨x, hxx⟩ : ∃ x, x = es[i] := ⟨_, rfl⟩
    rw [← hxx] at hx
    have hxm : x ∈ es := List.mem_of_getElem? hx
    obtain ⟨v1, v2⟩ := hv.2 x hxm
    have ha : L2.atI (pairsE es) ((0 : Int) + (i : Int)) = some (.tup [.str x.1, x.2]) := by
      rw [Int.zero_add]
      exact L2.atI_nat (by unfold pairsE; rw [List.getElem?_map, hx]; rfl)
    have hn : x.1 ∉ (es.take i).map (·.1) := fun z => by
      have nd := hv.1
      rw [← List.take_append_drop i es, List.map_append, List.nodup_append] at nd
      refine nd.2.2 x.1 z x.1 (List.mem_map.mpr ⟨x, ?_, rfl⟩) rfl
      have : (es.drop i)[0]? = some x := by rw [List.getElem?_drop]; simpa using hx
      exact List.mem_of_getElem? this
    have a0 : L2.atI [D.str x.1, x.2] 0 = some (.str x.1) := rfl
    have a1 : L2.atI [D.str x.1, x.2] 1 = some x.2 := rfl
    have ht : es.take (i + 1) = es.take i ++ [(x.1, x.2)] := by rw [List.take_succ, hx]; rfl
    have hlt : (kvE (es.take i)).length < 16777216 := by rw [kvE_len, List.length_take]; omega
    rw [Nat.zero_add]
    refine ⟨_, rfl, lp_of (e := [some self, some row, some (.dct ⟨false, false⟩ (kvE (es.take (i + 1)))), some (.int (0 + (i : Int))), some (.tup [.str x.1, x.2]), none]) ?_ ⟨_, _, rfl⟩⟩
    have en := is_entry_ok v1 v2
    have hh : dHas (kvE (es.take i)) (.str x.1) = false := by rw [dHas_kvE]; simpa using hn
    rw [seq_nx (e1 := [some self, some row, some (.dct ⟨false, false⟩ (kvE (es.take i))), some (.int (0 + (i : Int))), some (.tup [.str x.1, x.2]), none]) (by simp only [Nat.zero_add, e_sSet, e_mIdx, e_mBin, e_mVar, List.set, List.getElem?_cons_succ, List.getElem?_cons_zero, Rt.bind_ok, e_mBin2, e_mBin3, hr.idx, ha, e_fin, Bool.false_and, Bool.false_eq_true, if_false, Rt.st_ok, e_sSet2]; rfl)]
    rw [seq_nx (e1 := [some self, some row, some (.dct ⟨false, false⟩ (kvE (es.take i))), some (.int (0 + (i : Int))), some (.tup [.str x.1, x.2]), none]) (by simp [en, a0, p_inD, hh])]
    simp [a0, a1, v2.pure, hlt, dPut_kvE hn, ht]
  -- the table
  obtain ⟨acc, e', l1, l2, l3⟩ := lcL_rule (vs := [5]) (f := gSet 5) (t := bYes) (m := mTup false (aCons (mVar 5) (aCons (mP (mIdx (mVar 2) (mVar 5))) aNil)))
    (fun i acc e => ∃ o, e = [some self, some row, some (.dct ⟨false, false⟩ (kvE es)), o3, o4, o] ∧ acc = ((srtS (es.map (·.1))).take i).map fun k => D.tup [.str k, getE es k])
    (fun acc e => e = [some self, some row, some (.dct ⟨false, false⟩ (kvE es)), o3, o4, none] ∧ acc = pairsE (tabS es)) ((srtS (es.map (·.1))).map D.str) [] 0 [some self, some row, some (.dct ⟨false, false⟩ (kvE es)), o3, o4, none] ⟨none, rfl, rfl⟩
    (fun i d acc e hd ⟨o, he, h1⟩ => by
      subst he
      rw [List.getElem?_map] at hd
      cases hk : (srtS (es.map (·.1)))[i]? with
      | none => rw [hk] at hd; cases hd
      | some k =>
        rw [hk] at hd
        cases hd
        have km : k ∈ es.map (·.1) := srtS_mem.mp (List.mem_of_getElem? hk)
        have il : i < (srtS (es.map (·.1))).length := (List.getElem?_eq_some_iff.mp hk).1
        have sl : (srtS (es.map (·.1))).length = es.length := by rw [srtS_perm.length_eq, List.length_map]
        have pu := (hv.2 _ (getE_mem km)).2.pure
        rw [Nat.zero_add] at h1 ⊢
        refine ⟨[some self, some row, some (.dct ⟨false, false⟩ (kvE es)), o3, o4, some (.str k)], rfl, true, _, rfl, fun z => (by cases z), fun _ => ⟨by rw [h1, List.length_map, List.length_take, LIM_val]; omega, .tup [.str k, getE es k], [some self, some row, some (.dct ⟨false, false⟩ (kvE es)), o3, o4, some (.str k)], by simp [dGet_kvE km, pu], _, rfl, ?_⟩⟩
        rw [h1, List.take_succ, hk]
        simp)
    (fun acc e ⟨o, he, h1⟩ => by
      subst he
      refine ⟨rfl, ?_⟩
      rw [h1, tabS_pairs, Nat.zero_add, List.length_map, List.take_length])
  subst l2
  subst l3
  simp only [f_Table__init, e_fnM, m_Table__init]
  rw [e0, ← hself]
  rw [seq_nx (e1 := [some self, some row, none, none, none, none]) (by simp [hr.isi, hr.len, nl])]
  rw [seq_nx (e1 := [some self, some row, some (.dct ⟨false, false⟩ []), none, none, none]) (by simp)]
  rw [seq_nx (e1 := [some self, some row, some (.dct ⟨false, false⟩ (kvE es)), o3, o4, none]) (by simp [hr.len, hrl, lp])]
  have gs : gSetF tb ("entries" : Str) self [.tup (pairsE (tabS es))] = some (objT (tabS es), .non) := by
    rw [hself]
    simp only [gSetF, tb_t]
    rfl
  have pl : pureL ((srtS (es.map (·.1))).map D.str) = true := pureL_iff.mpr fun d hd => by
    obtain ⟨k, _, rfl⟩ := List.mem_map.mp hd
    rfl
  simp [sortA_kv (show es.length < 64 by omega), l1, nox_ok, gs, pl]
end Zk89
namespace Zk89
open PySem VS
def hitB (a : Str) (e : Str × D) : Bool := decide ((tl a).take (tl e.1).length = tl e.1)
def lastE (a : Str) (f : D) (ts : Es) : D := ts.foldl (fun f e => if hitB a e = true then e.2 else f) f
def lngE (a : Str) (f : D × Int) (es : Es) : D × Int := es.foldl (fun f e => if f.2 < ((tl e.1).length : Int) ∧ hitB a e = true then (e.2, ((tl e.1).length : Int)) else f) f
def Addr10 (a : Str) : Prop := Bits a ∧ (tl a).length = 10
theorem is_addr_ok {a : Str} (h : Addr10 a) : f_is_bits [.str a, .int 10, .int 10] = .ok (.bl true) [.str a, .int 10, .int 10] := by
  have := is_bits_str (s := a) (lo := 10) (hi := 10) (by rw [LIM_val, h.2]; decide)
  rw [bitsB_iff.mpr h.1, h.2] at this
  exact this
def NoA (d : D) : Prop := f_is_bits [d, .int 10, .int 10] = .ok (.bl false) [d, .int 10, .int 10]
theorem check_ok {a : Str} (h : Addr10 a) : f_check_address [.str a] = .ok .non [.str a] := by simp [f_check_address, e_fnM, m_check_address, is_addr_ok h]
theorem check_no {d : D} (h : NoA d) : f_check_address [d] = .exc ⟨("BadAddress" : Str), []⟩ [d] := by
  unfold NoA at h
  simp [f_check_address, e_fnM, m_check_address, h]
theorem tup2 {a b : D} {fs : List D → En → Option En} {e : En} : gTupT fs 2 (.tup [a, b]) e = fs [a, b] e := by simp
theorem fld_ok {ts : Es} : pyFld tb ("entries" : Str) (objT ts) = some (.tup (pairsE ts)) := by
  simp only [pyFld, tb_t]
  rfl
theorem onward_no {ts : Es} {d : D} (h : NoA d) : f_Table__onward [objT ts, d] = .exc ⟨("BadAddress" : Str), []⟩ [objT ts, d] := by
  obtain ⟨o, ho⟩ : ∃ o, o = objT ts := ⟨_, rfl⟩
  rw [← ho]
  simp [f_Table__onward, e_fnM, m_Table__onward, check_no h]
theorem onward_ok {ts : Es} {a : Str} (h : Addr10 a) : f_Table__onward [objT ts, .str a] = .ok (lastE a (.str ("drop" : Str)) ts) [objT ts, .str a] := by
  obtain ⟨o, ho⟩ : ∃ o, o = objT ts := ⟨_, rfl⟩
  have hf : pyFld tb ("entries" : Str) o = some (.tup (pairsE ts)) := by rw [ho]; exact fld_ok
  obtain ⟨o3, o4, lp⟩ : ∃ o3 o4, forL (gTupT (gConsT (gSet 3) (gConsT (gSet 4) gNilT)) 2) (sIf (bT (mS1 gStarts (mVar 1) (mVar 3)))
    (sSet 2 (mVar 4))
    sNil) (pairsE ts) [some o, some (.str a), some (.str ("drop" : Str)), none, none] = .nx [some o, some (.str a), some (lastE a (.str ("drop" : Str)) ts), o3, o4] := by
    refine forL_rule (fun i e => ∃ o3 o4, e = [some o, some (.str a), some (lastE a (.str ("drop" : Str)) (ts.take i)), o3, o4])
      (fun r => ∃ o3 o4, r = .nx [some o, some (.str a), some (lastE a (.str ("drop" : Str)) ts), o3, o4]) _ 0 _ ⟨none, none, rfl⟩ (fun i d e hd ⟨o3, o4, he⟩ => ?_) (fun e ⟨o3, o4, he⟩ => ⟨o3, o4, by rw [he, Nat.zero_add]; unfold pairsE; rw [List.length_map, List.take_length]⟩)
    subst he
    unfold pairsE at hd
    rw [List.getElem?_map] at hd
    cases hx : ts[i]? with
    | none => rw [hx] at hd; cases hd
    | some x =>
      rw [hx] at hd
      cases hd
      rw [Nat.zero_add]
      obtain ⟨f, hff⟩ : ∃ f, f = lastE a (.str ("drop" : Str)) (ts.take i) := ⟨_, rfl⟩
      have ht : lastE a (.str ("drop" : Str)) (ts.take (i + 1)) = if hitB a x = true then x.2 else f := by
        rw [hff, List.take_succ, hx]
        unfold lastE
        rw [List.foldl_append]
        rfl
      rw [ht, ← hff]
      refine ⟨[some o, some (.str a), some f, some (.str x.1), some x.2], by unfold pairE; rw [tup2]; rfl, lp_of (e := [some o, some (.str a), some (if hitB a x = true then x.2 else f), some (.str x.1), some x.2]) ?_ ⟨_, _, rfl⟩⟩
      have hs : Txt.startswith a x.1 = hitB a x := starts_eq
      by_cases hh : hitB a x = true
      · simp [hs, hh]
      · simp [hs, hh]
  have e0 : ([o, D.str a].map some ++ List.replicate (5 - [o, D.str a].length) none : En) = [some o, some (.str a), none, none, none] := rfl
  rw [← ho]
  simp only [f_Table__onward, e_fnM, m_Table__onward]
  rw [e0]
  rw [seq_nx (e1 := [some o, some (.str a), none, none, none]) (by simp [check_ok h])]
  rw [seq_nx (e1 := [some o, some (.str a), some (.str ("drop" : Str)), none, none]) (by simp)]
  rw [seq_nx (e1 := [some o, some (.str a), some (lastE a (.str ("drop" : Str)) ts), o3, o4]) (by simp only [e_sFor, e_iVal, e_mUn, e_mVar, List.getElem?_cons_zero, Rt.bind_ok, e_mUn2, hf, e_fin, Bool.false_and, Bool.false_eq_true, if_false, i_tup, Rt.st_ok, e_sFor2, lp])]
  simp
theorem longest_ok {es : Es} {a : Str} (hv : Val es) (h : Addr10 a) : f__law_longest [.lst (pairsE es), .str a] = .ok (lngE a (.str ("drop" : Str), -1) es).1 [.lst (pairsE es), .str a] := by
  have hal : a.length ≤ 16777216 := by rw [tl_len, h.2]; decide
  obtain ⟨o, ho⟩ : ∃ o, o = D.lst (pairsE es) := ⟨_, rfl⟩
  obtain ⟨o3, o4, lp⟩ : ∃ o3 o4, forL (gTupT (gConsT (gSet 4) (gConsT (gSet 5) gNilT)) 2) (sIf (bAnd (bT (mGt (mArg false gLnA (aCons (mVar 4) aNil)) (mVar 3))) (bT (mEq (mSl false (mVar 1) pNo (pYes (mArg false gLnA (aCons (mVar 4) aNil)))) (mVar 4))))
    (sSeq (sSet 2 (mVar 5))
    (sSet 3 (mArg false gLnA (aCons (mVar 4) aNil))))
    sNil) (pairsE es) [some o, some (.str a), some (.str ("drop" : Str)), some (.int (-1)), none, none] = .nx [some o, some (.str a), some (lngE a (.str ("drop" : Str), -1) es).1, some (.int (lngE a (.str ("drop" : Str), -1) es).2), o3, o4] := by
    refine forL_rule (fun i e => ∃ o3 o4, e = [some o, some (.str a), some (lngE a (.str ("drop" : Str), -1) (es.take i)).1, some (.int (lngE a (.str ("drop" : Str), -1) (es.take i)).2), o3, o4])
      (fun r => ∃ o3 o4, r = .nx [some o, some (.str a), some (lngE a (.str ("drop" : Str), -1) es).1, some (.int (lngE a (.str ("drop" : Str), -1) es).2), o3, o4]) _ 0 _ ⟨none, none, rfl⟩ (fun i d e hd ⟨o3, o4, he⟩ => ?_) (fun e ⟨o3, o4, he⟩ => ⟨o3, o4, by rw [he, Nat.zero_add]; unfold pairsE; rw [List.length_map, List.take_length]⟩)
    subst he
    unfold pairsE at hd
    rw [List.getElem?_map] at hd
    cases hx : es[i]? with
    | none => rw [hx] at hd; cases hd
    | some x =>
      rw [hx] at hd
      cases hd
      rw [Nat.zero_add]
      have hxv := (hv.2 x (List.mem_of_getElem? hx)).1
      obtain ⟨f, hff⟩ : ∃ f, f = lngE a (.str ("drop" : Str), -1) (es.take i) := ⟨_, rfl⟩
      have ht : lngE a (.str ("drop" : Str), -1) (es.take (i + 1)) = if f.2 < ((tl x.1).length : Int) ∧ hitB a x = true then (x.2, ((tl x.1).length : Int)) else f := by
        rw [hff, List.take_succ, hx]
        unfold lngE
        rw [List.foldl_append]
        rfl
      rw [ht, ← hff]
      have hxl : x.1.length ≤ 16777216 := by rw [tl_len]; have := hxv.2; omega
      have ex : x.1.length = (tl x.1).length := tl_len
      have ok1 := hxv.1.ok
      have ok2 : PyData.strOk (L2.cutS a none (some (x.1.length : Int))) = true := h.1.cut.ok
      have he : (L2.cutS a none (some (x.1.length : Int)) == x.1) = hitB a x := by
        unfold hitB
        rw [Bool.eq_iff_iff, beq_iff_eq, decide_eq_true_eq, ← ex]
        constructor
        · intro z
          have := tl_take (z := a) (n := x.1.length)
          rw [z] at this
          exact this.symm
        · intro z
          exact tl_inj (tl_take.trans z)
      refine ⟨[some o, some (.str a), some f.1, some (.int f.2), some (.str x.1), some x.2], by unfold pairE; rw [tup2]; rfl, lp_of (e := [some o, some (.str a), some (if f.2 < ((tl x.1).length : Int) ∧ hitB a x = true then (x.2, ((tl x.1).length : Int)) else f).1, some (.int (if f.2 < ((tl x.1).length : Int) ∧ hitB a x = true then (x.2, ((tl x.1).length : Int)) else f).2), some (.str x.1), some x.2]) ?_ ⟨_, _, rfl⟩⟩
      rw [← ex]
      by_cases h1 : f.2 < (x.1.length : Int)
      · by_cases hh : hitB a x = true
        · simp [hxl, h1, hal, ok1, ok2, he, hh]
        · simp [hxl, h1, hal, ok1, ok2, he, hh]
      · simp [hxl, h1]
  have e0 : ([o, D.str a].map some ++ List.replicate (6 - [o, D.str a].length) none : En) = [some o, some (.str a), none, none, none, none] := rfl
  have io : ∀ e : En, itemsOf o e = .ok (pairsE es) e := fun e => by rw [ho]; rfl
  rw [← ho]
  simp only [f__law_longest, e_fnM, m__law_longest]
  rw [e0]
  rw [seq_nx (e1 := [some o, some (.str a), some (.str ("drop" : Str)), none, none, none]) (by simp)]
  rw [seq_nx (e1 := [some o, some (.str a), some (.str ("drop" : Str)), some (.int (-1)), none, none]) (by simp)]
  rw [seq_nx (e1 := [some o, some (.str a), some (lngE a (.str ("drop" : Str), -1) es).1, some (.int (lngE a (.str ("drop" : Str), -1) es).2), o3, o4]) (by simp only [e_sFor, e_iVal, e_mVar, List.getElem?_cons_zero, Rt.bind_ok, io, Rt.st_ok, e_sFor2, lp])]
  simp
end Zk89
namespace Zk89
open PySem VS
/-- the last one that hits, of a rising row -/
theorem last_spec {a : Str} : ∀ {ts : Es} {f : D}, ts.Pairwise (fun x y => leS x.1 y.1 = true) → (lastE a f ts = f ∧ ∀ e ∈ ts, hitB a e = false) ∨ ∃ e ∈ ts, hitB a e = true ∧ lastE a f ts = e.2 ∧ ∀ e' ∈ ts, hitB a e' = true → leS e'.1 e.1 = true
  | [], f, _ => .inl ⟨rfl, by simp⟩
  | x :: r, f, hp => by
    rw [List.pairwise_cons] at hp
    have es : lastE a f (x :: r) = lastE a (if hitB a x = true then x.2 else f) r := rfl
    rw [es]
    rcases last_spec (f := if hitB a x = true then x.2 else f) hp.2 with ⟨h1, h2⟩ | ⟨e, h1, h2, h3, h4⟩
    · by_cases hh : hitB a x = true
      · refine .inr ⟨x, by simp, hh, by rw [h1, if_pos hh], fun e' he' hh' => ?_⟩
        rcases List.mem_cons.mp he' with rfl | he'
        · rcases leS_total (a := e'.1) (b := e'.1) with z | z <;> exact z
        · rw [h2 e' he'] at hh'; cases hh'
      · refine .inl ⟨by rw [h1, if_neg hh], fun e' he' => ?_⟩
        rcases List.mem_cons.mp he' with rfl | he'
        · simpa using hh
        · exact h2 e' he'
    · refine .inr ⟨e, by simp [h1], h2, h3, fun e' he' hh' => ?_⟩
      rcases List.mem_cons.mp he' with rfl | he'
      · exact hp.1 e h1
      · exact h4 e' he' hh'
/-- the first longest one that hits -/
theorem lng_spec {a : Str} : ∀ {es : Es} {f : D × Int}, (lngE a f es = f ∧ ∀ e ∈ es, hitB a e = true → ((tl e.1).length : Int) ≤ f.2) ∨ ∃ e ∈ es, hitB a e = true ∧ lngE a f es = (e.2, ((tl e.1).length : Int)) ∧ f.2 < ((tl e.1).length : Int) ∧ ∀ e' ∈ es, hitB a e' = true → (tl e'.1).length ≤ (tl e.1).length
  | [], f => .inl ⟨rfl, by simp⟩
  | x :: r, f => by
    have es : lngE a f (x :: r) = lngE a (if f.2 < ((tl x.1).length : Int) ∧ hitB a x = true then (x.2, ((tl x.1).length : Int)) else f) r := rfl
    rw [es]
    by_cases hc : f.2 < ((tl x.1).length : Int) ∧ hitB a x = true
    · rw [if_pos hc]
      rcases lng_spec (a := a) (es := r) (f := (x.2, ((tl x.1).length : Int))) with ⟨h1, h2⟩ | ⟨e, h1, h2, h3, h5, h4⟩
      · refine .inr ⟨x, by simp, hc.2, h1, hc.1, fun e' he' hh' => ?_⟩
        rcases List.mem_cons.mp he' with rfl | he'
        · exact Nat.le_refl _
        · have := h2 e' he' hh'
          dsimp only at this
          omega
      · refine .inr ⟨e, by simp [h1], h2, h3, by dsimp only at h5; omega, fun e' he' hh' => ?_⟩
        rcases List.mem_cons.mp he' with rfl | he'
        · dsimp only at h5; omega
        · exact h4 e' he' hh'
    · rw [if_neg hc]
      rcases lng_spec (a := a) (es := r) (f := f) with ⟨h1, h2⟩ | ⟨e, h1, h2, h3, h5, h4⟩
      · refine .inl ⟨h1, fun e' he' hh' => ?_⟩
        rcases List.mem_cons.mp he' with rfl | he'
        · rw [Classical.not_and_iff_not_or_not] at hc
          rcases hc with hc | hc
          · omega
          · exact absurd hh' hc
        · exact h2 e' he' hh'
      · refine .inr ⟨e, by simp [h1], h2, h3, h5, fun e' he' hh' => ?_⟩
        rcases List.mem_cons.mp he' with rfl | he'
        · rw [Classical.not_and_iff_not_or_not] at hc
          rcases hc with hc | hc
          · omega
          · exact absurd hh' hc
        · exact h4 e' he' hh'
theorem lt_app : ∀ (l : List Nat) (c : Nat) (r : List Nat), l < l ++ c :: r
  | [], c, r => by simp
  | x :: l, c, r => by
    rw [List.cons_append, List.cons_lt_cons_iff]
    exact .inr ⟨rfl, lt_app l c r⟩
theorem pre_le {l : List Nat} {i j : Nat} (h : l.take i ≤ l.take j) : (l.take i).length ≤ (l.take j).length := by
  rcases Nat.lt_or_ge (l.take j).length (l.take i).length with z | z
  · exfalso
    rw [List.length_take, List.length_take] at z
    have hj : j < l.length := by omega
    have hji : j < i := by omega
    have e : l.take i = l.take j ++ l[j] :: (l.take i).drop (j + 1) := by
      have h1 : l.take j = (l.take i).take j := by rw [List.take_take, Nat.min_eq_left (by omega)]
      have h2 : (l.take i).drop j = l[j] :: (l.take i).drop (j + 1) := by
        have hlt : j < (l.take i).length := by rw [List.length_take]; omega
        rw [List.drop_eq_getElem_cons hlt]
        simp
      rw [h1, ← h2, List.take_append_drop]
    have := lt_app (l.take j) l[j] ((l.take i).drop (j + 1))
    rw [← e] at this
    exact List.not_lt.mpr h this
  · exact z
theorem tabS_pw {es : Es} : (tabS es).Pairwise (fun x y => leS x.1 y.1 = true) := by
  unfold tabS
  rw [List.pairwise_map]
  exact srtS_pw
theorem tabS_mem {es : Es} {e : Str × D} (h : e ∈ tabS es) : e ∈ es := by
  unfold tabS at h
  obtain ⟨k, h1, rfl⟩ := List.mem_map.mp h
  exact getE_mem (srtS_mem.mp h1)
theorem key_one {es : Es} (nd : (es.map (·.1)).Nodup) {x y : Str × D} (hx : x ∈ es) (hy : y ∈ es) (h : x.1 = y.1) : x = y := by
  obtain ⟨i, hi, ei⟩ := List.mem_iff_getElem.mp hx
  obtain ⟨j, hj, ej⟩ := List.mem_iff_getElem.mp hy
  have : i = j := by
    refine (List.getElem_inj (h₀ := by simpa using hi) (h₁ := by simpa using hj) nd).mp ?_
    simpa [ei, ej] using h
  subst this
  rw [← ei, ← ej]
theorem tabS_mem' {es : Es} (nd : (es.map (·.1)).Nodup) {e : Str × D} (h : e ∈ es) : e ∈ tabS es := by
  unfold tabS
  have hk : e.1 ∈ es.map (·.1) := List.mem_map.mpr ⟨e, h, rfl⟩
  refine List.mem_map.mpr ⟨e.1, srtS_mem.mpr hk, ?_⟩
  exact key_one nd (getE_mem hk) h rfl
theorem hit_eq {a : Str} {e : Str × D} (h : hitB a e = true) : tl e.1 = (tl a).take (tl e.1).length := by
  unfold hitB at h
  rw [decide_eq_true_eq] at h
  exact h.symm
theorem onward_eq {es : Es} (hv : Val es) {a : Str} : lastE a (.str ("drop" : Str)) (tabS es) = (lngE a (.str ("drop" : Str), -1) es).1 := by
  rcases last_spec (a := a) (f := .str ("drop" : Str)) (tabS_pw (es := es)) with ⟨h1, h2⟩ | ⟨e, h1, h2, h3, h4⟩
  · rcases lng_spec (a := a) (es := es) (f := (.str ("drop" : Str), -1)) with ⟨g1, g2⟩ | ⟨x, g1, g2, g3, g5, g4⟩
    · rw [h1, g1]
    · rw [h2 x (tabS_mem' hv.1 g1)] at g2
      cases g2
  · rcases lng_spec (a := a) (es := es) (f := (.str ("drop" : Str), -1)) with ⟨g1, g2⟩ | ⟨x, g1, g2, g3, g5, g4⟩
    · have := g2 e (tabS_mem h1) h2
      dsimp only at this
      omega
    · have l1 := g4 e (tabS_mem h1) h2
      have l2 : (tl x.1).length ≤ (tl e.1).length := by
        have := leS_iff.mp (h4 x (tabS_mem' hv.1 g1) g2)
        have e1 : tl x.1 ≤ tl e.1 := this
        rw [hit_eq g2, hit_eq h2] at e1
        have := pre_le e1
        rw [← hit_eq g2, ← hit_eq h2] at this
        exact this
      have le : (tl e.1).length = (tl x.1).length := by omega
      have ek : e.1 = x.1 := tl_inj (by rw [hit_eq h2, hit_eq g2, le])
      have := key_one hv.1 (tabS_mem h1) g1 ek
      rw [h3, g3, this]
theorem lng_nx {es : Es} (hv : Val es) {a : Str} : Nx (lngE a (.str ("drop" : Str), -1) es).1 := by
  rcases lng_spec (a := a) (es := es) (f := (.str ("drop" : Str), -1)) with ⟨g1, _⟩ | ⟨x, g1, _, g3, _⟩
  · rw [g1]; exact .inr (.inl rfl)
  · rw [g3]; exact (hv.2 x g1).2
end Zk89
namespace Zk89
open PySem VS
theorem atI_some {xs : List D} {k : Int} (h0 : 0 ≤ k) (h1 : k < (xs.length : Int)) : ∃ d, L2.atI xs k = some d ∧ d ∈ xs := by
  obtain ⟨j, rfl⟩ : ∃ j : Nat, k = (j : Int) := ⟨k.toNat, by omega⟩
  have hj : j < xs.length := by omega
  exact ⟨xs[j], L2.atI_nat (List.getElem?_eq_getElem hj), List.getElem_mem hj⟩
/-- d[k] = x keeps the entries' form -/
theorem put_kvE {es : Es} (hv : Val es) {k : Str} {d : D} (hk : Rng k) (hd : Nx d) : ∃ es', dPut (kvE es) (.str k) d = kvE es' ∧ Val es' ∧ es'.length ≤ es.length + 1 ∧ ∀ e ∈ es', e.2 = d ∨ ∃ e0 ∈ es, e.2 = e0.2 := by
  by_cases h : k ∈ es.map (·.1)
  · refine ⟨es.map fun e => if e.1 = k then (e.1, d) else e, ?_, ⟨?_, fun e he => ?_⟩, by simp, fun e he => ?_⟩
    · unfold dPut
      rw [if_pos (by rw [dHas_kvE]; simpa using h)]
      unfold kvE
      rw [List.map_map, List.map_map]
      refine List.map_congr_left fun e _ => ?_
      simp only [Function.comp_apply, keq, atomEq, beq_iff_eq]
      split <;> rfl
    · have : (es.map fun e => if e.1 = k then (e.1, d) else e).map (·.1) = es.map (·.1) := by
        rw [List.map_map]
        refine List.map_congr_left fun e _ => ?_
        simp only [Function.comp_apply]
        split <;> rfl
      rw [this]
      exact hv.1
    · obtain ⟨e0, h1, rfl⟩ := List.mem_map.mp he
      obtain ⟨v1, v2⟩ := hv.2 e0 h1
      split
      · exact ⟨v1, hd⟩
      · exact ⟨v1, v2⟩
    · obtain ⟨e0, h1, rfl⟩ := List.mem_map.mp he
      split
      · exact .inl rfl
      · exact .inr ⟨e0, h1, rfl⟩
  · refine ⟨es ++ [(k, d)], dPut_kvE h, ⟨?_, fun e he => ?_⟩, by simp, fun e he => ?_⟩
    · rw [List.map_append, List.nodup_append]
      refine ⟨hv.1, by simp, fun a ha b hb => ?_⟩
      simp at hb
      subst hb
      exact fun z => h (z ▸ ha)
    · rcases List.mem_append.mp he with he | he
      · exact hv.2 e he
      · rw [List.mem_singleton] at he
        subst he
        exact ⟨hk, hd⟩
    · rcases List.mem_append.mp he with he | he
      · exact .inr ⟨e, he, rfl⟩
      · rw [List.mem_singleton] at he
        subst he
        exact .inl rfl
theorem rng_cut {a b : Str} (ha : Rng a) (hb : Rng b) : Rng (L2.cutS (a ++ b) none (some 10)) := by
  refine ⟨(ha.1.app hb.1).cut, ?_⟩
  have := tl_take (z := a ++ b) (n := 10)
  rw [show ((10 : Nat) : Int) = 10 from rfl] at this
  rw [this, List.length_take]
  omega
theorem rng_turn {a s : Str} (ha : Rng a) (hs : Dig s) : Rng (L2.cutS a none (some (-1)) ++ s) := by
  refine ⟨ha.1.cut.app hs.bits, ?_⟩
  rw [tl_app, List.length_append, tl_init, List.length_dropLast, hs.len]
  have := ha.2
  omega
theorem turn_dig {b : Bool} : ∃ s, gStr [.int (1 - (if b = true then 1 else 0))] = some (.str s) ∧ Dig s := by
  cases b
  · exact g_str01 (v := 1) (by decide) (by decide)
  · exact g_str01 (v := 0) (by decide) (by decide)
theorem sk_1 : PyData.strOk ("1" : Str) = true := by decide +kernel
theorem rng_len {a : Str} (h : Rng a) : a.length ≤ 10 := by rw [tl_len]; exact h.2
theorem kv_pure {es : Es} (hv : Val es) : pureL ((kvE es).map (·.2)) = true := pureL_iff.mpr fun d hd => by
  unfold kvE at hd
  rw [List.map_map] at hd
  obtain ⟨e, he, rfl⟩ := List.mem_map.mp hd
  exact (hv.2 e he).2.pure
theorem g_intB {b : Bool} : gInt [.bl b] = some (.int (if b then 1 else 0)) := rfl
theorem Dig.rng {s : Str} (h : Dig s) : Rng s := ⟨h.bits, by rw [h.len]; decide⟩
/-- one turn of the drawn entries -/
structure Nxs (L : List D) : Prop where
  nx : ∀ d ∈ L, Nx d
  l0 : 0 < L.length
  l1 : L.length < 1000
theorem entries_turn {L : List D} {p nx : D} {n : Int} {es : Es} {o4 o5 o6 o7 : Option D} (HL : Nxs L) (hnx : nx = .lst L) (hp : Pool p) (hv : Val es) (hvL : ∀ e ∈ es, e.2 ∈ L) (hl : es.length < 60) :
    ∃ (p' : D) (es' : Es) (o5' o6' o7' : Option D), (sSeq (sSet 5 (mCall [.fd, .s] .d false f__law_bits [.slot 0, .val (mC (.int 10))]))
    (sSeq (sSet 6 (mCall [.fd, .s] .d false f__law_draw [.slot 0, .val (mC (.int 4))]))
    (sSeq (sIf (bAnd (bT (mGt (mVar 6) (mC (.int 1)))) (bT (mGt (mArg false gLnA (aCons (mVar 3) aNil)) (mC (.int 0)))))
    (sSeq (sSet 7 (mIdx (mArg true gSortA (aCons (mVar 3) aNil)) (mCall [.fd, .s] .d false f__law_draw [.slot 0, .val (mArg false gLnA (aCons (mVar 3) aNil))])))
    (sIf (bT (mEq (mVar 6) (mC (.int 2))))
    (sSet 5 (mSl false (mAdd false (mVar 7) (mVar 5)) pNo (pYes (mC (.int 10)))))
    (sSet 5 (mAdd false (mSl false (mVar 7) pNo (pYes (mNeg (mC (.int 1))))) (mArg false gStr (aCons (mSub (mC (.int 1)) (mArg false gInt (aCons (mEq (mSl false (mVar 7) (pYes (mNeg (mC (.int 1)))) pNo) (mC (.str ("1" : Str)))) aNil))) aNil))))))
    sNil)
    (sPut 3 gSetL (pVar 3) (mP (mVar 5)) (mP (mIdx (mVar 2) (mCall [.fd, .s] .d false f__law_draw [.slot 0, .val (mArg false gLnA (aCons (mVar 2) aNil))]))))))) [some p, some (.int n), some nx, some (.dct ⟨false, false⟩ (kvE es)), o4, o5, o6, o7]
     = .nx [some p', some (.int n), some nx, some (.dct ⟨false, false⟩ (kvE es')), o4, o5', o6', o7'] ∧ Pool p' ∧ Val es' ∧ es'.length ≤ es.length + 1 ∧ (∀ e ∈ es', e.2 ∈ L) := by
  obtain ⟨b, p1, w1, b1, b2, q1⟩ := bits_ok hp (n := 10) (by decide)
  have w1 : f__law_bits [p, .int 10] = .ok (.str b) [p1, .int 10] := w1
  have hb : Rng b := ⟨b1, b2⟩
  obtain ⟨k, p2, w2, k1, k2, q2⟩ := draw_ok q1 (n := 4) (by decide) (by decide)
  -- the bits
  obtain ⟨s, p3, o7', w3, hs, q3⟩ : ∃ (s : Str) (p3 : D) (o7' : Option D), (sIf (bAnd (bT (mGt (mVar 6) (mC (.int 1)))) (bT (mGt (mArg false gLnA (aCons (mVar 3) aNil)) (mC (.int 0)))))
    (sSeq (sSet 7 (mIdx (mArg true gSortA (aCons (mVar 3) aNil)) (mCall [.fd, .s] .d false f__law_draw [.slot 0, .val (mArg false gLnA (aCons (mVar 3) aNil))])))
    (sIf (bT (mEq (mVar 6) (mC (.int 2))))
    (sSet 5 (mSl false (mAdd false (mVar 7) (mVar 5)) pNo (pYes (mC (.int 10)))))
    (sSet 5 (mAdd false (mSl false (mVar 7) pNo (pYes (mNeg (mC (.int 1))))) (mArg false gStr (aCons (mSub (mC (.int 1)) (mArg false gInt (aCons (mEq (mSl false (mVar 7) (pYes (mNeg (mC (.int 1)))) pNo) (mC (.str ("1" : Str)))) aNil))) aNil))))))
    sNil) [some p2, some (.int n), some nx, some (.dct ⟨false, false⟩ (kvE es)), o4, some (.str b), some (.int k), o7] = .nx [some p3, some (.int n), some nx, some (.dct ⟨false, false⟩ (kvE es)), o4, some (.str s), some (.int k), o7'] ∧ Rng s ∧ Pool p3 := by
    by_cases c1 : 1 < k
    · by_cases c2 : 0 < es.length
      · obtain ⟨j, p3, w4, j1, j2, q3⟩ := draw_ok q2 (n := ((kvE es).length : Int)) (by rw [kvE_len]; omega) (log_small (by rw [kvE_len]; omega) (by rw [kvE_len]; omega))
        rw [kvE_len] at j2
        have sl : ((srtS (es.map (·.1))).map D.str).length = es.length := by rw [List.length_map, srtS_perm.length_eq, List.length_map]
        obtain ⟨d, d1, d2⟩ := atI_some (xs := (srtS (es.map (·.1))).map D.str) j1 (by rw [sl]; exact j2)
        obtain ⟨z, z1, rfl⟩ := List.mem_map.mp d2
        obtain ⟨e, e1, e2⟩ := List.mem_map.mp (srtS_mem.mp z1)
        have hz : Rng z := by rw [← e2]; exact (hv.2 e e1).1
        have pl : pureL ((srtS (es.map (·.1))).map D.str) = true := pureL_iff.mpr fun d hd => by
          obtain ⟨k, _, rfl⟩ := List.mem_map.mp hd
          rfl
        have c2' : 0 < (kvE es).length := by rw [kvE_len]; exact c2
        have zl := rng_len hz
        have bl := rng_len hb
        by_cases c3 : k = 2
        · have hl2 : z.length + b.length ≤ 16777216 := by omega
          have hl3 : (z ++ b).length ≤ 16777216 := by rw [tl_len, tl_app, List.length_append, ← tl_len, ← tl_len]; exact hl2
          exact ⟨_, p3, some (.str z), by simp [c1, c2', sortA_kv (show es.length < 64 by omega), w4, d1, pl, c3, hl2, hl3], rng_cut hz hb, q3⟩
        · obtain ⟨t, t1, t2⟩ := turn_dig (b := L2.cutS z (some (-1)) none == ("1" : Str))
          have ok1 : PyData.strOk (L2.cutS z (some (-1)) none) = true := hz.1.cut.ok
          have hl1 : z.length ≤ 16777216 := by omega
          have hl2 : (L2.cutS z none (some (-1))).length + t.length ≤ 16777216 := by
            rw [tl_len, tl_len, tl_init, List.length_dropLast, t2.len]
            have := hz.2
            omega
          have e1 : D.int (1 - (if (L2.cutS z (some (-1)) none == ("1" : Str)) = true then 1 else 0)) = D.int (1 - (if (L2.cutS z (some (-1)) none == ("1" : Str)) = true then 1 else 0)) := rfl
          refine ⟨_, p3, some (.str z), ?_, rng_turn hz t2, q3⟩
          obtain ⟨bb, hbb⟩ : ∃ bb, bb = (L2.cutS z (some (-1)) none == ("1" : Str)) := ⟨_, rfl⟩
          rw [← hbb] at t1
          have e3 : pyEq (.str (L2.cutS z (some (-1)) none)) (.str ("1" : Str)) = some (.bl bb) := by rw [p_eqS ok1 sk_1, hbb]
          simp [c1, c2', sortA_kv (show es.length < 64 by omega), w4, d1, pl, c3, hl1, e3, g_intB, t1, hl2]
      · have c2' : ¬ (0 : Nat) < (kvE es).length := by rw [kvE_len]; exact c2
        exact ⟨b, p2, o7, by simp [c1, c2'], hb, q2⟩
    · exact ⟨b, p2, o7, by simp [c1], hb, q2⟩
  obtain ⟨j, p4, w4, j1, j2, q4⟩ := draw_ok q3 (n := (L.length : Int)) (by have := HL.l0; omega) (log_small (by have := HL.l0; omega) (by have := HL.l1; omega))
  obtain ⟨d, d1, d2⟩ := atI_some (xs := L) j1 j2
  have hd := HL.nx d d2
  obtain ⟨es', g1, g2, g3, g4⟩ := put_kvE hv hs hd
  refine ⟨p4, es', some (.str s), some (.int k), o7', ?_, q4, g2, g3, fun e he => (g4 e he).elim (fun z => by rw [z]; exact d2) fun ⟨e0, z1, z2⟩ => by rw [z2]; exact hvL e0 z1⟩
  rw [seq_nx (e1 := [some p1, some (.int n), some nx, some (.dct ⟨false, false⟩ (kvE es)), o4, some (.str b), o6, o7]) (by simp [w1])]
  rw [seq_nx (e1 := [some p2, some (.int n), some nx, some (.dct ⟨false, false⟩ (kvE es)), o4, some (.str b), some (.int k), o7]) (by simp [w2])]
  rw [seq_nx w3]
  have ln : gLnA [nx] = some (.int (L.length : Int)) := by rw [hnx]; simp
  have ix : pyIdx nx (.int j) = some d := by rw [hnx]; exact d1
  have kl : (kvE es).length < 16777216 := by rw [kvE_len]; omega
  simp [ln, w4, ix, hd.pure, kl, g1]
theorem rng_f {es : Es} : frzD none (.dct ⟨false, false⟩ (kvE es)) = if pureL ((kvE es).map (·.2)) = true then some (.dct ⟨false, true⟩ (kvE es)) else none := rfl
theorem oth_e {e : En} : othOk u__law_entries 3 none e = true := by
  unfold othOk
  have : ownsP (mdAt u__law_entries 3) none = true := rfl
  rw [this]
  rfl
theorem res_e {r : D} : resOk (mdAt u__law_entries 3) none r = true := by
  unfold resOk
  have : ownsP (mdAt u__law_entries 3) none = true := rfl
  rw [this]
  rfl
theorem entries_ok {L : List D} (HL : Nxs L) {p : D} (hp : Pool p) {n : Nat} (hn : n ≤ 24) : ∃ (es : Es) (p' : D), f__law_entries [p, .int n, .lst L] = .ok (.lst (pairsE es)) [p', .int n, .lst L] ∧ Val es ∧ es.length ≤ n ∧ Pool p' ∧ ∀ e ∈ es, e.2 ∈ L := by
  obtain ⟨nx, hnx⟩ : ∃ nx, nx = D.lst L := ⟨_, rfl⟩
  rw [← hnx]
  obtain ⟨p', es, o4, o5, o6, o7, lp, hq, hv, hl, hvL⟩ : ∃ (p' : D) (es : Es) (o4 o5 o6 o7 : Option D), forL (gSet 4) (sSeq (sSet 5 (mCall [.fd, .s] .d false f__law_bits [.slot 0, .val (mC (.int 10))]))
    (sSeq (sSet 6 (mCall [.fd, .s] .d false f__law_draw [.slot 0, .val (mC (.int 4))]))
    (sSeq (sIf (bAnd (bT (mGt (mVar 6) (mC (.int 1)))) (bT (mGt (mArg false gLnA (aCons (mVar 3) aNil)) (mC (.int 0)))))
    (sSeq (sSet 7 (mIdx (mArg true gSortA (aCons (mVar 3) aNil)) (mCall [.fd, .s] .d false f__law_draw [.slot 0, .val (mArg false gLnA (aCons (mVar 3) aNil))])))
    (sIf (bT (mEq (mVar 6) (mC (.int 2))))
    (sSet 5 (mSl false (mAdd false (mVar 7) (mVar 5)) pNo (pYes (mC (.int 10)))))
    (sSet 5 (mAdd false (mSl false (mVar 7) pNo (pYes (mNeg (mC (.int 1))))) (mArg false gStr (aCons (mSub (mC (.int 1)) (mArg false gInt (aCons (mEq (mSl false (mVar 7) (pYes (mNeg (mC (.int 1)))) pNo) (mC (.str ("1" : Str)))) aNil))) aNil))))))
    sNil)
    (sPut 3 gSetL (pVar 3) (mP (mVar 5)) (mP (mIdx (mVar 2) (mCall [.fd, .s] .d false f__law_draw [.slot 0, .val (mArg false gLnA (aCons (mVar 2) aNil))]))))))) (rngL 0 n) [some p, some (.int n), some nx, some (.dct ⟨false, false⟩ []), none, none, none, none]
     = .nx [some p', some (.int n), some nx, some (.dct ⟨false, false⟩ (kvE es)), o4, o5, o6, o7] ∧ Pool p' ∧ Val es ∧ es.length ≤ n ∧ (∀ e ∈ es, e.2 ∈ L) := by
    refine forL_rule (fun i e => ∃ (p' : D) (es : Es) (o4 o5 o6 o7 : Option D), e = [some p', some (.int n), some nx, some (.dct ⟨false, false⟩ (kvE es)), o4, o5, o6, o7] ∧ Pool p' ∧ Val es ∧ es.length ≤ i ∧ ∀ e ∈ es, e.2 ∈ L)
      (fun r => ∃ (p' : D) (es : Es) (o4 o5 o6 o7 : Option D), r = .nx [some p', some (.int n), some nx, some (.dct ⟨false, false⟩ (kvE es)), o4, o5, o6, o7] ∧ Pool p' ∧ Val es ∧ es.length ≤ n ∧ ∀ e ∈ es, e.2 ∈ L) _ 0 _ ⟨p, [], none, none, none, none, rfl, hp, ⟨by simp, by simp⟩, Nat.le_refl _, by simp⟩ (fun i d e hd ⟨p1, es, o4, o5, o6, o7, he, h1, h2, h3, h4⟩ => ?_) (fun e ⟨p1, es, o4, o5, o6, o7, he, h1, h2, h3, h4⟩ => ⟨p1, es, o4, o5, o6, o7, by rw [he], h1, h2, by simpa using h3, h4⟩)
    subst he
    obtain ⟨hi, rfl⟩ := rngL_at hd
    obtain ⟨p2, es2, a5, a6, a7, w, v1, v2, v3, v4⟩ := entries_turn HL (o4 := some (.int (0 + (i : Int)))) (o5 := o5) (o6 := o6) (o7 := o7) (n := (n : Int)) hnx h1 h2 h4 (by omega)
    exact ⟨[some p1, some (.int n), some nx, some (.dct ⟨false, false⟩ (kvE es)), some (.int (0 + (i : Int))), o5, o6, o7], rfl, lp_of w ⟨p2, es2, _, a5, a6, a7, rfl, v1, v2, by omega, v4⟩⟩
  refine ⟨es, p', ?_, hv, hl, hq, hvL⟩
  -- the pairs
  obtain ⟨acc, e', l1, l2, l3⟩ := lcL_rule (vs := [5]) (f := gSet 5) (t := bYes) (m := mTup false (aCons (mVar 5) (aCons (mP (mIdx (mVar 3) (mVar 5))) aNil)))
    (fun i acc e => ∃ o, e = [some p', some (.int n), some nx, some (.dct ⟨false, true⟩ (kvE es)), o4, o, o6, o7] ∧ acc = pairsE (es.take i))
    (fun acc e => e = [some p', some (.int n), some nx, some (.dct ⟨false, true⟩ (kvE es)), o4, none, o6, o7] ∧ acc = pairsE es) ((kvE es).map (·.1)) [] 0 [some p', some (.int n), some nx, some (.dct ⟨false, true⟩ (kvE es)), o4, o5, o6, o7] ⟨o5, rfl, rfl⟩
    (fun i d acc e hd ⟨o, he, h1⟩ => by
      subst he
      rw [kvE_keys, List.map_map, List.getElem?_map] at hd
      cases hx : es[i]? with
      | none => rw [hx] at hd; cases hd
      | some x =>
        rw [hx] at hd
        cases hd
        have hm := List.mem_of_getElem? hx
        have km : x.1 ∈ es.map (·.1) := List.mem_map.mpr ⟨x, hm, rfl⟩
        have hg : getE es x.1 = x.2 := congrArg Prod.snd (key_one hv.1 (getE_mem km) hm rfl)
        have il : i < es.length := (List.getElem?_eq_some_iff.mp hx).1
        have pu := (hv.2 x hm).2.pure
        have dg := dGet_kvE km
        rw [hg] at dg
        rw [Nat.zero_add] at h1 ⊢
        refine ⟨[some p', some (.int n), some nx, some (.dct ⟨false, true⟩ (kvE es)), o4, some (.str x.1), o6, o7], rfl, true, _, rfl, fun z => (by cases z), fun _ => ⟨by rw [h1]; unfold pairsE; rw [List.length_map, List.length_take, LIM_val]; omega, .tup [.str x.1, x.2], [some p', some (.int n), some nx, some (.dct ⟨false, true⟩ (kvE es)), o4, some (.str x.1), o6, o7], by simp [dg, pu], _, rfl, ?_⟩⟩
        rw [h1, List.take_succ, hx]
        unfold pairsE
        rw [List.map_append]
        rfl)
    (fun acc e ⟨o, he, h1⟩ => by
      subst he
      refine ⟨rfl, ?_⟩
      rw [h1, List.length_map, kvE_len, Nat.zero_add, List.take_length])
  subst l2
  subst l3
  have hk : okR (n : Int) = true := okR_nat (by omega)
  have e0 : ([p, D.int n, nx].map some ++ List.replicate (8 - [p, D.int n, nx].length) none : En) = [some p, some (.int n), some nx, none, none, none, none, none] := rfl
  simp only [f__law_entries, e_fnM, m__law_entries]
  rw [e0]
  rw [seq_nx (e1 := [some p, some (.int n), some nx, some (.dct ⟨false, false⟩ []), none, none, none, none]) (by simp)]
  rw [seq_nx (e1 := [some p', some (.int n), some nx, some (.dct ⟨false, false⟩ (kvE es)), o4, o5, o6, o7]) (by simp [hk, lp])]
  have lk := e_mLockD (i := 3) (p := none) (μ := u__law_entries) (m := (mLc (iKeysV (mVar 3)) [5] (gSet 5) bYes (mTup false (aCons (mVar 5) (aCons (mP (mIdx (mVar 3) (mVar 5))) aNil))))) (env := [some p', some (.int n), some nx, some (.dct ⟨false, false⟩ (kvE es)), o4, o5, o6, o7]) (d := .dct ⟨false, false⟩ (kvE es)) rfl
  rw [e_sRet, lk, rng_f, if_pos (kv_pure hv)]
  simp [oth_e, res_e, l1, nox_ok]
end Zk89
namespace Zk89
open PySem VS
theorem row_atI {es : Es} {k : Int} (h0 : 0 ≤ k) (h1 : k < (es.length : Int)) : ∃ x, L2.atI (pairsE es) k = some (.tup [.str x.1, x.2]) ∧ x ∈ es := by
  obtain ⟨j, rfl⟩ : ∃ j : Nat, k = (j : Int) := ⟨k.toNat, by omega⟩
  have hj : j < es.length := by omega
  exact ⟨es[j], L2.atI_nat (by unfold pairsE; rw [List.getElem?_map, List.getElem?_eq_getElem hj]; rfl), List.getElem_mem hj⟩
theorem cut10 {s b : Str} (hb : (tl b).length = 10) : (tl (L2.cutS (s ++ b) none (some 10))).length = 10 := by
  have := tl_take (z := s ++ b) (n := 10)
  rw [show ((10 : Nat) : Int) = 10 from rfl] at this
  rw [this, List.length_take, tl_app, List.length_append]
  omega
/-- the rows of a field of n routers -/
def NxS (n : Nat) (d : D) : Prop := d = .str ("here" : Str) ∨ d = .str ("drop" : Str) ∨ ∃ i : Nat, d = .int i ∧ i < n
structure RowsOk (n : Nat) (Rs : List Es) : Prop where
  len : Rs.length = n
  val : ∀ es ∈ Rs, Val es ∧ es.length ≤ 8 ∧ ∀ e ∈ es, NxS n e.2
def rowsD (Rs : List Es) : List D := Rs.map fun es => .lst (pairsE es)
theorem rowsD_at {Rs : List Es} {k : Int} (h0 : 0 ≤ k) (h1 : k < (Rs.length : Int)) : ∃ es, L2.atI (rowsD Rs) k = some (.lst (pairsE es)) ∧ es ∈ Rs := by
  obtain ⟨j, rfl⟩ : ∃ j : Nat, k = (j : Int) := ⟨k.toNat, by omega⟩
  have hj : j < Rs.length := by omega
  exact ⟨Rs[j], L2.atI_nat (by unfold rowsD; rw [List.getElem?_map, List.getElem?_eq_getElem hj]; rfl), List.getElem_mem hj⟩
def NXL (n c : Nat) : List D := [.str ("here" : Str), .str ("drop" : Str)] ++ (List.replicate c (rngL 0 n)).flatten
theorem nxl_mem {n c : Nat} {d : D} (h : d ∈ NXL n c) : NxS n d := by
  unfold NXL at h
  rw [List.mem_append] at h
  rcases h with h | h
  · simp only [List.mem_cons, List.not_mem_nil, or_false] at h
    exact h.elim .inl fun z => .inr (.inl z)
  · rw [List.mem_flatten] at h
    obtain ⟨l, h1, h2⟩ := h
    have := List.eq_of_mem_replicate h1
    subst this
    obtain ⟨j, hj⟩ := List.getElem?_of_mem h2
    obtain ⟨h3, h4⟩ := rngL_at hj
    exact .inr (.inr ⟨j, by rw [h4, Int.zero_add], h3⟩)
theorem NxS.nx {n : Nat} {d : D} (hn : n ≤ 8) (h : NxS n d) : Nx d := by
  rcases h with h | h | ⟨i, h, hi⟩
  · exact .inl h
  · exact .inr (.inl h)
  · exact .inr (.inr ⟨i, h, by omega, by omega⟩)
theorem rep_len {α : Type} {l : List α} : ∀ {c : Nat}, (List.replicate c l).flatten.length = c * l.length
  | 0 => by simp
  | c + 1 => by rw [List.replicate_succ, List.flatten_cons, List.length_append, rep_len, Nat.add_mul]; omega
theorem nxl_len {n c : Nat} : (NXL n c).length = 2 + c * n := by
  unfold NXL
  rw [List.length_append, rep_len, rngL_len]
  rfl
theorem nxl_ok {n c : Nat} (hn : n ≤ 8) (hc : c ≤ 3) : Nxs (NXL n c) := by
  have : c * n ≤ 3 * 8 := Nat.mul_le_mul hc hn
  exact ⟨fun d h => (nxl_mem h).nx hn, by rw [nxl_len]; omega, by rw [nxl_len]; omega⟩
theorem rng_pure {n : Nat} : pureL (rngL 0 n) = true := pureL_iff.mpr fun d hd => by
  obtain ⟨j, hj⟩ := List.getElem?_of_mem hd
  obtain ⟨_, h4⟩ := rngL_at hj
  rw [h4]; rfl
theorem rows_ok {p : D} (hp : Pool p) {n : Nat} (h1 : 1 ≤ n) (hn : n ≤ 8) : ∃ (Rs : List Es) (p' : D), f__law_rows [p, .int n, .int 8] = .ok (.lst (rowsD Rs)) [p', .int n, .int 8] ∧ RowsOk n Rs ∧ Pool p' := by
  have hk : okR (n : Int) = true := okR_nat (by omega)
  obtain ⟨c, p1, w1, c0, c1, q1⟩ := draw_ok hp (n := 3) (by decide) (by decide)
  obtain ⟨c', rfl⟩ : ∃ c' : Nat, c = (c' : Int) := ⟨c.toNat, by omega⟩
  -- the routers' numbers
  obtain ⟨acc, e', l1, l2, l3⟩ := lcL_rule (vs := [4]) (f := gSet 4) (t := bYes) (m := mVar 4)
    (fun i acc e => ∃ o, e = [some p, some (.int n), some (.int 8), none, o] ∧ acc = (rngL 0 n).take i)
    (fun acc e => e = [some p, some (.int n), some (.int 8), none, none] ∧ acc = rngL 0 n) (rngL 0 n) [] 0 [some p, some (.int n), some (.int 8), none, none] ⟨none, rfl, rfl⟩
    (fun i d acc e hd ⟨o, he, h1⟩ => by
      subst he
      have hi := (List.getElem?_eq_some_iff.mp hd).1
      rw [rngL_len] at hi
      rw [Nat.zero_add] at h1 ⊢
      refine ⟨[some p, some (.int n), some (.int 8), none, some d], rfl, true, _, rfl, fun z => (by cases z), fun _ => ⟨by rw [h1, List.length_take, rngL_len, LIM_val]; omega, d, _, rfl, _, rfl, ?_⟩⟩
      rw [h1, List.take_succ, hd]
      rfl)
    (fun acc e ⟨o, he, h1⟩ => by
      subst he
      refine ⟨rfl, ?_⟩
      rw [h1, Nat.zero_add, List.take_length])
  subst l2
  subst l3
  have c3 : (1 + (c' : Int)).toNat = 1 + c' := by omega
  have rl : (rngL 0 n).length = n := rngL_len
  have rp : pyRep (.lst (rngL 0 n)) (.int (1 + (c' : Int))) = some (.lst (List.replicate (1 + c') (rngL 0 n)).flatten) := by
    have : n * (1 + c') ≤ 8 * 3 := Nat.mul_le_mul hn (by omega)
    have h1 : (decide ((1 + (c' : Int)).natAbs < 2 ^ 62) && decide ((rngL 0 n).length * (1 + (c' : Int)).toNat ≤ LIM) && pureL (rngL 0 n)) = true := by
      rw [Bool.and_eq_true, Bool.and_eq_true, decide_eq_true_eq, decide_eq_true_eq]
      exact ⟨⟨by omega, by rw [rl, c3, LIM_val]; omega⟩, rng_pure⟩
    show (if (decide ((1 + (c' : Int)).natAbs < 2 ^ 62) && decide ((rngL 0 n).length * (1 + (c' : Int)).toNat ≤ LIM) && pureL (rngL 0 n)) = true then some (D.lst (List.replicate (1 + (c' : Int)).toNat (rngL 0 n)).flatten) else none) = _
    rw [if_pos h1, c3]
  obtain ⟨F, hF⟩ : ∃ F, F = (List.replicate (1 + c') (rngL 0 n)).flatten := ⟨_, rfl⟩
  have hFl : F.length ≤ 24 := by
    rw [hF, rep_len, rngL_len]
    have : (1 + c') * n ≤ 3 * 8 := Nat.mul_le_mul (by omega) hn
    omega
  have HL : NXL n (1 + c') = [D.str ("here" : Str), .str ("drop" : Str)] ++ F := by rw [hF]; rfl
  have HN := nxl_ok (n := n) (c := 1 + c') hn (by omega)
  rw [← hF] at rp
  obtain ⟨nx, hnx⟩ : ∃ nx, nx = D.lst (NXL n (1 + c')) := ⟨_, rfl⟩
  -- the rows
  obtain ⟨acc, e', m1, Rs, p', m2, m3, m4, m5⟩ := lcL_rule (vs := [4]) (f := gSet 4) (t := bYes) (m := mCall [.fd, .s, .s] .r false f__law_entries [.slot 0, .val (mCall [.fd, .s] .d false f__law_draw [.slot 0, .val (mAdd false (mVar 2) (mC (.int 1)))]), .val (mVar 3)])
    (fun i acc e => ∃ (Rs : List Es) (p' : D) (o : Option D), e = [some p', some (.int n), some (.int 8), some nx, o] ∧ acc = rowsD Rs ∧ Pool p' ∧ Rs.length = i ∧ ∀ es ∈ Rs, Val es ∧ es.length ≤ 8 ∧ ∀ e ∈ es, NxS n e.2)
    (fun acc e => ∃ (Rs : List Es) (p' : D), acc = rowsD Rs ∧ Pool p' ∧ RowsOk n Rs ∧ e = [some p', some (.int n), some (.int 8), some nx, none]) (rngL 0 n) [] 0 [some p1, some (.int n), some (.int 8), some nx, none] ⟨[], p1, none, rfl, rfl, q1, rfl, by simp⟩
    (fun i d acc e hd ⟨Rs, p2, o, he, h1, h2, h3, h4⟩ => by
      subst he
      obtain ⟨hi, rfl⟩ := rngL_at hd
      obtain ⟨k, p3, w2, k0, k1, q3⟩ := draw_ok h2 (n := 9) (by decide) (by decide)
      obtain ⟨k', rfl⟩ : ∃ k' : Nat, k = (k' : Int) := ⟨k.toNat, by omega⟩
      obtain ⟨es, p4, w3, v1, v2, q4, v3⟩ := entries_ok HN q3 (n := k') (by omega)
      rw [← hnx] at w3
      refine ⟨[some p2, some (.int n), some (.int 8), some nx, some (.int (0 + (i : Int)))], rfl, true, _, rfl, fun z => (by cases z), fun _ => ⟨by rw [h1]; unfold rowsD; rw [List.length_map, h3, LIM_val]; omega, .lst (pairsE es), [some p4, some (.int n), some (.int 8), some nx, some (.int (0 + (i : Int)))], by simp [w2, w3], Rs ++ [es], p4, _, rfl, by rw [h1]; unfold rowsD; rw [List.map_append]; rfl, q4, by rw [List.length_append, h3]; rfl, fun x hx => ?_⟩⟩
      rcases List.mem_append.mp hx with hx | hx
      · exact h4 x hx
      · rw [List.mem_singleton] at hx
        subst hx
        exact ⟨v1, by omega, fun e he => nxl_mem (v3 e he)⟩)
    (fun acc e ⟨Rs, p2, o, he, h1, h2, h3, h4⟩ => by
      subst he
      exact ⟨Rs, p2, h1, h2, ⟨by rw [h3, Nat.zero_add, rngL_len], h4⟩, rfl⟩)
  subst m2
  subst m5
  refine ⟨Rs, p', ?_, m4, m3⟩
  have e0 : ([p, D.int n, D.int 8].map some ++ List.replicate (5 - [p, D.int n, D.int 8].length) none : En) = [some p, some (.int n), some (.int 8), none, none] := rfl
  simp only [f__law_rows, e_fnM, m__law_rows]
  rw [e0]
  have nl : 2 + F.length ≤ 16777216 := by omega
  rw [seq_nx (e1 := [some p1, some (.int n), some (.int 8), some nx, none]) (by rw [hnx, HL]; simp [hk, l1, nox_ok, w1, rp, nl])]
  simp [hk, m1, nox_ok]
theorem address_ok {p : D} (hp : Pool p) {n : Nat} {Rs : List Es} (hR : RowsOk n Rs) (h1 : 1 ≤ n) (hn : n ≤ 8) : ∃ (a : Str) (p' : D), f__law_address [p, .lst (rowsD Rs)] = .ok (.str a) [p', .lst (rowsD Rs)] ∧ Addr10 a ∧ Pool p' := by
  obtain ⟨R, hRR⟩ : ∃ r, r = D.lst (rowsD Rs) := ⟨_, rfl⟩
  have Rl : gLnA [R] = some (.int n) := by rw [hRR]; simp [rowsD, hR.len]
  have Ri : ∀ i, pyIdx R (.int i) = L2.atI (rowsD Rs) i := fun i => by rw [hRR]; rfl
  rw [← hRR]
  obtain ⟨ys, p1, e', l1, q1, ⟨o, he⟩, g1, g2⟩ := digits (n := 10) (vs := [4]) (f := gSet 4) (m := mArg false gStr (aCons (mCall [.fd, .s] .d false f__law_draw [.slot 0, .val (mC (.int 2))]) aNil)) (by omega)
    (fun p e => ∃ o, e = [some p, some R, none, none, o])
    (fun e ⟨p, hp, o, he⟩ d => by
      subst he
      obtain ⟨v, p', w1, w2, w3, w4⟩ := draw_ok hp (n := 2) (by decide) (by decide)
      obtain ⟨s, w5, w6⟩ := g_str01 w2 w3
      exact ⟨[some p, some R, none, none, some d], rfl, s, p', [some p', some R, none, none, some d], by simp [w1, w5], w6, w4, _, rfl⟩)
    hp (e := [some p, some R, none, none, none]) ⟨none, rfl⟩
  subst he
  obtain ⟨b1, b2, b3⟩ := join_bits g1
  rw [g2] at b2 b3
  have hj := g_join (x := ("" : Str)) (ys := ys) (by rw [b3, g2, se_len]; decide)
  obtain ⟨b, hb⟩ : ∃ b, b = Txt.join ("" : Str) ys := ⟨_, rfl⟩
  rw [← hb] at hj b1 b2
  have l2 : dropV [some p1, some R, none, none, o] [4] = [some p1, some R, none, none, none] := rfl
  rw [l2] at l1
  have hk : okR 10 = true := by decide
  have e0 : ([p, R].map some ++ List.replicate (5 - [p, R].length) none : En) = [some p, some R, none, none, none] := rfl
  have rg : rngL 0 (10 : Int).toNat = rngL 0 10 := rfl
  have st1 : (sSet 2 (mS1 gJoin (mC (.str ("" : Str))) (mLc (iRng1 (aCons (mC (.int 10)) aNil)) [4] (gSet 4) bYes (mArg false gStr (aCons (mCall [.fd, .s] .d false f__law_draw [.slot 0, .val (mC (.int 2))]) aNil))))) [some p, some R, none, none, none] = .nx [some p1, some R, some (.str b), none, none] := by
    simp [hk, l1, hj]
  have bl : b.length = 10 := by rw [tl_len, b2]
  obtain ⟨u, p2, w0, u0, u1, q2⟩ := draw_ok q1 (n := (n : Int)) (by omega) (log_small (by omega) (by omega))
  obtain ⟨es, x1, x2⟩ := rowsD_at (Rs := Rs) u0 (by rw [hR.len]; exact u1)
  obtain ⟨hv, hl, _⟩ := hR.val es x2
  obtain ⟨r, hr⟩ : ∃ r, r = D.lst (pairsE es) := ⟨_, rfl⟩
  have rl : gLnA [r] = some (.int es.length) := by rw [hr]; simp [pairsE]
  have ri : ∀ i, pyIdx r (.int i) = L2.atI (pairsE es) i := fun i => by rw [hr]; rfl
  rw [← hr] at x1
  have st2 : (sSet 3 (mIdx (mVar 1) (mCall [.fd, .s] .d false f__law_draw [.slot 0, .val (mArg false gLnA (aCons (mVar 1) aNil))]))) [some p1, some R, some (.str b), none, none] = .nx [some p2, some R, some (.str b), some r, none] := by
    simp [Rl, w0, Ri, x1]
  simp only [f__law_address, e_fnM, m__law_address]
  rw [e0, seq_nx st1, seq_nx st2]
  by_cases h0 : es.length = 0
  · refine ⟨b, p2, ?_, ⟨b1, b2⟩, q2⟩
    simp [rl, h0]
  · have h0' : ¬ es = [] := by rintro rfl; exact h0 rfl
    obtain ⟨v, p3, w1, v1, v2, q3⟩ := draw_ok q2 (n := 3) (by decide) (by decide)
    by_cases c1 : v = 0
    · refine ⟨b, p3, ?_, ⟨b1, b2⟩, q3⟩
      simp [rl, h0', w1, c1]
    · obtain ⟨j, p4, w2, j1, j2, q4⟩ := draw_ok q3 (n := (es.length : Int)) (by omega) (log_small (by omega) (by omega))
      obtain ⟨x, y1, y2⟩ := row_atI j1 j2
      have hx := (hv.2 x y2).1
      have a0 : L2.atI [D.str x.1, x.2] 0 = some (.str x.1) := rfl
      have xl := rng_len hx
      have hl2 : x.1.length + b.length ≤ 16777216 := by omega
      have hl3 : (x.1 ++ b).length ≤ 16777216 := by rw [tl_len, tl_app, List.length_append, ← tl_len, ← tl_len]; exact hl2
      refine ⟨L2.cutS (x.1 ++ b) none (some 10), p4, ?_, ⟨(hx.1.app b1).cut, cut10 b2⟩, q4⟩
      rw [seq_nx (e1 := [some p3, some R, some (.str b), some r, none]) (by simp [rl, h0', w1, c1])]
      simp [rl, w2, ri, y1, a0, hl2, hl3]
end Zk89
namespace Zk89
open PySem VS
theorem en_ne : (("entries" : Str) == ("onward" : Str)) = false := by decide +kernel
theorem isT {ts : Es} : isObj ("Table" : Str) ("onward" : Str) (objT ts) = true := by
  have h : (("onward" : Str) == ("entries" : Str)) = false := by decide +kernel
  simp [isObj, objT, List.lookup, h]
theorem tabS_nd {es : Es} (nd : (es.map (·.1)).Nodup) : (tabS es).Nodup := by
  unfold tabS
  have h : (srtS (es.map (·.1))).Nodup := srtS_perm.nodup_iff.mpr nd
  exact List.Pairwise.map _ (fun a b hab z => hab (congrArg Prod.fst z)) h
theorem nd_of_keys {es : Es} (nd : (es.map (·.1)).Nodup) : es.Nodup := List.Pairwise.of_map _ (fun a b hab z => hab (by rw [z])) nd
theorem tabS_perm {es : Es} (nd : (es.map (·.1)).Nodup) : (tabS es).Perm es := (List.perm_ext_iff_of_nodup (tabS_nd nd) (nd_of_keys nd)).mpr fun e => ⟨tabS_mem, tabS_mem' nd⟩
theorem keyS_pair {e : Str × D} : keyS (pairE e) = e.1 := rfl
theorem sort_eq {es : Es} (hv : Val es) : srtSP (pairsE es) = pairsE (tabS es) := by
  have pm : (srtSP (pairsE es)).Perm (pairsE (tabS es)) := (List.mergeSort_perm _ _).trans ((tabS_perm hv.1).map pairE).symm
  have mem : ∀ d ∈ pairsE (tabS es), ∃ e ∈ es, d = pairE e := fun d hd => by
    obtain ⟨e, h1, h2⟩ := List.mem_map.mp hd
    exact ⟨e, tabS_mem h1, h2.symm⟩
  refine srt_uniq (le := fun a b => (a ∈ pairsE (tabS es) ∧ b ∈ pairsE (tabS es)) ∧ leS (keyS a) (keyS b) = true) (fun a b h1 h2 => ?_) ?_ ?_ pm
  · obtain ⟨x, x1, rfl⟩ := mem a h1.1.1
    obtain ⟨y, y1, rfl⟩ := mem b h1.1.2
    have := leS_anti h1.2 h2.2
    rw [keyS_pair, keyS_pair] at this
    rw [key_one hv.1 x1 y1 this]
  · refine List.Pairwise.imp_of_mem (fun {a b} ha hb h => ⟨⟨pm.mem_iff.mp ha, pm.mem_iff.mp hb⟩, h⟩) (List.pairwise_mergeSort (le := fun a b => leS (keyS a) (keyS b)) (fun a b c => leS_trans) (fun a b => by rw [Bool.or_eq_true]; exact leS_total) _)
  · refine List.Pairwise.imp_of_mem (fun {a b} ha hb h => ⟨⟨ha, hb⟩, h⟩) ?_
    unfold pairsE
    rw [List.pairwise_map]
    exact tabS_pw
theorem sp_ok {es : Es} (hv : Val es) : gSortA [.lst (pairsE es)] = some (.lst (pairsE (tabS es))) := by
  have h1 : ((pairsE es).all isSP && nodupS ((pairsE es).map keyS)) = true := by
    rw [Bool.and_eq_true]
    refine ⟨List.all_eq_true.mpr fun d hd => ?_, nodupS_iff.mpr ?_⟩
    · obtain ⟨e, h1, rfl⟩ := List.mem_map.mp hd
      obtain ⟨k, x⟩ := e
      rcases (hv.2 _ h1).2 with h | h | ⟨i, h, _⟩ <;> dsimp only at h <;> subst h <;> rfl
    · unfold pairsE
      rw [List.map_map]
      exact hv.1
  show (gSortD [.lst (pairsE es)]).or (if ((pairsE es).all isSP && nodupS ((pairsE es).map keyS)) = true then some (.lst (srtSP (pairsE es))) else none) = _
  rw [if_pos h1, sort_eq hv]
  rfl
theorem pairs_pure {es : Es} (hv : ∀ e ∈ es, Rng e.1 ∧ Nx e.2) : pureL (pairsE es) = true := pureL_iff.mpr fun d hd => by
  obtain ⟨e, h1, rfl⟩ := List.mem_map.mp hd
  have := (hv e h1).2.pure
  simp [pairE, this]
theorem is_integer_str {s : Str} : f_is_integer [.str s] = .ok (.bl false) [.str s] := by
  have g1 : gIsiO oc [.str s, .ty "int"] = some (.bl false) := rfl
  simp [f_is_integer, e_fnM, m_is_integer, g1]
theorem oc_t : oc ("Table" : Str) = true := by decide +kernel
theorem oc_f : oc ("Field" : Str) = true := by decide +kernel
theorem fits_ok {ts : Es} {n : Nat} (h : ∀ e ∈ ts, NxS n e.2) : f_fits_field [objT ts, .int n] = .ok (.bl true) [objT ts, .int n] := by
  have g1 : gIsiO oc [objT ts, .cls ("Table" : Str)] = some (.bl true) := by
    simp only [gIsiO, oc_t, Bool.and_true, if_true]
    rfl
  obtain ⟨o, ho⟩ : ∃ o, o = objT ts := ⟨_, rfl⟩
  have hf : pyFld tb ("entries" : Str) o = some (.tup (pairsE ts)) := by rw [ho]; exact fld_ok
  rw [← ho] at g1 ⊢
  obtain ⟨o3, o4, lp⟩ : ∃ o3 o4, forL (gTupT (gConsT (gSet 2) (gConsT (gSet 3) gNilT)) 2) (sIf (bAnd (bT (mCall [.s] .d false f_is_integer [.val (mVar 3)])) (bT (mGe (mVar 3) (mVar 1))))
    (sRet (mC (.bl false)))
    sNil) (pairsE ts) [some o, some (.int n), none, none] = .nx [some o, some (.int n), o3, o4] := by
    refine forL_rule (fun i e => ∃ o3 o4, e = [some o, some (.int n), o3, o4])
      (fun r => ∃ o3 o4, r = .nx [some o, some (.int n), o3, o4]) _ 0 _ ⟨none, none, rfl⟩ (fun i d e hd ⟨o3, o4, he⟩ => ?_) (fun e ⟨o3, o4, he⟩ => ⟨o3, o4, by rw [he]⟩)
    subst he
    unfold pairsE at hd
    rw [List.getElem?_map] at hd
    cases hx : ts[i]? with
    | none => rw [hx] at hd; cases hd
    | some x =>
      rw [hx] at hd
      cases hd
      have hn := h x (List.mem_of_getElem? hx)
      obtain ⟨k, y⟩ := x
      refine ⟨[some o, some (.int n), some (.str k), some y], by unfold pairE; rw [tup2]; rfl, lp_of (e := [some o, some (.int n), some (.str k), some y]) ?_ ⟨_, _, rfl⟩⟩
      rcases hn with hn | hn | ⟨j, hn, hj⟩ <;> dsimp only at hn <;> subst hn
      · simp [is_integer_str]
      · simp [is_integer_str]
      · have : ¬ n ≤ j := by omega
        simp [is_integer_int, this]
  have e0 : ([o, D.int n].map some ++ List.replicate (4 - [o, D.int n].length) none : En) = [some o, some (.int n), none, none] := rfl
  simp only [f_fits_field, e_fnM, m_fits_field]
  rw [e0]
  rw [seq_nx (e1 := [some o, some (.int n), none, none]) (by simp [g1])]
  rw [seq_nx (e1 := [some o, some (.int n), o3, o4]) (by simp only [e_sFor, e_iVal, e_mUn, e_mVar, List.getElem?_cons_zero, Rt.bind_ok, e_mUn2, hf, e_fin, Bool.false_and, Bool.false_eq_true, if_false, i_tup, Rt.st_ok, e_sFor2, lp])]
  simp
def tabsD (Rs : List Es) : List D := Rs.map fun es => objT (tabS es)
abbrev objF (Rs : List Es) : D := .obj ("Field" : Str) [(("size" : Str), .int (Rs.length : Nat)), (("tables" : Str), .tup (tabsD Rs))]
theorem tb_s : tb ("Field" : Str) ("size" : Str) = true := by decide +kernel
theorem tb_ts : tb ("Field" : Str) ("tables" : Str) = true := by decide +kernel
theorem st_ne : (("size" : Str) == ("tables" : Str)) = false := by decide +kernel
theorem st_ne' : ¬ ("size" : Str) = ("tables" : Str) := by decide +kernel
theorem ts_ne : (("tables" : Str) == ("size" : Str)) = false := by decide +kernel
theorem tabsD_at {Rs : List Es} {j : Nat} {es : Es} (h : Rs[j]? = some es) : L2.atI (tabsD Rs) (j : Int) = some (objT (tabS es)) := L2.atI_nat (by unfold tabsD; rw [List.getElem?_map, h]; rfl)
theorem field_ok {n : Nat} {Rs : List Es} (hR : RowsOk n Rs) (h1 : 1 ≤ n) (h8 : n ≤ 8) : f_Field__init [.obj ("Field" : Str) [], .tup (tabsD Rs)] = .ok .non [objF Rs, .tup (tabsD Rs)] := by
  obtain ⟨self, hself⟩ : ∃ s : D, s = .obj ("Field" : Str) [] := ⟨_, rfl⟩
  have tl0 : (tabsD Rs).length = n := by unfold tabsD; rw [List.length_map, hR.len]
  obtain ⟨t, ht⟩ : ∃ t, t = D.tup (tabsD Rs) := ⟨_, rfl⟩
  have tl1 : gLnA [t] = some (.int (n : Int)) := by rw [ht]; simp [tl0]
  have ti : ∀ i, pyIdx t (.int i) = L2.atI (tabsD Rs) i := fun i => by rw [ht]; rfl
  have g1 : gIsiO oc [t, .ty "tuple"] = some (.bl true) := by rw [ht]; rfl
  have hk : okR (n : Int) = true := okR_nat (by omega)
  obtain ⟨o, lp⟩ : ∃ o, forL (gSet 2) (sIf (bNot (bT (mCall [.s, .s] .d false f_fits_field [.val (mIdx (mVar 1) (mVar 2)), .val (mArg false gLnA (aCons (mVar 1) aNil))])))
    (sRaise ("BadField" : Str) [("router" : Str)] (aCons (mVar 2) aNil))
    sNil) (rngL 0 n) [some self, some t, none] = .nx [some self, some t, o] := by
    refine forL_rule (fun i e => ∃ o, e = [some self, some t, o]) (fun r => ∃ o, r = .nx [some self, some t, o]) _ 0 _ ⟨none, rfl⟩ (fun i d e hd ⟨o, he⟩ => ?_) (fun e ⟨o, he⟩ => ⟨o, by rw [he]⟩)
    subst he
    obtain ⟨hi, rfl⟩ := rngL_at hd
    have hx : Rs[i]? = some (Rs[i]'(by rw [hR.len]; exact hi)) := List.getElem?_eq_getElem _
    obtain ⟨es, hes⟩ : ∃ es, es = Rs[i]'(by rw [hR.len]; exact hi) := ⟨_, rfl⟩
    rw [← hes] at hx
    have ha := tabsD_at hx
    have hf := fits_ok (ts := tabS es) (n := n) fun e he => (hR.val es (List.mem_of_getElem? hx)).2.2 e (tabS_mem he)
    refine ⟨[some self, some t, some (.int (0 + (i : Int)))], rfl, lp_of (e := [some self, some t, some (.int (0 + (i : Int)))]) ?_ ⟨_, rfl⟩⟩
    obtain ⟨ob, hob⟩ : ∃ ob, ob = objT (tabS es) := ⟨_, rfl⟩
    rw [← hob] at ha hf
    simp [ti, ha, tl1, hf]
  have e0 : ([self, t].map some ++ List.replicate (3 - [self, t].length) none : En) = [some self, some t, none] := rfl
  have s1 : gSetF tb ("size" : Str) self [.int n] = some (.obj ("Field" : Str) [(("size" : Str), .int n)], .non) := by
    rw [hself]
    simp only [gSetF, tb_s]
    rfl
  obtain ⟨s2, hs2⟩ : ∃ s, s = D.obj ("Field" : Str) [(("size" : Str), .int n)] := ⟨_, rfl⟩
  have s3 : gSetF tb ("tables" : Str) s2 [t] = some (.obj ("Field" : Str) [(("size" : Str), .int n), (("tables" : Str), t)], .non) := by
    rw [hs2]
    simp only [gSetF, tb_ts, putD, if_neg st_ne']
    rfl
  rw [← hs2] at s1
  have hF : objF Rs = .obj ("Field" : Str) [(("size" : Str), .int n), (("tables" : Str), t)] := by rw [ht]; unfold objF; rw [hR.len]
  rw [hF]
  obtain ⟨s4, hs4⟩ : ∃ s, s = D.obj ("Field" : Str) [(("size" : Str), .int n), (("tables" : Str), t)] := ⟨_, rfl⟩
  rw [← hs4] at s3 ⊢
  rw [← ht, ← hself]
  simp only [f_Field__init, e_fnM, m_Field__init]
  rw [e0]
  have a1 : (1 : Int) ≤ (n : Int) := by omega
  have a2 : (n : Int) ≤ 8 := by omega
  rw [seq_nx (e1 := [some self, some t, none]) (by simp [g1, tl1, a1, a2])]
  rw [seq_nx (e1 := [some self, some t, o]) (by simp [tl1, hk, lp])]
  rw [seq_nx (e1 := [some s2, some t, o]) (by simp [tl1, s1])]
  simp [s3]
end Zk89
namespace Zk89
open PySem VS
def ix (l : List Int) (j : Int) : Nat := (l.findIdx? (· == j)).getD 0
theorem ix_some {l : List Int} {j : Int} (h : j ∈ l) : l.findIdx? (· == j) = some (ix l j) ∧ ix l j < l.length := by
  unfold ix
  cases e : l.findIdx? (· == j) with
  | none =>
    rw [List.findIdx?_eq_none_iff] at e
    have := e j h
    simp at this
  | some i =>
    obtain ⟨h1, _, _⟩ := List.findIdx?_eq_some_iff_getElem.mp e
    exact ⟨rfl, h1⟩
theorem ix_hd {x : Int} {l : List Int} : ix (x :: l) x = 0 := by
  unfold ix
  rw [List.findIdx?_cons]
  simp
theorem ix_tl {x j : Int} {l : List Int} (hne : x ≠ j) (h : j ∈ l) : ix (x :: l) j = ix l j + 1 := by
  unfold ix
  rw [List.findIdx?_cons, (ix_some h).1]
  have : (x == j) = false := by simpa using hne
  rw [this]
  rfl
theorem ix_app {j : Int} {l r : List Int} (h : j ∈ l) : ix (l ++ r) j = ix l j := by
  unfold ix
  rw [List.findIdx?_append, (ix_some h).1]
  rfl
theorem ix_end {x : Int} {l : List Int} (h : x ∉ l) : ix (l ++ [x]) x = l.length := by
  unfold ix
  have : l.findIdx? (· == x) = none := by
    rw [List.findIdx?_eq_none_iff]
    intro y hy
    simp only [beq_eq_false_iff_ne, ne_eq]
    rintro rfl
    exact h hy
  rw [List.findIdx?_append, this]
  simp [List.findIdx?_cons]
def mn (l : List Int) : Int := l.min?.getD 0
theorem mn_some {l : List Int} (h : l ≠ []) : l.min? = some (mn l) ∧ mn l ∈ l ∧ ∀ x ∈ l, mn l ≤ x := by
  unfold mn
  cases e : l.min? with
  | none => rw [List.min?_eq_none_iff] at e; exact absurd e h
  | some m =>
    obtain ⟨h1, h2⟩ := List.min?_eq_some_iff.mp e
    exact ⟨rfl, h1, h2⟩
theorem mn_turn {x : Int} {l : List Int} : mn (l ++ [x]) = mn (x :: l) := by
  obtain ⟨_, a1, a2⟩ := mn_some (l := l ++ [x]) (by simp)
  obtain ⟨_, b1, b2⟩ := mn_some (l := x :: l) (by simp)
  have h1 : mn (l ++ [x]) ∈ x :: l := by simp at a1 ⊢; exact a1.symm
  have h2 : mn (x :: l) ∈ l ++ [x] := by simp at b1 ⊢; exact b1.symm
  have := a2 _ h2
  have := b2 _ h1
  omega
def rot (l : List Int) : List Int := l.drop (ix l (mn l)) ++ l.take (ix l (mn l))
theorem rot_turn {x : Int} {l : List Int} (h : x ∉ l) : rot (l ++ [x]) = rot (x :: l) := by
  unfold rot
  rw [mn_turn]
  obtain ⟨_, b1, b2⟩ := mn_some (l := x :: l) (by simp)
  obtain ⟨m, hm⟩ : ∃ m, m = mn (x :: l) := ⟨_, rfl⟩
  rw [← hm] at b1 ⊢
  by_cases e : x = m
  · subst e
    rw [ix_hd, ix_end h]
    simp
  · have hl : m ∈ l := by
      rcases List.mem_cons.mp b1 with z | z
      · exact absurd z.symm e
      · exact z
    have hi := (ix_some hl).2
    rw [ix_tl e hl, ix_app hl, List.drop_append_of_le_length (by omega), List.take_append_of_le_length (by omega), List.drop_succ_cons, List.take_succ_cons]
    simp
def nxt (N : List D) (a : Int) : D := (L2.atI N a).getD .non
def rnd (l : List Int) : D := .tup [.str ("round" : Str), .tup (intsD (rot l))]
def goW (N : List D) : Nat → List Int → Int → D
  | 0, _, _ => .non
  | k + 1, ps, a => match nxt N a with
    | .int j => if j ∈ ps ++ [a] then rnd ((ps ++ [a]).drop (ix (ps ++ [a]) j)) else goW N k (ps ++ [a]) j
    | d => .tup [d, .int a, .int ps.length]
theorem goW_int {N : List D} {k : Nat} {ps : List Int} {a j : Int} (h : nxt N a = .int j) : goW N (k + 1) ps a = if j ∈ ps ++ [a] then rnd ((ps ++ [a]).drop (ix (ps ++ [a]) j)) else goW N k (ps ++ [a]) j := by
  rw [goW, h]
theorem goW_str {N : List D} {k : Nat} {ps : List Int} {a : Int} {s : Str} (h : nxt N a = .str s) : goW N (k + 1) ps a = .tup [.str s, .int a, .int ps.length] := by
  rw [goW, h]
/-- the nexts of n routers -/
structure NOk (n : Nat) (N : List D) : Prop where
  len : N.length = n
  nx : ∀ d ∈ N, NxS n d
  h8 : n ≤ 8
theorem NOk.at_ {n : Nat} {N : List D} (h : NOk n N) {a : Int} (h0 : 0 ≤ a) (h1 : a < n) : L2.atI N a = some (nxt N a) ∧ NxS n (nxt N a) := by
  obtain ⟨d, d1, d2⟩ := atI_some (xs := N) h0 (by rw [h.len]; exact h1)
  unfold nxt
  rw [d1]
  exact ⟨rfl, h.nx d d2⟩
def Way (n : Nat) (l : List Int) : Prop := l.Nodup ∧ ∀ x ∈ l, 0 ≤ x ∧ x < n
theorem Way.le {n : Nat} {l : List Int} (h : Way n l) : l.length ≤ n := by
  have := List.Nodup.length_le_of_subset (l₂ := (List.range n).map fun (i : Nat) => (i : Int)) h.1 fun x hx => by
    obtain ⟨h0, h1⟩ := h.2 x hx
    exact List.mem_map.mpr ⟨x.toNat, List.mem_range.mpr (by omega), by omega⟩
  simpa using this
theorem Way.add {n : Nat} {l : List Int} {i : Nat} (h : Way n l) (hn : (i : Int) ∉ l) (hi : i < n) : Way n (l ++ [(i : Int)]) := by
  refine ⟨?_, fun x hx => ?_⟩
  · rw [List.nodup_append]
    refine ⟨h.1, by simp, fun a ha b hb z => ?_⟩
    rw [List.mem_singleton] at hb
    subst hb
    subst z
    exact hn ha
  · rcases List.mem_append.mp hx with hx | hx
    · exact h.2 x hx
    · rw [List.mem_singleton] at hx; subst hx; omega
theorem Way.one {n : Nat} {a : Int} (h0 : 0 ≤ a) (h1 : a < n) : Way n [a] := ⟨by simp, by simp [h0, h1]⟩
/-- what a fate is -/
def Fate (d : D) : Prop := (∃ (s : Str) (a : Int) (k : Nat), d = .tup [.str s, .int a, .int k] ∧ (s = ("here" : Str) ∨ s = ("drop" : Str))) ∨ ∃ l, d = rnd l ∧ l ≠ []
theorem goW_fate {n : Nat} {N : List D} (hN : NOk n N) : ∀ (k : Nat) (ps : List Int) (a : Int), Way n (ps ++ [a]) → n ≤ k + ps.length → Fate (goW N k ps a)
  | 0, ps, a, hw, hk => by
    have := hw.le
    rw [List.length_append, List.length_singleton] at this
    omega
  | k + 1, ps, a, hw, hk => by
    obtain ⟨h0, h1⟩ := hw.2 a (by simp)
    obtain ⟨_, hx⟩ := hN.at_ h0 h1
    rcases hx with hx | hx | ⟨i, hx, hi⟩
    · rw [goW_str hx]; exact .inl ⟨_, _, _, rfl, .inl rfl⟩
    · rw [goW_str hx]; exact .inl ⟨_, _, _, rfl, .inr rfl⟩
    · rw [goW_int hx]
      split
      · rename_i hm
        have := (ix_some hm).2
        exact .inr ⟨_, rfl, fun z => by rw [List.drop_eq_nil_iff] at z; omega⟩
      · rename_i hm
        refine goW_fate hN k (ps ++ [a]) i (hw.add hm hi) ?_
        rw [List.length_append, List.length_singleton]
        omega
/-- one step less, or the same round -/
def Less (L R : D) : Prop := (∃ (s : Str) (r m : Int), L = .tup [.str s, .int r, .int m] ∧ R = .tup [.str s, .int r, .int (m - 1)] ∧ (s = ("here" : Str) ∨ s = ("drop" : Str))) ∨ (L = R ∧ ∃ l, L = rnd l ∧ l ≠ [])
theorem goW_less {n : Nat} {N : List D} (hN : NOk n N) {x t : Int} (ht : nxt N x = .int t) : ∀ (k : Nat) (ps : List Int) (a : Int), Way n (x :: (ps ++ [a])) → (ps ++ [a]).head? = some t → n ≤ k + ps.length + 1 → Less (goW N k (x :: ps) a) (goW N (k + 1) ps a)
  | 0, ps, a, hw, hh, hk => by
    have := hw.le
    rw [List.length_cons, List.length_append, List.length_singleton] at this
    omega
  | k + 1, ps, a, hw, hh, hk => by
    obtain ⟨h0, h1⟩ := hw.2 a (by simp)
    obtain ⟨_, hx⟩ := hN.at_ h0 h1
    have hnd := hw.1
    rw [List.nodup_cons] at hnd
    have cs : ∀ s : Str, nxt N a = .str s → (s = ("here" : Str) ∨ s = ("drop" : Str)) → Less (goW N (k + 1) (x :: ps) a) (goW N (k + 1 + 1) ps a) := fun s hs ho => by
      rw [goW_str hs, goW_str hs]
      refine .inl ⟨s, a, _, rfl, ?_, ho⟩
      rw [List.length_cons]
      have : ((ps.length + 1 : Nat) : Int) - 1 = (ps.length : Int) := by omega
      rw [this]
    rcases hx with hx | hx | ⟨i, hx, hi⟩
    · exact cs _ hx (.inl rfl)
    · exact cs _ hx (.inr rfl)
    · rw [goW_int hx, goW_int hx, List.cons_append]
      by_cases hm : (i : Int) ∈ ps ++ [a]
      · rw [if_pos hm, if_pos (List.mem_cons_of_mem _ hm)]
        have hne : x ≠ (i : Int) := fun z => hnd.1 (by rw [z]; exact hm)
        rw [ix_tl hne hm, List.drop_succ_cons]
        have := (ix_some hm).2
        exact .inr ⟨rfl, _, rfl, fun z => by rw [List.drop_eq_nil_iff] at z; omega⟩
      · rw [if_neg hm]
        by_cases e : (i : Int) = x
        · subst e
          rw [if_pos (by simp), ix_hd, List.drop_zero, goW_int ht]
          obtain ⟨l, hl⟩ : ∃ l, l = ps ++ [a] := ⟨_, rfl⟩
          rw [← hl] at hh hnd hm ⊢
          cases l with
          | nil => cases hh
          | cons y l2 =>
            rw [List.head?_cons] at hh
            cases hh
            rw [if_pos (by simp), List.cons_append, ix_hd, List.drop_zero]
            refine .inr ⟨?_, _, rfl, by simp⟩
            unfold rnd
            rw [← List.cons_append, rot_turn hm]
        · rw [if_neg (by rw [List.mem_cons]; exact fun z => z.elim e hm)]
          refine goW_less hN ht k (ps ++ [a]) i ?_ ?_ ?_
          · have := hw.add (i := i) (by rw [List.mem_cons]; exact fun z => z.elim e hm) hi
            rwa [List.cons_append] at this
          · rw [List.head?_append, hh]; rfl
          · rw [List.length_append, List.length_singleton]; omega
def fateW (N : List D) (a : Int) : D := goW N 9 [] a
theorem fateW_ok {n : Nat} {N : List D} (hN : NOk n N) {a : Int} (h0 : 0 ≤ a) (h1 : a < n) : Fate (fateW N a) := goW_fate hN 9 [] a (Way.one h0 h1) (by have := hN.h8; simp; omega)
theorem fate_str {N : List D} {a : Int} {s : Str} (h : nxt N a = .str s) : fateW N a = .tup [.str s, .int a, .int 0] := goW_str h
theorem fate_less {n : Nat} {N : List D} (hN : NOk n N) {a : Int} (h0 : 0 ≤ a) (h1 : a < n) {t : Nat} (ht : nxt N a = .int t) (h2 : t < n) : Less (fateW N a) (fateW N t) := by
  by_cases e : (t : Int) = a
  · subst e
    refine .inr ⟨rfl, ?_⟩
    unfold fateW
    rw [goW_int ht, if_pos (by simp)]
    exact ⟨_, rfl, by simp [ix_hd]⟩
  · have h := goW_less hN ht 8 [] t ?_ rfl (by have := hN.h8; simp; omega)
    · have e1 : fateW N a = goW N 8 [a] t := by
        unfold fateW
        rw [goW_int ht, if_neg (by simpa using e)]
        rfl
      rw [e1]
      exact h
    · refine ⟨by simp; exact fun z => e z.symm, ?_⟩
      simp
      omega
end Zk89
namespace Zk89
open PySem VS
theorem slD {l : List Int} {i : Nat} : pySl (.lst (intsD l)) (some (i : Int)) none = some (.lst (intsD (l.drop i))) := by
  have e : pySl (.lst (intsD l)) (some (i : Int)) none = some (.lst (((intsD l).drop (HT.sIx (intsD l).length 0 (some (i : Int)))).take (HT.sIx (intsD l).length (intsD l).length none - HT.sIx (intsD l).length 0 (some (i : Int))))) := rfl
  rw [e, HT.sIx_nat, HT.sIx_none, intsD_len]
  unfold intsD
  rw [← List.map_drop, ← List.map_take]
  rcases Nat.le_total i l.length with h | h
  · rw [Nat.min_eq_left h, List.take_of_length_le (by simp)]
  · rw [Nat.min_eq_right h, List.drop_of_length_le h, List.drop_length, List.take_nil]
theorem slT {l : List Int} {i : Nat} : pySl (.lst (intsD l)) none (some (i : Int)) = some (.lst (intsD (l.take i))) := by
  have e : pySl (.lst (intsD l)) none (some (i : Int)) = some (.lst (((intsD l).drop (HT.sIx (intsD l).length 0 none)).take (HT.sIx (intsD l).length (intsD l).length (some (i : Int)) - HT.sIx (intsD l).length 0 none))) := rfl
  rw [e, HT.sIx_none, HT.sIx_nat, List.drop_zero, Nat.sub_zero, intsD_len]
  unfold intsD
  rw [← List.map_take]
  rcases Nat.le_total i l.length with h | h
  · rw [Nat.min_eq_left h]
  · rw [Nat.min_eq_right h, List.take_length, List.take_of_length_le h]
theorem atI_last {xs : List D} {x : D} : L2.atI (xs ++ [x]) (-1) = some x := by
  have : L2.ixN (xs ++ [x]).length (-1) = some xs.length := by
    unfold L2.ixN
    rw [if_neg (by decide), if_pos (by rw [List.length_append, List.length_singleton]; omega)]
    congr 1
    rw [List.length_append, List.length_singleton]
    omega
  unfold L2.atI
  rw [this]
  simp
theorem ix_D {l : List Int} {j : Int} (h : j ∈ l) : pyIndex (.lst (intsD l)) (.int j) = some (.int (ix l j : Nat)) := by
  rw [p_index, (ix_some h).1]
  rfl
theorem mn_D {l : List Int} (h : l ≠ []) : gMin [.lst (intsD l)] = some (.int (mn l)) := by
  rw [g_min, (mn_some h).1]
  rfl
theorem rot_D {l : List Int} : intsD (l.drop (ix l (mn l))) ++ intsD (l.take (ix l (mn l))) = intsD (rot l) := by
  rw [← intsD_app]
  rfl
theorem isL_i {l : List Int} : (D.lst (intsD l)).isL = true := rfl
theorem gtup_l {xs : List D} : gTup [.lst xs] = some (.tup xs) := rfl
theorem rot_len {l : List Int} : (l.drop (ix l (mn l))).length + (l.take (ix l (mn l))).length = l.length := by
  rw [List.length_drop, List.length_take]
  omega
theorem turned_ok {l : List Int} (h : l ≠ []) (hl : l.length ≤ 100) : f_turned [.lst (intsD l)] = .ok (.tup (intsD (rot l))) [.lst (intsD l)] := by
  have m1 := mn_D h
  have m2 := ix_D (mn_some h).2.1
  obtain ⟨L, hL⟩ : ∃ L, L = D.lst (intsD l) := ⟨_, rfl⟩
  have iL : L.isL = true := by rw [hL]; rfl
  have s1 : pySl L (some (ix l (mn l) : Int)) none = some (.lst (intsD (l.drop (ix l (mn l))))) := by rw [hL]; exact slD
  have s2 : pySl L none (some (ix l (mn l) : Int)) = some (.lst (intsD (l.take (ix l (mn l))))) := by rw [hL]; exact slT
  rw [← hL] at m1 m2 ⊢
  have e0 : ([L].map some ++ List.replicate (2 - [L].length) none : En) = [some L, none] := rfl
  simp only [f_turned, e_fnM, m_turned]
  rw [e0]
  rw [seq_nx (e1 := [some L, some (.int (ix l (mn l) : Nat))]) (by simp [m1, iL, m2])]
  have hr : (l.drop (ix l (mn l))).length + (l.take (ix l (mn l))).length ≤ 16777216 := by rw [rot_len]; omega
  have hr' : (intsD (l.drop (ix l (mn l)))).length + (intsD (l.take (ix l (mn l)))).length ≤ 16777216 := by rw [intsD_len, intsD_len]; exact hr
  obtain ⟨A, hA⟩ : ∃ A, A = intsD (l.drop (ix l (mn l))) := ⟨_, rfl⟩
  obtain ⟨B, hB⟩ : ∃ B, B = intsD (l.take (ix l (mn l))) := ⟨_, rfl⟩
  have hAB : A ++ B = intsD (rot l) := by rw [hA, hB]; exact rot_D
  rw [← hA] at s1 hr'
  rw [← hB] at s2 hr'
  simp [s1, s2, hr', hAB, gtup_l]
theorem isi_str {s : Str} : gIsiO oc [.str s, .ty "str"] = some (.bl true) := rfl
theorem isi_int {i : Int} : gIsiO oc [.int i, .ty "str"] = some (.bl false) := rfl
theorem lookN {n : Nat} {N : List D} (hN : NOk n N) {L : D} (hL : L = .lst N) {a : Int} (h0 : 0 ≤ a) (h1 : a < n) : pyIdx L (.int a) = some (nxt N a) := by
  rw [hL]
  exact (hN.at_ h0 h1).1
theorem due_ok {n : Nat} {N : List D} (hN : NOk n N) {a : Int} (h0 : 0 ≤ a) (h1 : a < n) : f__law_due [.lst N, .int a] = .ok (fateW N a) [.lst N, .int a] := by
  obtain ⟨L, hL⟩ : ∃ L, L = D.lst N := ⟨_, rfl⟩
  have e0 : ([L, D.int a].map some ++ List.replicate (7 - [L, D.int a].length) none : En) = [some L, some (.int a), none, none, none, none, none] := rfl
  have hk : okR 9 = true := by decide
  rw [← hL]
  simp only [f__law_due, e_fnM, m__law_due]
  rw [e0]
  rw [seq_nx (e1 := [some L, some (.int a), some (.int a), none, none, none, none]) (by simp)]
  rw [seq_nx (e1 := [some L, some (.int a), some (.int a), some (.lst (intsD [])), none, none, none]) (by simp)]
  obtain ⟨b, hb⟩ : ∃ b, b = (sSeq (sIf (bT (mArg false (gIsiO oc) (aCons (mIdx (mVar 0) (mVar 2)) (aCons (mC (.ty "str")) aNil))))
    (sRet (mTup false (aCons (mIdx (mVar 0) (mVar 2)) (aCons (mVar 2) (aCons (mVar 4) aNil)))))
    sNil)
    (sSeq (sEx (mMut D.isL 3 gAppend (pVar 3) (aCons (mP (mVar 2)) aNil)))
    (sSeq (sSet 2 (mIdx (mVar 0) (mVar 2)))
    (sIf (bT (mIn (mVar 2) (mVar 3)))
    (sSeq (sSet 5 (mSl true (mVar 3) (pYes (mIndex (mVar 3) (mVar 2))) pNo))
    (sSeq (sSet 6 (mIndex (mVar 5) (mArg false gMin (aCons (mVar 5) aNil))))
    (sRet (mTup false (aCons (mC (.str ("round" : Str))) (aCons (mArg false gTup (aCons (mAdd false (mSl false (mVar 5) (pYes (mVar 6)) pNo) (mSl false (mVar 5) pNo (pYes (mVar 6)))) aNil)) aNil))))))
    sNil)))) := ⟨_, rfl⟩
  have lp : ∃ e3 e4 e5 e6 e7, forL (gSet 4) b (rngL 0 9) [some L, some (.int a), some (.int a), some (.lst (intsD [])), none, none, none] = .rt (fateW N a) [some L, some (.int a), e3, e4, e5, e6, e7] := by
    refine forL_rule (fun i e => ∃ (ps : List Int) (x : Int) (o4 : Option D), e = [some L, some (.int a), some (.int x), some (.lst (intsD ps)), o4, none, none] ∧ Way n (ps ++ [x]) ∧ ps.length = i ∧ goW N (9 - i) ps x = fateW N a)
      (fun r => ∃ e3 e4 e5 e6 e7, r = .rt (fateW N a) [some L, some (.int a), e3, e4, e5, e6, e7]) _ 0 _ ⟨[], a, none, rfl, Way.one h0 h1, rfl, rfl⟩ (fun i d e hd ⟨ps, x, o4, he, hw, hl, hg⟩ => ?_) (fun e ⟨ps, x, o4, he, hw, hl, hg⟩ => ?_)
    · subst he
      obtain ⟨hi, rfl⟩ := rngL_at hd
      rw [Nat.zero_add] at hl hg ⊢
      rw [Int.zero_add]
      obtain ⟨k, hk⟩ : ∃ k, 9 - i = k + 1 := ⟨8 - i, by omega⟩
      rw [hk] at hg
      obtain ⟨x0, x1⟩ := hw.2 x (by simp)
      obtain ⟨_, hx⟩ := hN.at_ x0 x1
      have lk := lookN hN hL x0 x1
      refine ⟨[some L, some (.int a), some (.int x), some (.lst (intsD ps)), some (.int (i : Int)), none, none], rfl, ?_⟩
      have cs : ∀ s : Str, nxt N x = .str s → ∃ e3 e4 e5 e6 e7, b [some L, some (.int a), some (.int x), some (.lst (intsD ps)), some (.int (i : Int)), none, none] = .rt (fateW N a) [some L, some (.int a), e3, e4, e5, e6, e7] := fun s hs => by
        rw [goW_str hs] at hg
        rw [hs] at lk
        refine ⟨some (.int x), some (.lst (intsD ps)), some (.int (i : Int)), none, none, ?_⟩
        rw [hb]
        rw [← hg, hl]
        simp [lk, isi_str]
      have cs' : ∀ s : Str, nxt N x = .str s → Sr.lp (fun e => ∃ (ps : List Int) (x : Int) (o4 : Option D), e = [some L, some (.int a), some (.int x), some (.lst (intsD ps)), o4, none, none] ∧ Way n (ps ++ [x]) ∧ ps.length = i + 1 ∧ goW N (9 - (i + 1)) ps x = fateW N a) (fun r => ∃ e3 e4 e5 e6 e7, r = .rt (fateW N a) [some L, some (.int a), e3, e4, e5, e6, e7]) (b [some L, some (.int a), some (.int x), some (.lst (intsD ps)), some (.int (i : Int)), none, none]) := fun s hs => by
        obtain ⟨e3, e4, e5, e6, e7, hh⟩ := cs s hs
        rw [hh]
        exact ⟨e3, e4, e5, e6, e7, rfl⟩
      rcases hx with hx | hx | ⟨t, hx, ht⟩
      · exact cs' _ hx
      · exact cs' _ hx
      · rw [goW_int hx] at hg
        rw [hx] at lk
        have hlt : ps.length < 16777216 := by omega
        have hap : intsD ps ++ [D.int x] = intsD (ps ++ [x]) := by rw [intsD_app]; rfl
        have st : ∀ s : SM, sSeq (sIf (bT (mArg false (gIsiO oc) (aCons (mIdx (mVar 0) (mVar 2)) (aCons (mC (.ty "str")) aNil))))
    (sRet (mTup false (aCons (mIdx (mVar 0) (mVar 2)) (aCons (mVar 2) (aCons (mVar 4) aNil)))))
    sNil) (sSeq (sEx (mMut D.isL 3 gAppend (pVar 3) (aCons (mP (mVar 2)) aNil))) (sSeq (sSet 2 (mIdx (mVar 0) (mVar 2))) s)) [some L, some (.int a), some (.int x), some (.lst (intsD ps)), some (.int (i : Int)), none, none] = s [some L, some (.int a), some (.int t), some (.lst (intsD (ps ++ [x]))), some (.int (i : Int)), none, none] := fun s => by
          rw [seq_nx (e1 := [some L, some (.int a), some (.int x), some (.lst (intsD ps)), some (.int (i : Int)), none, none]) (by simp [lk, isi_int])]
          rw [seq_nx (e1 := [some L, some (.int a), some (.int x), some (.lst (intsD (ps ++ [x]))), some (.int (i : Int)), none, none]) (by simp [hlt, hap])]
          rw [seq_nx (e1 := [some L, some (.int a), some (.int t), some (.lst (intsD (ps ++ [x]))), some (.int (i : Int)), none, none]) (by simp [lk])]
        rw [hb, st]
        obtain ⟨P, hP⟩ : ∃ P, P = ps ++ [x] := ⟨_, rfl⟩
        have hPl : P.length = i + 1 := by rw [hP, List.length_append, hl]; rfl
        rw [← hP] at hg hw ⊢
        by_cases hm : (t : Int) ∈ P
        · rw [if_pos hm] at hg
          obtain ⟨R, hR⟩ : ∃ R, R = P.drop (ix P (t : Int)) := ⟨_, rfl⟩
          have hix := (ix_some hm).2
          have hRn : R ≠ [] := fun z => by rw [hR, List.drop_eq_nil_iff] at z; omega
          have hRl : R.length ≤ 100 := by rw [hR, List.length_drop]; omega
          have hid := ix_D hm
          have hsl : pySl (.lst (intsD P)) (some (ix P (t : Int) : Int)) none = some (.lst (intsD R)) := by rw [hR]; exact slD
          rw [← hR] at hg
          have m1 := mn_D hRn
          have m2 := ix_D (mn_some hRn).2.1
          have s1 : pySl (.lst (intsD R)) (some (ix R (mn R) : Int)) none = some (.lst (intsD (R.drop (ix R (mn R))))) := slD
          have s2 : pySl (.lst (intsD R)) none (some (ix R (mn R) : Int)) = some (.lst (intsD (R.take (ix R (mn R))))) := slT
          have hr : (R.drop (ix R (mn R))).length + (R.take (ix R (mn R))).length ≤ 16777216 := by rw [rot_len]; omega
          have hr' : (intsD (R.drop (ix R (mn R)))).length + (intsD (R.take (ix R (mn R)))).length ≤ 16777216 := by rw [intsD_len, intsD_len]; exact hr
          obtain ⟨A, hA⟩ : ∃ A, A = intsD (R.drop (ix R (mn R))) := ⟨_, rfl⟩
          obtain ⟨B, hB⟩ : ∃ B, B = intsD (R.take (ix R (mn R))) := ⟨_, rfl⟩
          have hAB : A ++ B = intsD (rot R) := by rw [hA, hB]; exact rot_D
          rw [← hA] at s1 hr'
          rw [← hB] at s2 hr'
          have inn : pyIn (.int t) (.lst (intsD P)) = some (.bl true) := by rw [in_intsL]; simp [hm]
          obtain ⟨PL, hPL⟩ : ∃ PL, PL = D.lst (intsD P) := ⟨_, rfl⟩
          obtain ⟨RL, hRL⟩ : ∃ RL, RL = D.lst (intsD R) := ⟨_, rfl⟩
          have pi : PL.isL = true := by rw [hPL]; rfl
          have ri : RL.isL = true := by rw [hRL]; rfl
          rw [← hPL] at inn hid hsl ⊢
          rw [← hRL] at hsl m1 m2 s1 s2
          have rpu : RL.flat = true := by rw [hRL]; simp
          have hG : goW N (9 - i) ps x = D.tup [.str ("round" : Str), .tup (intsD (rot R))] := by rw [hk, goW_int hx, ← hP, if_pos hm, ← hR]; rfl
          have fin : (sIf (bT (mIn (mVar 2) (mVar 3))) (sSeq (sSet 5 (mSl true (mVar 3) (pYes (mIndex (mVar 3) (mVar 2))) pNo)) (sSeq (sSet 6 (mIndex (mVar 5) (mArg false gMin (aCons (mVar 5) aNil)))) (sRet (mTup false (aCons (mC (.str ("round" : Str))) (aCons (mArg false gTup (aCons (mAdd false (mSl false (mVar 5) (pYes (mVar 6)) pNo) (mSl false (mVar 5) pNo (pYes (mVar 6)))) aNil)) aNil)))))) sNil) [some L, some (.int a), some (.int t), some PL, some (.int (i : Int)), none, none] = .rt (fateW N a) [some L, some (.int a), some (.int t), some PL, some (.int (i : Int)), some RL, some (.int (ix R (mn R) : Nat))] := by
            rw [← hg]
            unfold rnd
            simp [inn, pi, hid, hsl, rpu, ri, m1, m2, s1, s2, hr', hAB, gtup_l]
          rw [fin]
          exact ⟨_, _, _, _, _, rfl⟩
        · rw [if_neg hm] at hg
          have inn : pyIn (.int t) (.lst (intsD P)) = some (.bl false) := by rw [in_intsL]; simp [hm]
          refine lp_of (e := [some L, some (.int a), some (.int t), some (.lst (intsD P)), some (.int (i : Int)), none, none]) (by simp [inn]) ⟨P, t, _, rfl, ?_, hPl, ?_⟩
          · exact hw.add hm ht
          · have : 9 - (i + 1) = k := by omega
            rw [this]
            exact hg
    · exfalso
      have := hw.le
      have := hN.h8
      rw [rngL_len] at hl
      rw [List.length_append, List.length_singleton] at *
      omega
  obtain ⟨e3, e4, e5, e6, e7, lp⟩ := lp
  have rg : rngL 0 (9 : Int).toNat = rngL 0 9 := rfl
  rw [← hb]
  rw [intsD_nil] at lp ⊢
  simp [hk, rg, lp]
theorem isi_s {s : Str} : gIsiO oc [.str s, .ty "str"] = some (.bl true) := rfl
theorem sk_round : PyData.strOk ("round" : Str) = true := by decide +kernel
theorem r_ne_h : (("round" : Str) == ("here" : Str)) = false := by decide +kernel
theorem h_ne_r : (("here" : Str) == ("round" : Str)) = false := by decide +kernel
theorem d_ne_r : (("drop" : Str) == ("round" : Str)) = false := by decide +kernel
theorem follow_ok {n : Nat} {N : List D} (hN : NOk n N) {a : Int} (h0 : 0 ≤ a) (h1 : a < n) : f_follow [.lst N, .int a] = .ok (fateW N a) [.lst N, .int a] := by
  obtain ⟨L, hL⟩ : ∃ L, L = D.lst N := ⟨_, rfl⟩
  have e0 : ([L, D.int a].map some ++ List.replicate (4 - [L, D.int a].length) none : En) = [some L, some (.int a), none, none] := rfl
  rw [← hL]
  simp only [f_follow, e_fnM, m_follow]
  rw [e0]
  rw [seq_nx (e1 := [some L, some (.int a), some (.lst (intsD [a])), none]) (by simp)]
  obtain ⟨b, hb⟩ : ∃ b, b = (sSeq (sSet 3 (mIdx (mVar 0) (mIdx (mVar 2) (mNeg (mC (.int 1))))))
    (sSeq (sIf (bOr (bT (mEq (mVar 3) (mC (.str ("here" : Str))))) (bT (mEq (mVar 3) (mC (.str ("drop" : Str))))))
    (sRet (mTup false (aCons (mVar 3) (aCons (mP (mIdx (mVar 2) (mNeg (mC (.int 1))))) (aCons (mSub (mArg false gLnA (aCons (mVar 2) aNil)) (mC (.int 1))) aNil)))))
    sNil)
    (sSeq (sIf (bT (mIn (mVar 3) (mVar 2)))
    (sRet (mTup false (aCons (mC (.str ("round" : Str))) (aCons (mCall [.s] .s false f_turned [.val (mSl true (mVar 2) (pYes (mIndex (mVar 2) (mVar 3))) pNo)]) aNil))))
    sNil)
    (sEx (mMut D.isL 2 gAppend (pVar 2) (aCons (mP (mVar 3)) aNil)))))) := ⟨_, rfl⟩
  have lp : ∃ e3 e4, whN (bT (mC (.bl true))) b 200 [some L, some (.int a), some (.lst (intsD [a])), none] = .rt (fateW N a) [some L, some (.int a), e3, e4] := by
    refine whN_rule (fun k e => ∃ (ps : List Int) (x : Int) (o3 : Option D), e = [some L, some (.int a), some (.lst (intsD (ps ++ [x]))), o3] ∧ Way n (ps ++ [x]) ∧ k + ps.length = 200 ∧ goW N (9 - ps.length) ps x = fateW N a)
      (fun r => ∃ e3 e4, r = .rt (fateW N a) [some L, some (.int a), e3, e4]) (fun e ⟨ps, x, o3, _, hw, hl, _⟩ => ?_) (fun k e ⟨ps, x, o3, he, hw, hl, hg⟩ => ?_) 200 _ ⟨[], a, none, rfl, Way.one h0 h1, rfl, rfl⟩
    · have := hw.le
      have := hN.h8
      rw [List.length_append, List.length_singleton] at *
      omega
    · subst he
      have hle := hw.le
      have hn8 := hN.h8
      rw [List.length_append, List.length_singleton] at hle
      refine ⟨true, _, rfl, fun z => (by cases z), fun _ => ?_⟩
      obtain ⟨kk, hk⟩ : ∃ kk, 9 - ps.length = kk + 1 := ⟨8 - ps.length, by omega⟩
      rw [hk] at hg
      obtain ⟨x0, x1⟩ := hw.2 x (by simp)
      obtain ⟨_, hx⟩ := hN.at_ x0 x1
      have lk := lookN hN hL x0 x1
      obtain ⟨P, hP⟩ : ∃ P, P = ps ++ [x] := ⟨_, rfl⟩
      have hla : pyIdx (.lst (intsD P)) (.int (-1)) = some (.int x) := by
        have e1 : intsD P = intsD ps ++ [D.int x] := by rw [hP, intsD_app]; rfl
        rw [e1]
        exact atI_last
      have hPl : P.length = ps.length + 1 := by rw [hP, List.length_append]; rfl
      have hlen : gLnA [.lst (intsD P)] = some (.int (P.length : Nat)) := by simp
      obtain ⟨PL, hPL⟩ : ∃ PL, PL = D.lst (intsD P) := ⟨_, rfl⟩
      rw [← hP] at hw ⊢
      rw [← hPL] at hla hlen ⊢
      have pi : PL.isL = true := by rw [hPL]; rfl
      have plm : ((P.length : Nat) : Int) - 1 = (ps.length : Int) := by omega
      have cs : ∀ s : Str, nxt N x = .str s → (s = ("here" : Str) ∨ s = ("drop" : Str)) → ∃ e3 e4, b [some L, some (.int a), some PL, o3] = .rt (fateW N a) [some L, some (.int a), e3, e4] := fun s hs ho => by
        rw [goW_str hs] at hg
        rw [hs] at lk
        refine ⟨some PL, some (.str s), ?_⟩
        rw [hb]
        rw [← hg]
        rcases ho with rfl | rfl
        · simp [lk, hla, sk_here, hlen, plm]
        · simp [lk, hla, sk_here, sk_drop, dh_ne, hlen, plm]
      have cs' : ∀ s : Str, nxt N x = .str s → (s = ("here" : Str) ∨ s = ("drop" : Str)) → Sr.lp (fun e => ∃ (ps : List Int) (x : Int) (o3 : Option D), e = [some L, some (.int a), some (.lst (intsD (ps ++ [x]))), o3] ∧ Way n (ps ++ [x]) ∧ k + ps.length = 200 ∧ goW N (9 - ps.length) ps x = fateW N a) (fun r => ∃ e3 e4, r = .rt (fateW N a) [some L, some (.int a), e3, e4]) (b [some L, some (.int a), some PL, o3]) := fun s hs ho => by
        obtain ⟨e3, e4, hh⟩ := cs s hs ho
        rw [hh]
        exact ⟨e3, e4, rfl⟩
      rcases hx with hx | hx | ⟨t, hx, ht⟩
      · exact cs' _ hx (.inl rfl)
      · exact cs' _ hx (.inr rfl)
      · rw [goW_int hx, ← hP] at hg
        rw [hx] at lk
        have st : ∀ s : SM, sSeq (sSet 3 (mIdx (mVar 0) (mIdx (mVar 2) (mNeg (mC (.int 1)))))) (sSeq (sIf (bOr (bT (mEq (mVar 3) (mC (.str ("here" : Str))))) (bT (mEq (mVar 3) (mC (.str ("drop" : Str)))))) (sRet (mTup false (aCons (mVar 3) (aCons (mP (mIdx (mVar 2) (mNeg (mC (.int 1))))) (aCons (mSub (mArg false gLnA (aCons (mVar 2) aNil)) (mC (.int 1))) aNil))))) sNil) s) [some L, some (.int a), some PL, o3] = s [some L, some (.int a), some PL, some (.int t)] := fun s => by
          rw [seq_nx (e1 := [some L, some (.int a), some PL, some (.int t)]) (by simp [lk, hla])]
          rw [seq_nx (e1 := [some L, some (.int a), some PL, some (.int t)]) (by simp [sk_here, sk_drop])]
        rw [hb, st]
        by_cases hm : (t : Int) ∈ P
        · rw [if_pos hm] at hg
          obtain ⟨R, hR⟩ : ∃ R, R = P.drop (ix P (t : Int)) := ⟨_, rfl⟩
          have hix := (ix_some hm).2
          have hRn : R ≠ [] := fun z => by rw [hR, List.drop_eq_nil_iff] at z; omega
          have hRl : R.length ≤ 100 := by rw [hR, List.length_drop]; omega
          have hid := ix_D hm
          have hsl : pySl (.lst (intsD P)) (some (ix P (t : Int) : Int)) none = some (.lst (intsD R)) := by rw [hR]; exact slD
          rw [← hR] at hg
          have tu := turned_ok hRn hRl
          have inn : pyIn (.int t) (.lst (intsD P)) = some (.bl true) := by rw [in_intsL]; simp [hm]
          obtain ⟨RL, hRL⟩ : ∃ RL, RL = D.lst (intsD R) := ⟨_, rfl⟩
          rw [← hPL] at inn hid hsl
          rw [← hRL] at hsl tu
          have rpu : RL.flat = true := by rw [hRL]; simp
          have go : sSeq (sIf (bT (mIn (mVar 3) (mVar 2))) (sRet (mTup false (aCons (mC (.str ("round" : Str))) (aCons (mCall [.s] .s false f_turned [.val (mSl true (mVar 2) (pYes (mIndex (mVar 2) (mVar 3))) pNo)]) aNil)))) sNil) (sEx (mMut D.isL 2 gAppend (pVar 2) (aCons (mP (mVar 3)) aNil))) [some L, some (.int a), some PL, some (.int t)] = .rt (fateW N a) [some L, some (.int a), some PL, some (.int t)] := by
            rw [← hg]
            unfold rnd
            simp [inn, pi, hid, hsl, rpu, tu]
          rw [go]
          exact ⟨_, _, rfl⟩
        · rw [if_neg hm] at hg
          have inn : pyIn (.int t) (.lst (intsD P)) = some (.bl false) := by rw [in_intsL]; simp [hm]
          have hap : intsD P ++ [D.int t] = intsD (P ++ [(t : Int)]) := by rw [intsD_app]; rfl
          have hlt : P.length < 16777216 := by omega
          rw [hPL]
          refine lp_of (e := [some L, some (.int a), some (.lst (intsD (P ++ [(t : Int)]))), some (.int t)]) (by simp [inn, hlt, hap]) ⟨P, t, _, rfl, hw.add hm ht, by omega, ?_⟩
          have : 9 - P.length = kk := by omega
          rw [this]
          exact hg
  obtain ⟨e3, e4, lp⟩ := lp
  rw [← hb, e_sWhile, lp]
  simp
end Zk89
namespace Zk89
open PySem VS
theorem is_router_ok {n : Nat} {a : Int} (h0 : 0 ≤ a) (h1 : a < n) : f_is_router [.int n, .int a] = .ok (.bl true) [.int n, .int a] := by
  simp [f_is_router, e_fnM, m_is_router, is_integer_int, h0, h1]
theorem check_router_ok {n : Nat} {a : Int} (h0 : 0 ≤ a) (h1 : a < n) : f_check_router [.int n, .int a] = .ok .non [.int n, .int a] := by
  simp [f_check_router, e_fnM, m_check_router, is_router_ok h0 h1]
theorem fldF_s {Rs : List Es} : pyFld tb ("size" : Str) (objF Rs) = some (.int (Rs.length : Nat)) := by
  simp only [pyFld, objF, tb_s]
  rfl
theorem fldF_t {Rs : List Es} : pyFld tb ("tables" : Str) (objF Rs) = some (.tup (tabsD Rs)) := by
  simp only [pyFld, objF, tb_ts]
  simp [List.lookup, ts_ne]
/-- the nexts of an address -/
def nexts (Rs : List Es) (a : Str) : List D := Rs.map fun es => (lngE a (.str ("drop" : Str), -1) es).1
theorem lng_nxs {n : Nat} {es : Es} (h : ∀ e ∈ es, NxS n e.2) {a : Str} : NxS n (lngE a (.str ("drop" : Str), -1) es).1 := by
  rcases lng_spec (a := a) (es := es) (f := (.str ("drop" : Str), -1)) with ⟨g1, _⟩ | ⟨x, g1, _, g3, _⟩
  · rw [g1]; exact .inr (.inl rfl)
  · rw [g3]; exact h x g1
theorem nexts_ok {n : Nat} {Rs : List Es} (hR : RowsOk n Rs) (hn : n ≤ 8) {a : Str} : NOk n (nexts Rs a) := by
  refine ⟨by unfold nexts; rw [List.length_map, hR.len], fun d hd => ?_, hn⟩
  obtain ⟨es, h1, rfl⟩ := List.mem_map.mp hd
  exact lng_nxs (hR.val es h1).2.2
theorem fate_ok {n : Nat} {Rs : List Es} (hR : RowsOk n Rs) (hn : n ≤ 8) {s : Str} (hs : Addr10 s) {a : Int} (h0 : 0 ≤ a) (h1 : a < n) : f_fate [objF Rs, .int a, .str s] = .ok (fateW (nexts Rs s) a) [objF Rs, .int a, .str s] := by
  have f1 := fldF_s (Rs := Rs)
  have f2 := fldF_t (Rs := Rs)
  rw [hR.len] at f1
  obtain ⟨F, hF⟩ : ∃ F, F = objF Rs := ⟨_, rfl⟩
  rw [← hF] at f1 f2 ⊢
  obtain ⟨acc, e', l1, l2, l3⟩ := lcL_rule (vs := [3]) (f := gSet 3) (t := bYes) (m := mCall [.s, .s] .s false f_Table__onward [.val (mObj ("Table" : Str) ("onward" : Str) (mVar 3)), .val (mVar 2)])
    (fun i acc e => ∃ o, e = [some F, some (.int a), some (.str s), o] ∧ acc = (nexts Rs s).take i)
    (fun acc e => e = [some F, some (.int a), some (.str s), none] ∧ acc = nexts Rs s) (tabsD Rs) [] 0 [some F, some (.int a), some (.str s), none] ⟨none, rfl, rfl⟩
    (fun i d acc e hd ⟨o, he, h1⟩ => by
      subst he
      unfold tabsD at hd
      rw [List.getElem?_map] at hd
      cases hx : Rs[i]? with
      | none => rw [hx] at hd; cases hd
      | some es =>
        rw [hx] at hd
        cases hd
        have hv := (hR.val es (List.mem_of_getElem? hx)).1
        have on := onward_ok (ts := tabS es) hs
        rw [onward_eq hv] at on
        have hi := isT (ts := tabS es)
        have hlt := (List.getElem?_eq_some_iff.mp hx).1
        rw [hR.len] at hlt
        obtain ⟨T, hT⟩ : ∃ T, T = objT (tabS es) := ⟨_, rfl⟩
        rw [← hT] at on hi
        rw [Nat.zero_add] at h1 ⊢
        refine ⟨[some F, some (.int a), some (.str s), some T], by rw [hT]; rfl, true, _, rfl, fun z => (by cases z), fun _ => ⟨by rw [h1, List.length_take, LIM_val]; omega, (lngE s (.str ("drop" : Str), -1) es).1, [some F, some (.int a), some (.str s), some T], by simp [hi, on], _, rfl, ?_⟩⟩
        rw [h1, List.take_succ]
        unfold nexts
        rw [List.getElem?_map, hx]
        rfl)
    (fun acc e ⟨o, he, h1⟩ => by
      subst he
      refine ⟨rfl, ?_⟩
      rw [h1, Nat.zero_add]
      unfold nexts tabsD
      rw [List.length_map, ← List.length_map (f := fun es : Es => (lngE s (.str ("drop" : Str), -1) es).1), List.take_length])
  subst l2
  subst l3
  have fo := follow_ok (nexts_ok hR hn (a := s)) h0 h1
  have e0 : ([F, D.int a, D.str s].map some ++ List.replicate (4 - [F, D.int a, D.str s].length) none : En) = [some F, some (.int a), some (.str s), none] := rfl
  simp only [f_fate, e_fnM, m_fate]
  rw [e0]
  rw [seq_nx (e1 := [some F, some (.int a), some (.str s), none]) (by simp [f1, check_router_ok h0 h1])]
  rw [seq_nx (e1 := [some F, some (.int a), some (.str s), none]) (by simp [check_ok hs])]
  simp [f2, l1, nox_ok, fo]
theorem eqvL_ints : ∀ {l : List Int}, eqvL (intsD l) (intsD l) = true
  | [] => rfl
  | i :: r => by simp [eqvL, D.eqv, eqvL_ints (l := r)]
theorem rot_ne {l : List Int} (h : l ≠ []) : rot l ≠ [] := fun z => by
  have := rot_len (l := l)
  have e : (rot l).length = l.length := by unfold rot; rw [List.length_append]; exact this
  rw [z] at e
  exact h (List.eq_nil_of_length_eq_zero e.symm)
theorem eq_tup3 {s : Str} {a k : Int} (ok : PyData.strOk s = true) : pyEq (.tup [.str s, .int a, .int k]) (.tup [.str s, .int a, .int k]) = some (.bl true) := by
  simp [pyEq, D.dat, D.dep, D.eqv, datL, depL, eqvL, ok]
theorem eq_rnd {l : List Int} : pyEq (rnd l) (rnd l) = some (.bl true) := by
  unfold rnd
  simp [pyEq, D.dat, D.dep, D.eqv, datL, depL, eqvL, sk_round, intsD_dat, intsD_dep, eqvL_ints]
theorem Fate.eq {d : D} (h : Fate d) : pyEq d d = some (.bl true) := by
  rcases h with ⟨s, a, k, rfl, h⟩ | ⟨l, rfl, _⟩
  · rcases h with rfl | rfl
    · exact eq_tup3 sk_here
    · exact eq_tup3 sk_drop
  · exact eq_rnd
theorem Fate.ne {d : D} (h : Fate d) : pyNe d d = some (.bl false) := by
  have := h.eq
  unfold pyEq at this
  unfold pyNe
  split at this
  · rename_i hc
    rw [if_pos hc]
    have h2 : d.eqv d = true := by injection this with t1; injection t1
    rw [h2]
    rfl
  · cases this
theorem told_ok {d : D} (h : Fate d) : f__law_told [d, d] = .ok (.bl true) [d, d] := by
  have he := h.eq
  have e0 : ([d, d].map some ++ List.replicate (4 - [d, d].length) none : En) = [some d, some d, none, none] := rfl
  rcases h with ⟨s, a, k, hd, h⟩ | ⟨l, hd, hl⟩
  · have g1 : gIsiO oc [d, .ty "tuple"] = some (.bl true) := by rw [hd]; rfl
    have g2 : gLnA [d] = some (.int 3) := by rw [hd]; rfl
    have g3 : pyIdx d (.int 0) = some (.str s) := by rw [hd]; rfl
    have g4 : pySl d (some 1) none = some (.tup [.int a, .int k]) := by rw [hd]; rfl
    have g5 : gIsiO oc [.tup [.int a, .int k], .ty "tuple"] = some (.bl true) := rfl
    have g6 : pyEq (.str s) (.str ("round" : Str)) = some (.bl false) := by
      rcases h with rfl | rfl
      · rw [p_eqS sk_here sk_round, h_ne_r]
      · rw [p_eqS sk_drop sk_round, d_ne_r]
    have i1 : ∀ i : Int, gIsiO oc [.int i, .ty "int"] = some (.bl true) := fun i => rfl
    have i2 : ∀ i : Int, gIsiO oc [.int i, .ty "bool"] = some (.bl false) := fun i => rfl
    simp only [f__law_told, e_fnM, m__law_told]
    rw [e0]
    rw [seq_nx (e1 := [some d, some d, none, none]) (by simp [g1, g2, g3, isi_s])]
    rw [seq_nx (e1 := [some d, some d, some (.tup [.int a, .int k]), none]) (by simp [g4])]
    rw [seq_nx (e1 := [some d, some d, some (.tup [.int a, .int k]), none]) (by simp [g3, g6])]
    rw [seq_nx (e1 := [some d, some d, some (.tup [.int a, .int k]), none]) (by simp [g5])]
    rw [seq_nx (e1 := [some d, some d, some (.tup [.int a, .int k]), some (.int k)]) (by simp [forL, i1, i2])]
    simp [he]
  · have g1 : gIsiO oc [d, .ty "tuple"] = some (.bl true) := by rw [hd]; rfl
    have g2 : gLnA [d] = some (.int 2) := by rw [hd]; rfl
    have g3 : pyIdx d (.int 0) = some (.str ("round" : Str)) := by rw [hd]; rfl
    have g3' : pyIdx d (.int 1) = some (.tup (intsD (rot l))) := by rw [hd]; rfl
    have g4 : pySl d (some 1) none = some (.tup [.tup (intsD (rot l))]) := by rw [hd]; rfl
    have g5 : gIsiO oc [.tup (intsD (rot l)), .ty "tuple"] = some (.bl true) := rfl
    have g6 : pyEq (.str ("round" : Str)) (.str ("round" : Str)) = some (.bl true) := by rw [p_eqS sk_round sk_round, beq_self_eq_true]
    have i1 : ∀ i : Int, gIsiO oc [.int i, .ty "int"] = some (.bl true) := fun i => rfl
    have i2 : ∀ i : Int, gIsiO oc [.int i, .ty "bool"] = some (.bl false) := fun i => rfl
    obtain ⟨Q, hQ⟩ : ∃ Q, Q = D.tup (intsD (rot l)) := ⟨_, rfl⟩
    have io : ∀ e : En, itemsOf Q e = .ok (intsD (rot l)) e := fun e => by rw [hQ]; rfl
    rw [← hQ] at g3' g4 g5
    obtain ⟨o, lp⟩ : ∃ o, forL (gSet 3) (sIf (bOr (bNot (bT (mArg false (gIsiO oc) (aCons (mVar 3) (aCons (mC (.ty "int")) aNil))))) (bT (mArg false (gIsiO oc) (aCons (mVar 3) (aCons (mC (.ty "bool")) aNil))))) (sRet (mC (.bl false))) sNil) (intsD (rot l)) [some d, some d, some Q, none] = .nx [some d, some d, some Q, o] := by
      refine forL_rule (fun i e => ∃ o, e = [some d, some d, some Q, o]) (fun r => ∃ o, r = .nx [some d, some d, some Q, o]) _ 0 _ ⟨none, rfl⟩ (fun i x e hx ⟨o, he⟩ => ?_) (fun e ⟨o, he⟩ => ⟨o, by rw [he]⟩)
      subst he
      have := List.mem_of_getElem? hx
      unfold intsD at this
      obtain ⟨j, _, rfl⟩ := List.mem_map.mp this
      exact ⟨[some d, some d, some Q, some (.int j)], rfl, lp_of (e := [some d, some d, some Q, some (.int j)]) (by simp [i1, i2]) ⟨_, rfl⟩⟩
    simp only [f__law_told, e_fnM, m__law_told]
    rw [e0]
    rw [seq_nx (e1 := [some d, some d, none, none]) (by simp [g1, g2, g3, isi_s])]
    rw [seq_nx (e1 := [some d, some d, some (.tup [Q]), none]) (by simp [g4])]
    rw [seq_nx (e1 := [some d, some d, some Q, none]) (by simp [g3, g6, g3'])]
    rw [seq_nx (e1 := [some d, some d, some Q, none]) (by simp [g5])]
    rw [seq_nx (e1 := [some d, some d, some Q, o]) (by simp only [e_sFor, e_iVal, e_mVar, List.getElem?_cons_succ, List.getElem?_cons_zero, Rt.bind_ok, io, Rt.st_ok, e_sFor2, lp])]
    simp [he]
theorem behind_ok {n : Nat} {Rs : List Es} (hR : RowsOk n Rs) (hn : n ≤ 8) {s : Str} (hs : Addr10 s) {a : Int} (h0 : 0 ≤ a) (h1 : a < n) :
    f__law_behind [objF Rs, .lst (nexts Rs s), .int a, .str s, fateW (nexts Rs s) a] = .ok (.bl true) [objF Rs, .lst (nexts Rs s), .int a, .str s, fateW (nexts Rs s) a] := by
  have hN := nexts_ok hR hn (a := s)
  obtain ⟨N, hNN⟩ : ∃ N, N = nexts Rs s := ⟨_, rfl⟩
  have hf : ∀ t : Int, 0 ≤ t → t < n → f_fate [objF Rs, .int t, .str s] = .ok (fateW N t) [objF Rs, .int t, .str s] := fun t t0 t1 => by rw [hNN]; exact fate_ok hR hn hs t0 t1
  rw [← hNN] at hN ⊢
  obtain ⟨F, hF⟩ : ∃ F, F = objF Rs := ⟨_, rfl⟩
  rw [← hF] at hf ⊢
  obtain ⟨L, hL⟩ : ∃ L, L = D.lst N := ⟨_, rfl⟩
  obtain ⟨_, hx⟩ := hN.at_ h0 h1
  have lk := lookN hN hL h0 h1
  rw [← hL]
  obtain ⟨d, hd⟩ : ∃ d, d = fateW N a := ⟨_, rfl⟩
  rw [← hd]
  have e0 : ([F, L, D.int a, D.str s, d].map some ++ List.replicate (7 - [F, L, D.int a, D.str s, d].length) none : En) = [some F, some L, some (.int a), some (.str s), some d, none, none] := rfl
  simp only [f__law_behind, e_fnM, m__law_behind]
  rw [e0]
  have cs : ∀ z : Str, nxt N a = .str z → (z = ("here" : Str) ∨ z = ("drop" : Str)) → pyEq d (.tup [.str z, .int a, .int 0]) = some (.bl true) := fun z hz ho => by
    rw [hd, fate_str hz]
    rcases ho with rfl | rfl
    · exact eq_tup3 sk_here
    · exact eq_tup3 sk_drop
  rcases hx with hx | hx | ⟨t, hx, ht⟩
  · have := cs _ hx (.inl rfl)
    rw [hx] at lk
    rw [seq_nx (e1 := [some F, some L, some (.int a), some (.str s), some d, some (.str ("here" : Str)), none]) (by simp [lk])]
    simp [isi_s, this]
  · have := cs _ hx (.inr rfl)
    rw [hx] at lk
    rw [seq_nx (e1 := [some F, some L, some (.int a), some (.str s), some d, some (.str ("drop" : Str)), none]) (by simp [lk])]
    simp [isi_s, this]
  · rw [hx] at lk
    have fl := fate_less hN h0 h1 hx ht
    have ft := hf t (by omega) (by omega)
    rw [← hd] at fl
    obtain ⟨d2, hd2⟩ : ∃ d2, d2 = fateW N t := ⟨_, rfl⟩
    rw [← hd2] at fl ft
    rw [seq_nx (e1 := [some F, some L, some (.int a), some (.str s), some d, some (.int t), none]) (by simp [lk])]
    rw [seq_nx (e1 := [some F, some L, some (.int a), some (.str s), some d, some (.int t), none]) (by simp [isi_int])]
    rw [seq_nx (e1 := [some F, some L, some (.int a), some (.str s), some d, some (.int t), some d2]) (by simp [ft])]
    rcases fl with ⟨z, r, m, z1, z2, z3⟩ | ⟨z1, l, z2, z3⟩
    · have g0 : pyIdx d (.int 0) = some (.str z) := by rw [z1]; rfl
      have g1 : pyIdx d (.int 1) = some (.int r) := by rw [z1]; rfl
      have g2 : pyIdx d (.int 2) = some (.int m) := by rw [z1]; rfl
      have g6 : pyEq (.str z) (.str ("round" : Str)) = some (.bl false) := by
        rcases z3 with rfl | rfl
        · rw [p_eqS sk_here sk_round, h_ne_r]
        · rw [p_eqS sk_drop sk_round, d_ne_r]
      have he : pyEq d2 (.tup [.str z, .int r, .int (m - 1)]) = some (.bl true) := by
        rw [z2]
        rcases z3 with rfl | rfl
        · exact eq_tup3 sk_here
        · exact eq_tup3 sk_drop
      simp [g0, g1, g2, g6, he]
    · have g0 : pyIdx d (.int 0) = some (.str ("round" : Str)) := by rw [z2]; rfl
      have g6 : pyEq (.str ("round" : Str)) (.str ("round" : Str)) = some (.bl true) := by rw [p_eqS sk_round sk_round, beq_self_eq_true]
      have he : pyEq d2 d = some (.bl true) := by rw [← z1, z2]; exact eq_rnd
      simp [g0, g6, he]
end Zk89
namespace Zk89
open PySem VS
theorem tabS_keys {es : Es} : (tabS es).map (·.1) = srtS (es.map (·.1)) := by
  unfold tabS
  rw [List.map_map]
  exact List.map_id' _
theorem val_tabS {es : Es} (hv : Val es) : Val (tabS es) := by
  refine ⟨?_, fun e he => hv.2 e (tabS_mem he)⟩
  rw [tabS_keys]
  exact srtS_perm.nodup_iff.mpr hv.1
theorem srtS_srtS {l : List Str} : srtS (srtS l) = srtS l := List.mergeSort_of_pairwise srtS_pw
theorem tabS_tabS {es : Es} (hv : Val es) : tabS (tabS es) = tabS es := by
  have h1 : tabS (tabS es) = (srtS (es.map (·.1))).map fun k => (k, getE (tabS es) k) := by
    rw [tabS, tabS_keys, srtS_srtS]
  rw [h1]
  conv => rhs; unfold tabS
  refine List.map_congr_left fun k hk => ?_
  have km : k ∈ es.map (·.1) := srtS_mem.mp hk
  have kt : k ∈ (tabS es).map (·.1) := by rw [tabS_keys]; exact hk
  exact key_one hv.1 (tabS_mem (getE_mem kt)) (getE_mem km) rfl
theorem tabS_len {es : Es} : (tabS es).length = es.length := by
  unfold tabS
  rw [List.length_map, srtS_perm.length_eq, List.length_map]
/-- a row made of the drawn rows -/
theorem comp_rows {Rs : List Es} {m : EM} {E : Option D → En} {g : Es → D} (hl : Rs.length ≤ 8) (hE : ∀ o d, gSet 12 d (dropV (E o) [12]) = some (E (some d))) (hD : ∀ o, dropV (E o) [12] = E none)
    (hm : ∀ es ∈ Rs, m (E (some (.lst (pairsE es)))) = .ok (g es) (E (some (.lst (pairsE es))))) : lcL [12] (gSet 12) bYes m (rowsD Rs) [] (E none) = .ok (.lst (Rs.map g)) (E none) := by
  obtain ⟨acc, e', l1, l2, l3⟩ := lcL_rule (vs := [12]) (f := gSet 12) (t := bYes) (m := m)
    (fun i acc e => ∃ o, e = E o ∧ acc = (Rs.map g).take i)
    (fun acc e => e = E none ∧ acc = Rs.map g) (rowsD Rs) [] 0 (E none) ⟨none, rfl, rfl⟩
    (fun i d acc e hd ⟨o, he, h1⟩ => by
      subst he
      unfold rowsD at hd
      rw [List.getElem?_map] at hd
      cases hx : Rs[i]? with
      | none => rw [hx] at hd; cases hd
      | some es =>
        rw [hx] at hd
        cases hd
        have hlt := (List.getElem?_eq_some_iff.mp hx).1
        rw [Nat.zero_add] at h1 ⊢
        refine ⟨E (some (.lst (pairsE es))), hE o _, true, _, rfl, fun z => (by cases z), fun _ => ⟨by rw [h1, List.length_take, LIM_val]; omega, g es, _, hm es (List.mem_of_getElem? hx), _, rfl, ?_⟩⟩
        rw [h1, List.take_succ, List.getElem?_map, hx]
        rfl)
    (fun acc e ⟨o, he, h1⟩ => by
      subst he
      refine ⟨hD o, ?_⟩
      rw [h1, Nat.zero_add]
      unfold rowsD
      rw [List.length_map, ← List.length_map (f := g), List.take_length])
  rw [l1, l2, l3]
theorem plain : ∀ ns : List Int, ns.length ≤ 63 → ∃ ds, f_law [.scr ns] = .ok (.bl true) ds := by
  intro ns hns
  obtain ⟨p0, w0, q0⟩ := pool_ok hns
  obtain ⟨k1, p1, w1, k10, k11, q1⟩ := draw_ok q0 (n := 8) (by decide) (by decide)
  obtain ⟨n, hn⟩ : ∃ n : Nat, 1 + k1 = (n : Int) := ⟨(1 + k1).toNat, by omega⟩
  have n1 : 1 ≤ n := by omega
  have n8 : n ≤ 8 := by omega
  obtain ⟨Rs, p2, w2, hR, q2⟩ := rows_ok q1 n1 n8
  obtain ⟨R, hRR⟩ : ∃ R, R = D.lst (rowsD Rs) := ⟨_, rfl⟩
  have io : ∀ e : En, itemsOf R e = .ok (rowsD Rs) e := fun e => by rw [hRR]; rfl
  rw [← hRR] at w2
  have fo := field_ok hR n1 n8
  -- the tables
  have c1 : lcL [12] (gSet 12) bYes (mMake "Table" [.s] f_Table__init [.val (mArg false gListA (aCons (mVar 12) aNil))]) (rowsD Rs) [] [some (.scr ns), some p2, some (.int n), some R, none, none, none, none, none, none, none, none, none] = .ok (.lst (tabsD Rs)) [some (.scr ns), some p2, some (.int n), some R, none, none, none, none, none, none, none, none, none] :=
    comp_rows (E := fun o => [some (.scr ns), some p2, some (.int n), some R, none, none, none, none, none, none, none, none, o]) (g := fun es => objT (tabS es)) (by rw [hR.len]; exact n8) (fun o d => rfl) (fun o => rfl) (fun es hes => by
      obtain ⟨hv, hl, _⟩ := hR.val es hes
      have hi := init_ok (rowL (es := es)) hv (by omega)
      have gl : gListA [.lst (pairsE es)] = some (.lst (pairsE es)) := rfl
      obtain ⟨r, hr⟩ : ∃ r, r = D.lst (pairsE es) := ⟨_, rfl⟩
      rw [← hr] at gl hi ⊢
      simp [gl, hi])
  have c2 : ∀ F : D, lcL [12] (gSet 12) bYes (mMake "Table" [.s] f_Table__init [.val (mArg false gTup (aCons (mArg false gSortA (aCons (mVar 12) aNil)) aNil))]) (rowsD Rs) [] [some (.scr ns), some p2, some (.int n), some R, some F, none, none, none, none, none, none, none, none] = .ok (.lst (tabsD Rs)) [some (.scr ns), some p2, some (.int n), some R, some F, none, none, none, none, none, none, none, none] := fun F =>
    comp_rows (E := fun o => [some (.scr ns), some p2, some (.int n), some R, some F, none, none, none, none, none, none, none, o]) (g := fun es => objT (tabS es)) (by rw [hR.len]; exact n8) (fun o d => rfl) (fun o => rfl) (fun es hes => by
      obtain ⟨hv, hl, _⟩ := hR.val es hes
      have hi := init_ok (rowT (es := tabS es)) (val_tabS hv) (by rw [tabS_len]; omega)
      rw [tabS_tabS hv] at hi
      have so := sp_ok hv
      have gt : gTup [.lst (pairsE (tabS es))] = some (.tup (pairsE (tabS es))) := rfl
      have pu := pairs_pure (es := tabS es) fun e he => hv.2 e (tabS_mem he)
      obtain ⟨r, hr⟩ : ∃ r, r = D.lst (pairsE es) := ⟨_, rfl⟩
      rw [← hr] at so ⊢
      simp [so, gt, hi])
  have gt : gTup [.lst (tabsD Rs)] = some (.tup (tabsD Rs)) := rfl
  obtain ⟨F, hF⟩ : ∃ F, F = objF Rs := ⟨_, rfl⟩
  rw [← hF] at fo
  obtain ⟨TL, hTL⟩ : ∃ TL, TL = D.lst (tabsD Rs) := ⟨_, rfl⟩
  obtain ⟨TT, hTT⟩ : ∃ TT, TT = D.tup (tabsD Rs) := ⟨_, rfl⟩
  rw [← hTT] at gt fo
  rw [← hTL] at c1 c2 gt
  obtain ⟨k2, p3, w3, k20, k21, q3⟩ := draw_ok q2 (n := 10) (by decide) (by decide)
  obtain ⟨m, hm⟩ : ∃ m : Nat, 1 + k2 = (m : Int) := ⟨(1 + k2).toNat, by omega⟩
  have km : okR (m : Int) = true := okR_nat (by omega)
  have kn : okR (n : Int) = true := okR_nat (by omega)
  -- the addresses
  obtain ⟨b, hb⟩ : ∃ b, b = (sSeq (sSet 7 (mCall [.fd, .s] .s false f__law_address [.slot 1, .val (mVar 3)]))
    (sSeq (sSet 8 (mLc (iVal (mVar 3)) [12] (gSet 12) bYes (mCall [.s, .s] .s false f__law_longest [.val (mVar 12), .val (mVar 7)])))
    (sFor (iRng1 (aCons (mVar 2) aNil)) (gSet 9)
    (sSeq (sSet 10 (mCall [.s, .s] .s false f__law_due [.val (mVar 8), .val (mVar 9)]))
    (sSeq (sSet 11 (mCall [.s, .s, .s] .s false f_fate [.val (mVar 4), .val (mVar 9), .val (mVar 7)]))
    (sSeq (sIf (bOr (bNot (bT (mCall [.s, .s] .d false f__law_told [.val (mVar 11), .val (mVar 10)]))) (bNot (bT (mCall [.s, .s, .s, .s, .s] .d false f__law_behind [.val (mVar 4), .val (mVar 8), .val (mVar 9), .val (mVar 7), .val (mVar 11)]))))
    (sRet (mC (.bl false)))
    sNil)
    (sIf (bOr (bT (mNe (mCall [.s, .s, .s] .s false f_fate [.val (mVar 5), .val (mVar 9), .val (mVar 7)]) (mVar 10))) (bT (mNe (mCall [.s, .s, .s] .s false f_fate [.val (mVar 4), .val (mVar 9), .val (mVar 7)]) (mVar 10))))
    (sRet (mC (.bl false)))
    sNil))))))) := ⟨_, rfl⟩
  obtain ⟨e9, es9, lp⟩ : ∃ e9, (∃ r9, e9 = some (.scr ns) :: r9) ∧ forL (gSet 6) b (rngL 0 m) [some (.scr ns), some p3, some (.int n), some R, some F, some F, none, none, none, none, none, none, none] = .nx e9 := by
    refine forL_rule (fun i e => ∃ (p : D) (o6 o7 o8 o9 o10 o11 : Option D), Pool p ∧ e = [some (.scr ns), some p, some (.int n), some R, some F, some F, o6, o7, o8, o9, o10, o11, none])
      (fun r => ∃ e9, (∃ r9, e9 = some (.scr ns) :: r9) ∧ r = .nx e9) _ 0 _ ⟨p3, none, none, none, none, none, none, q3, rfl⟩ (fun i d e hd ⟨p, o6, o7, o8, o9, o10, o11, hp, he⟩ => ?_) (fun e ⟨p, o6, o7, o8, o9, o10, o11, hp, he⟩ => ⟨e, ⟨_, he⟩, rfl⟩)
    subst he
    obtain ⟨a, p', wa, ha, hp'⟩ := address_ok hp hR n1 n8
    rw [← hRR] at wa
    refine ⟨[some (.scr ns), some p, some (.int n), some R, some F, some F, some d, o7, o8, o9, o10, o11, none], rfl, ?_⟩
    have c3 : lcL [12] (gSet 12) bYes (mCall [.s, .s] .s false f__law_longest [.val (mVar 12), .val (mVar 7)]) (rowsD Rs) [] [some (.scr ns), some p', some (.int n), some R, some F, some F, some d, some (.str a), o8, o9, o10, o11, none] = .ok (.lst (nexts Rs a)) [some (.scr ns), some p', some (.int n), some R, some F, some F, some d, some (.str a), o8, o9, o10, o11, none] :=
      comp_rows (E := fun o => [some (.scr ns), some p', some (.int n), some R, some F, some F, some d, some (.str a), o8, o9, o10, o11, o]) (g := fun es => (lngE a (.str ("drop" : Str), -1) es).1) (by rw [hR.len]; exact n8) (fun o d => rfl) (fun o => rfl) (fun es hes => by
        have hl := longest_ok (hR.val es hes).1 ha
        obtain ⟨r, hr⟩ : ∃ r, r = D.lst (pairsE es) := ⟨_, rfl⟩
        rw [← hr] at hl ⊢
        simp [hl])
    have hN := nexts_ok hR n8 (a := a)
    have hdue : ∀ t : Int, 0 ≤ t → t < n → f__law_due [.lst (nexts Rs a), .int t] = .ok (fateW (nexts Rs a) t) [.lst (nexts Rs a), .int t] := fun t t0 t1 => due_ok hN t0 t1
    have hfate : ∀ t : Int, 0 ≤ t → t < n → f_fate [F, .int t, .str a] = .ok (fateW (nexts Rs a) t) [F, .int t, .str a] := fun t t0 t1 => by rw [hF]; exact fate_ok hR n8 ha t0 t1
    have hbeh : ∀ t : Int, 0 ≤ t → t < n → f__law_behind [F, .lst (nexts Rs a), .int t, .str a, fateW (nexts Rs a) t] = .ok (.bl true) [F, .lst (nexts Rs a), .int t, .str a, fateW (nexts Rs a) t] := fun t t0 t1 => by rw [hF]; exact behind_ok hR n8 ha t0 t1
    have hfo : ∀ t : Int, 0 ≤ t → t < n → Fate (fateW (nexts Rs a) t) := fun t t0 t1 => fateW_ok hN t0 t1
    obtain ⟨W, hW⟩ : ∃ W, W = fateW (nexts Rs a) := ⟨_, rfl⟩
    rw [← hW] at hdue hfate hbeh hfo
    obtain ⟨NL, hNL⟩ : ∃ NL, NL = D.lst (nexts Rs a) := ⟨_, rfl⟩
    rw [← hNL] at c3 hdue hbeh
    rw [hb]
    rw [seq_nx (e1 := [some (.scr ns), some p', some (.int n), some R, some F, some F, some d, some (.str a), o8, o9, o10, o11, none]) (by simp [wa])]
    rw [seq_nx (e1 := [some (.scr ns), some p', some (.int n), some R, some F, some F, some d, some (.str a), some NL, o9, o10, o11, none]) (by simp only [e_sSet, e_mLc, e_iVal, e_mVar, List.getElem?_cons_succ, List.getElem?_cons_zero, Rt.bind_ok, io, e_mLc2, c3, nox_ok, Rt.st_ok, e_sSet2]; rfl)]
    obtain ⟨b2, hb2⟩ : ∃ b2, b2 = (sSeq (sSet 10 (mCall [.s, .s] .s false f__law_due [.val (mVar 8), .val (mVar 9)]))
      (sSeq (sSet 11 (mCall [.s, .s, .s] .s false f_fate [.val (mVar 4), .val (mVar 9), .val (mVar 7)]))
      (sSeq (sIf (bOr (bNot (bT (mCall [.s, .s] .d false f__law_told [.val (mVar 11), .val (mVar 10)]))) (bNot (bT (mCall [.s, .s, .s, .s, .s] .d false f__law_behind [.val (mVar 4), .val (mVar 8), .val (mVar 9), .val (mVar 7), .val (mVar 11)]))))
      (sRet (mC (.bl false)))
      sNil)
      (sIf (bOr (bT (mNe (mCall [.s, .s, .s] .s false f_fate [.val (mVar 5), .val (mVar 9), .val (mVar 7)]) (mVar 10))) (bT (mNe (mCall [.s, .s, .s] .s false f_fate [.val (mVar 4), .val (mVar 9), .val (mVar 7)]) (mVar 10))))
      (sRet (mC (.bl false)))
      sNil)))) := ⟨_, rfl⟩
    rw [← hb2]
    obtain ⟨x9, x10, x11, lq⟩ : ∃ x9 x10 x11, forL (gSet 9) b2 (rngL 0 n) [some (.scr ns), some p', some (.int n), some R, some F, some F, some d, some (.str a), some NL, o9, o10, o11, none] = .nx [some (.scr ns), some p', some (.int n), some R, some F, some F, some d, some (.str a), some NL, x9, x10, x11, none] := by
      refine forL_rule (fun i e => ∃ x9 x10 x11, e = [some (.scr ns), some p', some (.int n), some R, some F, some F, some d, some (.str a), some NL, x9, x10, x11, none])
        (fun r => ∃ x9 x10 x11, r = .nx [some (.scr ns), some p', some (.int n), some R, some F, some F, some d, some (.str a), some NL, x9, x10, x11, none]) _ 0 _ ⟨o9, o10, o11, rfl⟩ (fun j x e hx ⟨x9, x10, x11, he⟩ => ?_) (fun e ⟨x9, x10, x11, he⟩ => ⟨x9, x10, x11, by rw [he]⟩)
      subst he
      obtain ⟨hj, rfl⟩ := rngL_at hx
      obtain ⟨t, ht⟩ : ∃ t : Int, t = 0 + (j : Int) := ⟨_, rfl⟩
      have t0 : 0 ≤ t := by omega
      have t1 : t < n := by omega
      rw [← ht]
      have u1 := hdue t t0 t1
      have u2 := hfate t t0 t1
      have u3 := told_ok (hfo t t0 t1)
      have u4 := hbeh t t0 t1
      have u5 := (hfo t t0 t1).ne
      obtain ⟨y, hy⟩ : ∃ y, y = W t := ⟨_, rfl⟩
      rw [← hy] at u1 u2 u3 u4 u5
      refine ⟨[some (.scr ns), some p', some (.int n), some R, some F, some F, some d, some (.str a), some NL, some (.int t), x10, x11, none], rfl, lp_of (e := [some (.scr ns), some p', some (.int n), some R, some F, some F, some d, some (.str a), some NL, some (.int t), some y, some y, none]) ?_ ⟨_, _, _, rfl⟩⟩
      rw [hb2]
      rw [seq_nx (e1 := [some (.scr ns), some p', some (.int n), some R, some F, some F, some d, some (.str a), some NL, some (.int t), some y, x11, none]) (by simp [u1])]
      rw [seq_nx (e1 := [some (.scr ns), some p', some (.int n), some R, some F, some F, some d, some (.str a), some NL, some (.int t), some y, some y, none]) (by simp [u2])]
      rw [seq_nx (e1 := [some (.scr ns), some p', some (.int n), some R, some F, some F, some d, some (.str a), some NL, some (.int t), some y, some y, none]) (by simp [u3, u4])]
      simp [u2, u5]
    exact lp_of (e := [some (.scr ns), some p', some (.int n), some R, some F, some F, some d, some (.str a), some NL, x9, x10, x11, none]) (by simp [kn, lq]) ⟨p', _, _, _, _, _, _, hp', rfl⟩
  have e0 : ([D.scr ns].map some ++ List.replicate (13 - [D.scr ns].length) none : En) = [some (.scr ns), none, none, none, none, none, none, none, none, none, none, none, none] := rfl
  simp only [f_law, e_fnM, m_law]
  rw [e0, ← hb]
  rw [seq_nx (e1 := [some (.scr ns), some p0, none, none, none, none, none, none, none, none, none, none, none]) (by simp [w0])]
  rw [seq_nx (e1 := [some (.scr ns), some p1, some (.int n), none, none, none, none, none, none, none, none, none, none]) (by simp [w1, hn])]
  rw [seq_nx (e1 := [some (.scr ns), some p2, some (.int n), some R, none, none, none, none, none, none, none, none, none]) (by simp [w2])]
  rw [seq_nx (e1 := [some (.scr ns), some p2, some (.int n), some R, some F, none, none, none, none, none, none, none, none]) (by simp [io, c1, nox_ok, gt, fo])]
  rw [seq_nx (e1 := [some (.scr ns), some p2, some (.int n), some R, some F, some F, none, none, none, none, none, none, none]) (by simp [io, c2, nox_ok, gt, fo])]
  rw [seq_nx (e1 := e9) (by simp [w3, hm, km, lp])]
  obtain ⟨r9, rfl⟩ := es9
  simp
end Zk89
open PySem PySem.W PyProof.Rows
set_option maxRecDepth 100000 in
set_option maxHeartbeats 0 in
theorem PySem.Challenge.cw_wishreels_k89_fate_step_by_step_holds : PySem.Challenge.rw_wishreels_k89_fate_step_by_step.Holds := by
  w_on; o_law; k_head; (case hw => w_witness2)
  k_fill
  refine VS.law_walk (l := PySem.Challenge.rw_wishreels_k89_fate_step_by_step) (k := 7) (x := "_law_script") rfl rfl ⟨rfl, by decide, by decide⟩ (fun w h Y => PySem.W.kIn_of Y) ?F
  case F =>
    intro w mg fa h KX G hmg
    refine' Zk89.all_mk Zk89.plain KX G hmg ?aC_Table ?pg_Table ?hd_Table ?po_Table ?sa_Table ?mk_Table ?kC_Table ?gc_Table ?mo_Table ?ci_Table ?ti_Table ?s1_Table_NoneType ?s2_Table_NoneType ?s1_Table_bool ?s2_Table_bool ?s1_Table_int ?s2_Table_int ?s1_Table_str ?s2_Table_str ?s1_Table_tuple ?s2_Table_tuple ?s1_Table_list ?s2_Table_list ?s1_Table_dict ?s2_Table_dict ?no_Table_entries ?aC_Field ?pg_Field ?hd_Field ?po_Field ?sa_Field ?mk_Field ?kC_Field ?gc_Field ?mo_Field ?ci_Field ?ti_Field ?s1_Field_NoneType ?s2_Field_NoneType ?s1_Field_bool ?s2_Field_bool ?s1_Field_int ?s2_Field_int ?s1_Field_str ?s2_Field_str ?s1_Field_tuple ?s2_Field_tuple ?s1_Field_list ?s2_Field_list ?s1_Field_dict ?s2_Field_dict ?no_Field_size ?no_Field_tables ?gsp ?gtk ?ne_Table_Field ?s3_Table_Field ?ne_Field_Table ?s3_Field_Table ?kc_LENGTH ?kc_MOST_ENTRIES ?kc_ROUTERS ?a0 ?l0 ?c0 ?k0 ?a1 ?l1 ?c1 ?k1 ?a2 ?l2 ?c2 ?k2 ?a3 ?l3 ?c3 ?k3 ?a4 ?l4 ?c4 ?k4 ?a5 ?l5 ?c5 ?k5 ?a6 ?l6 ?c6 ?k6 ?a7 ?l7 ?c7 ?k7 ?a8 ?l8 ?c8 ?k8 ?a9 ?l9 ?c9 ?k9 ?a10 ?f10 ?l10 ?c10 ?k10 ?a11 ?l11 ?c11 ?k11 ?a12 ?f12 ?l12 ?c12 ?k12 ?a13 ?l13 ?c13 ?k13 ?a14 ?l14 ?c14 ?k14 ?a15 ?l15 ?c15 ?k15 ?a16 ?l16 ?c16 ?k16 ?a17 ?l17 ?c17 ?k17 ?a18 ?l18 ?c18 ?k18 ?a19 ?l19 ?c19 ?k19 ?a20 ?l20 ?c20 ?k20 ?a21 ?f21 ?l21 ?c21 ?k21 ?a22 ?l22 ?c22 ?k22 ?a23 ?l23 ?c23 ?k23 ?a24 ?l24 ?c24 ?k24 ?a25 ?l25 ?c25 ?k25 ?z_abs ?z_bool ?z_int ?z_isinstance ?z_len ?z_list ?z_min ?z_range ?z_sorted ?z_str ?z_tuple ?aC_WishError ?aC_NoRouter ?aC_BadTable ?aC_BadAddress ?aC_BadField ?z_super ?opq ?xL_BadTable ?rv_BadTable ?sa_BadTable ?eC_BadTable ?tC_BadTable ?kC_BadTable ?in_BadTable ?ti_BadTable ?li_BadTable ?ci_BadTable ?fi_BadTable ?v2_BadTable ?fe_BadTable ?ce_BadTable ?cd_BadTable ?su_BadTable ?al_BadTable ?sv_BadTable ?no_BadTable_index ?xL_BadField ?rv_BadField ?sa_BadField ?eC_BadField ?tC_BadField ?kC_BadField ?in_BadField ?ti_BadField ?li_BadField ?ci_BadField ?fi_BadField ?v2_BadField ?fe_BadField ?ce_BadField ?cd_BadField ?su_BadField ?al_BadField ?sv_BadField ?no_BadField_router ?xL_NoRouter ?rv_NoRouter ?sa_NoRouter ?eC_NoRouter ?tC_NoRouter ?kC_NoRouter ?in_NoRouter ?ti_NoRouter ?li_NoRouter ?ci_NoRouter ?fi_NoRouter ?v2_NoRouter ?fe_NoRouter ?ce_NoRouter ?cd_NoRouter ?su_NoRouter ?al_NoRouter ?sv_NoRouter ?no_NoRouter_router ?xL_BadAddress ?rv_BadAddress ?sa_BadAddress ?eC_BadAddress ?tC_BadAddress ?kC_BadAddress ?in_BadAddress ?ti_BadAddress ?li_BadAddress ?ci_BadAddress ?fi_BadAddress ?v2_BadAddress ?fe_BadAddress ?ce_BadAddress ?cd_BadAddress ?su_BadAddress ?al_BadAddress ?sv_BadAddress ?ga_BadTable ?gg_BadTable ?hd_BadTable ?gc_BadTable ?mo_BadTable ?ss_BadTable ?ga_BadField ?gg_BadField ?hd_BadField ?gc_BadField ?mo_BadField ?ss_BadField ?ga_NoRouter ?gg_NoRouter ?hd_NoRouter ?gc_NoRouter ?mo_NoRouter ?ss_NoRouter ?ga_BadAddress ?gg_BadAddress ?hd_BadAddress ?gc_BadAddress ?mo_BadAddress ?ss_BadAddress
    (case aC_Table => k_is)
    (case pg_Table => k_is)
    (case hd_Table => k_is)
    (case po_Table => k_is)
    (case sa_Table => k_is)
    (case mk_Table => k_is)
    (case kC_Table => k_is)
    (case gc_Table => k_is)
    (case mo_Table => first | k_is | rfl)
    (case ci_Table => first | k_is | rfl)
    (case ti_Table => k_is)
    (case s1_Table_NoneType => first | k_is | rfl)
    (case s2_Table_NoneType => first | k_is | rfl)
    (case s1_Table_bool => first | k_is | rfl)
    (case s2_Table_bool => first | k_is | rfl)
    (case s1_Table_int => first | k_is | rfl)
    (case s2_Table_int => first | k_is | rfl)
    (case s1_Table_str => first | k_is | rfl)
    (case s2_Table_str => first | k_is | rfl)
    (case s1_Table_tuple => first | k_is | rfl)
    (case s2_Table_tuple => first | k_is | rfl)
    (case s1_Table_list => first | k_is | rfl)
    (case s2_Table_list => first | k_is | rfl)
    (case s1_Table_dict => first | k_is | rfl)
    (case s2_Table_dict => first | k_is | rfl)
    (case no_Table_entries => k_is)
    (case aC_Field => k_is)
    (case pg_Field => k_is)
    (case hd_Field => k_is)
    (case po_Field => k_is)
    (case sa_Field => k_is)
    (case mk_Field => k_is)
    (case kC_Field => k_is)
    (case gc_Field => k_is)
    (case mo_Field => first | k_is | rfl)
    (case ci_Field => first | k_is | rfl)
    (case ti_Field => k_is)
    (case s1_Field_NoneType => first | k_is | rfl)
    (case s2_Field_NoneType => first | k_is | rfl)
    (case s1_Field_bool => first | k_is | rfl)
    (case s2_Field_bool => first | k_is | rfl)
    (case s1_Field_int => first | k_is | rfl)
    (case s2_Field_int => first | k_is | rfl)
    (case s1_Field_str => first | k_is | rfl)
    (case s2_Field_str => first | k_is | rfl)
    (case s1_Field_tuple => first | k_is | rfl)
    (case s2_Field_tuple => first | k_is | rfl)
    (case s1_Field_list => first | k_is | rfl)
    (case s2_Field_list => first | k_is | rfl)
    (case s1_Field_dict => first | k_is | rfl)
    (case s2_Field_dict => first | k_is | rfl)
    (case no_Field_size => k_is)
    (case no_Field_tables => k_is)
    (case gsp => k_is)
    (case gtk => k_is)
    (case ne_Table_Field => decide)
    (case s3_Table_Field => first | k_is | rfl)
    (case ne_Field_Table => decide)
    (case s3_Field_Table => first | k_is | rfl)
    (case kc_LENGTH => k_is)
    (case kc_MOST_ENTRIES => k_is)
    (case kc_ROUTERS => k_is)
    (case a0 => k_is)
    (case l0 => k_is)
    (case c0 => k_is)
    (case k0 => k_is)
    (case a1 => k_is)
    (case l1 => k_is)
    (case c1 => k_is)
    (case k1 => k_is)
    (case a2 => k_is)
    (case l2 => k_is)
    (case c2 => k_is)
    (case k2 => k_is)
    (case a3 => k_is)
    (case l3 => k_is)
    (case c3 => k_is)
    (case k3 => k_is)
    (case a4 => k_is)
    (case l4 => k_is)
    (case c4 => k_is)
    (case k4 => k_is)
    (case a5 => k_is)
    (case l5 => k_is)
    (case c5 => k_is)
    (case k5 => k_is)
    (case a6 => k_is)
    (case l6 => k_is)
    (case c6 => k_is)
    (case k6 => k_is)
    (case a7 => k_is)
    (case l7 => k_is)
    (case c7 => k_is)
    (case k7 => k_is)
    (case a8 => k_is)
    (case l8 => k_is)
    (case c8 => k_is)
    (case k8 => k_is)
    (case a9 => k_is)
    (case l9 => k_is)
    (case c9 => k_is)
    (case k9 => k_is)
    (case a10 => k_is)
    (case f10 => k_is)
    (case l10 => k_is)
    (case c10 => k_is)
    (case k10 => k_is)
    (case a11 => k_is)
    (case l11 => k_is)
    (case c11 => k_is)
    (case k11 => k_is)
    (case a12 => k_is)
    (case f12 => k_is)
    (case l12 => k_is)
    (case c12 => k_is)
    (case k12 => k_is)
    (case a13 => k_is)
    (case l13 => k_is)
    (case c13 => k_is)
    (case k13 => k_is)
    (case a14 => k_is)
    (case l14 => k_is)
    (case c14 => k_is)
    (case k14 => k_is)
    (case a15 => k_is)
    (case l15 => k_is)
    (case c15 => k_is)
    (case k15 => k_is)
    (case a16 => k_is)
    (case l16 => k_is)
    (case c16 => k_is)
    (case k16 => k_is)
    (case a17 => k_is)
    (case l17 => k_is)
    (case c17 => k_is)
    (case k17 => k_is)
    (case a18 => k_is)
    (case l18 => k_is)
    (case c18 => k_is)
    (case k18 => k_is)
    (case a19 => k_is)
    (case l19 => k_is)
    (case c19 => k_is)
    (case k19 => k_is)
    (case a20 => k_is)
    (case l20 => k_is)
    (case c20 => k_is)
    (case k20 => k_is)
    (case a21 => k_is)
    (case f21 => k_is)
    (case l21 => k_is)
    (case c21 => k_is)
    (case k21 => k_is)
    (case a22 => k_is)
    (case l22 => k_is)
    (case c22 => k_is)
    (case k22 => k_is)
    (case a23 => k_is)
    (case l23 => k_is)
    (case c23 => k_is)
    (case k23 => k_is)
    (case a24 => k_is)
    (case l24 => k_is)
    (case c24 => k_is)
    (case k24 => k_is)
    (case a25 => k_is)
    (case l25 => k_is)
    (case c25 => k_is)
    (case k25 => k_is)
    (case z_abs => k_is)
    (case z_bool => k_is)
    (case z_int => k_is)
    (case z_isinstance => k_is)
    (case z_len => k_is)
    (case z_list => k_is)
    (case z_min => k_is)
    (case z_range => k_is)
    (case z_sorted => k_is)
    (case z_str => k_is)
    (case z_tuple => k_is)
    (case aC_WishError => k_is)
    (case aC_NoRouter => k_is)
    (case aC_BadTable => k_is)
    (case aC_BadAddress => k_is)
    (case aC_BadField => k_is)
    (case z_super => k_is)
    (case opq => k_is)
    (case xL_BadTable => k_is)
    (case rv_BadTable => rfl)
    (case sa_BadTable => k_is)
    (case eC_BadTable => k_is)
    (case tC_BadTable => k_is)
    (case kC_BadTable => k_is)
    (case in_BadTable => k_is)
    (case ti_BadTable => k_is)
    (case li_BadTable => k_is)
    (case ci_BadTable => k_is)
    (case fi_BadTable => k_is)
    (case v2_BadTable => rfl)
    (case fe_BadTable => decide +kernel)
    (case ce_BadTable => k_is)
    (case cd_BadTable => first | k_is | rfl)
    (case su_BadTable => first | k_is | rfl)
    (case al_BadTable => first | k_is | rfl)
    (case sv_BadTable => k_is)
    (case no_BadTable_index => k_is)
    (case xL_BadField => k_is)
    (case rv_BadField => rfl)
    (case sa_BadField => k_is)
    (case eC_BadField => k_is)
    (case tC_BadField => k_is)
    (case kC_BadField => k_is)
    (case in_BadField => k_is)
    (case ti_BadField => k_is)
    (case li_BadField => k_is)
    (case ci_BadField => k_is)
    (case fi_BadField => k_is)
    (case v2_BadField => rfl)
    (case fe_BadField => decide +kernel)
    (case ce_BadField => k_is)
    (case cd_BadField => first | k_is | rfl)
    (case su_BadField => first | k_is | rfl)
    (case al_BadField => first | k_is | rfl)
    (case sv_BadField => k_is)
    (case no_BadField_router => k_is)
    (case xL_NoRouter => k_is)
    (case rv_NoRouter => rfl)
    (case sa_NoRouter => k_is)
    (case eC_NoRouter => k_is)
    (case tC_NoRouter => k_is)
    (case kC_NoRouter => k_is)
    (case in_NoRouter => k_is)
    (case ti_NoRouter => k_is)
    (case li_NoRouter => k_is)
    (case ci_NoRouter => k_is)
    (case fi_NoRouter => k_is)
    (case v2_NoRouter => rfl)
    (case fe_NoRouter => decide +kernel)
    (case ce_NoRouter => k_is)
    (case cd_NoRouter => first | k_is | rfl)
    (case su_NoRouter => first | k_is | rfl)
    (case al_NoRouter => first | k_is | rfl)
    (case sv_NoRouter => k_is)
    (case no_NoRouter_router => k_is)
    (case xL_BadAddress => k_is)
    (case rv_BadAddress => rfl)
    (case sa_BadAddress => k_is)
    (case eC_BadAddress => k_is)
    (case tC_BadAddress => k_is)
    (case kC_BadAddress => k_is)
    (case in_BadAddress => k_is)
    (case ti_BadAddress => k_is)
    (case li_BadAddress => k_is)
    (case ci_BadAddress => k_is)
    (case fi_BadAddress => k_is)
    (case v2_BadAddress => rfl)
    (case fe_BadAddress => decide +kernel)
    (case ce_BadAddress => k_is)
    (case cd_BadAddress => first | k_is | rfl)
    (case su_BadAddress => first | k_is | rfl)
    (case al_BadAddress => first | k_is | rfl)
    (case sv_BadAddress => k_is)
    (case ga_BadTable => k_is)
    (case gg_BadTable => k_is)
    (case hd_BadTable => k_is)
    (case gc_BadTable => k_is)
    (case mo_BadTable => first | k_is | rfl)
    (case ss_BadTable => first | rfl | k_is)
    (case ga_BadField => k_is)
    (case gg_BadField => k_is)
    (case hd_BadField => k_is)
    (case gc_BadField => k_is)
    (case mo_BadField => first | k_is | rfl)
    (case ss_BadField => first | rfl | k_is)
    (case ga_NoRouter => k_is)
    (case gg_NoRouter => k_is)
    (case hd_NoRouter => k_is)
    (case gc_NoRouter => k_is)
    (case mo_NoRouter => first | k_is | rfl)
    (case ss_NoRouter => first | rfl | k_is)
    (case ga_BadAddress => k_is)
    (case gg_BadAddress => k_is)
    (case hd_BadAddress => k_is)
    (case gc_BadAddress => k_is)
    (case mo_BadAddress => first | k_is | rfl)
    (case ss_BadAddress => first | rfl | k_is)
