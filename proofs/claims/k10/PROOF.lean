import PyProof.Rows.All
import HandS.EndTab
import Wide.All
import OpenK.AllK
import Wide.FinOn
import HandS.ForMost
import HandS.Exc
import HandS.ExcInit
import KE.KExcSuper
import KE.KSuper
import KE.KExcIs
import HandS.ExcIs
import HandS.ExcField
import HandS.ExcValue
import HandS.TryMany
import HandS.WordsExc
import KE.KeyNested
import KE.KDictKeyed
import KE.DataEq
import HandS.Flow
import HandS.Style
import HandS.TupAny
import HandS.TupMul
import HandS.IsInst
import HandS.Zip0
import HandS.Zip
import HandS.Walk
import HandS.Lambda
import HandS.CallLocal
import HandS.Conv
import KE.KDictPairs
import HandS.WordsDict
import KE.KxIndex
import HandS.RaiseMore
import HandS.More
import HandS.SetFor
import HandS.Strs
import HandS.Iter
import KE.KDictWalk
import KE.KDictItemsList
import HandS.Replace
import HandS.ReplaceLit
import HandS.ReplaceDef
import PySem.Challenge.RW_fencewatch_k10_whole_depths_by_what_was
set_option Elab.async false
set_option linter.all false
set_option maxRecDepth 100000
set_option maxHeartbeats 4000000

namespace Fw
open PySem PySem.W L2 PyProof.Rows

/-! ### an own error's __init__: super().__init__('..'), then one attribute -/
section
variable {P : Program} {w : World} {A : Around} {E : Value → Shared → Prop} {s : Shared}
/-- the bound built-in __init__ called -/
theorem mw_call {B i newId : String} {bmB rest : List Value} {K : Frag} {x C u t : Addr} {dv : Option Addr} {c2 : Value} {Q : Value → Shared → Prop} (X : K.In s.heap) (FB : ExcBaseFacts B newId i bmB)
    {nm qn : Str} {N : Addr} {bs bm : List Value} {hdct : Bool} {sn : List Str} {sub : List Value} {ab : Bool} {col : Option Bool} {dd : Option Addr} {k0 k1 k2 k3 k5 : Option Value}
    (hC : s.heap.get? C = some (excClassObj nm qn C N bs bm hdct sn sub ab col dd k0 k1 k2 k3 k5 newId)) (hu : s.heap.get? u = some (kxs_mw i x)) (he : s.heap.get? x = some (excObj C t dv c2)) (hz : rest.length ≤ sizeLine)
    (h : ∀ h', (∀ b o, b ≠ x → s.heap.get? b = some o → h'.get? b = some o) → h'.get? x = some (excObj C s.heap.objs.size dv c2) → Q .none { s with heap := h' }) :
    wpAny (model P w) A (call (.ref u) rest) Q E s := by
  obtain ⟨hh, g, d, tk, os⟩ := s
  refine wpAny_call (codeAny_of_tree ?_)
  show wpAny _ A.in1 (callAny (.ref u) ⟨rest, []⟩) _ _ _
  simp only [callAny]
  refine wpAny_bind (wpAny_load hu ?_)
  simp only [kxs_mw, show (Value.type "method-wrapper" == Value.type "method" || Value.type "method-wrapper" == Value.type "builtin_function_or_method" || Value.type "method-wrapper" == Value.type "method-wrapper") = true by decide, if_true]
  refine KFB.if_so (by decide) ?_
  refine wpAny_bind (check_bound_init FB.toExcCallFacts hC he rfl ?_)
  refine wpAny_bind (wpAny_pure (wpAny_pure ?_))
  refine ⟨plainId_quiet FB.init.plain _, codeAny_builtin FB.initEntry ?_⟩
  exact exc_init_tree (cls := .ref C) (t0 := t) (dv := dv) (c2 := c2) (c3 := .none) (b4 := .bool false) he hz fun h' k e' _ => h h' k e'
end

/-- what such an __init__ does -/
def spSup (C : Addr) (f : Str) : Sp := fun vs H Q _ => ∃ a y, vs = [.ref a, y] ∧ H a = some (exo a C none) ∧ ∀ dx, H dx = none → dx ≠ a → Q .non (upd (upd H dx (exd dx [(f, y)])) a (exo a C (some dx)))

theorem bind_two {sc : Scope} {q : Str} {L f : Addr} {cd : Value} {a b : Str} {v u : Value} (ha : (envOfC q sc L f cd).kindOf a = some .local) (hb : (envOfC q sc L f cd).kindOf b = some .local) (hab : a ≠ b) :
    bindL (envOfC q sc L f cd).kindOf ([a, b].zip [v, u]) (fun _ => none) = fun x => ([a, b].zip [v, u]).reverse.lookup x := by
  funext x
  show bindL _ [(a, v), (b, u)] _ x = [(b, u), (a, v)].lookup x
  simp only [bindL, ha, hb, if_true]
  by_cases h1 : x = b
  · subst h1; simp [List.lookup]
  · have e1 : (x == b) = false := by simpa using h1
    rw [if_neg h1]
    by_cases h2 : x = a
    · subst h2; simp [List.lookup, e1]
    · have e2 : (x == a) = false := by simpa using h2
      rw [if_neg h2]
      simp [List.lookup, e1, e2]

theorem fn_sup {CX : CXT} {P : Program} {w : World} {K : Frag} {mg : Str → Option Value} {base : Heap} {k : Nat} {f cda cc C : Addr} {name qual self prm fld lit file : Str} {params : Arguments} {scope fsc : Scope} {dV kV doc pm ct oc ccl cl : Value} {an od cdd cld : Option Addr}
    {osl ccs csl : Array (Option Value)} {vs2 : Array Value} {tf : Tok} {ar : Arg} {cdC : ClassData} {j jj : Nat} {ps0 p0 p1 p2 p3 p4 p5 p6 p7 p8 p9 : Pos} {bmB : List Value}
    (lk : K.lookup f = some ⟨oc, od, .func (ksFn name qual params [.Expr (.Call (.Attribute (.Call (.Name "super" p0) [] [] p1) "__init__" p2) [.Constant (.str lit) j p3] [] p4) p5, .Assign [.Attribute (.Name self p6) fld p7] (.Name prm p8) p9] scope dV kV doc pm an (.ref cda) ct cc), osl⟩)
    (hcd : codeIn K (.ref cda) qual = true) (S : FnScope [self, prm] [self, prm] fsc) (hsp : self ≠ prm)
    (hp : (params.posonlyargs ++ params.args).head? = some ar) (har : ar.arg = self)
    (hcode : K.lookup cda = some ⟨ccl, cdd, .fields vs2, ccs⟩) (hvs : vs2[2]? = some (.str file tf)) (hfile : ((P.main.file : Str) == file) = true)
    (hcell : K.lookup cc = some ⟨cl, cld, .cell (some (.ref C)), csl⟩) (hD : clsIn K C = some cdC) (hsub : mroIn K C (.ref C) = some true) (hsuper : mg "super" = none) (ho : nsIn K cStatics "thirdparty.any" = some none)
    (hm : ks_superIn K C C "__init__" = some (some (.builtin "ValueError.__init__"))) (hB : subIn K (.ref C) (.type "ValueError") = some true) (T : OexC K C) (hno : findIn K (.ref C) fld = some none)
    (hks : scope.names.lookup ("super" : Str) = some .globalImplicit) (hkc : scope.names.lookup ("__class__" : Str) = some .free) (hka : scope.names.lookup self = some .local) (hkp : scope.names.lookup prm = some .local) (hk : scope.kind = .function) (hco : scope.isCoroutine = false) (hgen : scope.isGenerator = false) (hnc : ∀ x ∈ scope.names, x.2 ≠ .cell)
    (hfa : fsc.names.lookup self = some .local) (hfp : fsc.names.lookup prm = some .local) (hfc : ∀ n, cellsFrom n fsc.names [] = [])
    (htop : (P.main.scope.names.lookup ("super" : Str)).isSome = false) (hd1 : (self == ("__debug__" : Str)) = false) (hd2 : (prm == ("__debug__" : Str)) = false)
    {pl : Sem Bool} (hev : ∀ L : Addr, eval (.Call (.Attribute (.Call (.Name "super" p0) [] [] p1) "__init__" p2) [.Constant (.str lit) j p3] [] p4) (ksEnv qual scope L f (.ref cda) cc) = (do
      let ov ← attributeBase (.Call (.Name "super" p0) [] [] p1) "__init__" (ksEnv qual scope L f (.ref cda) cc) (eval (.Call (.Name "super" p0) [] [] p1) (ksEnv qual scope L f (.ref cda) cc))
      standAt p2.atName
      let (f', first) ← holding [ov] (getMethod ov "__init__" pl)
      callWith p4 f' first (backTo p4 (starEach [.Constant (.str lit) j p3] (ksEnv qual scope L f (.ref cda) cc))) []))
    (hsw : ∀ env : Env, swapsWith (.Name prm p8) (some (.Attribute (.Name self p6) fld p7)) p9.line env = pure false) :
    FnOk P w K mg base CX (k + 1) f (ksFn name qual params [.Expr (.Call (.Attribute (.Call (.Name "super" p0) [] [] p1) "__init__" p2) [.Constant (.str lit) j p3] [] p4) p5, .Assign [.Attribute (.Name self p6) fld p7] (.Name prm p8) p9] scope dV kV doc pm an (.ref cda) ct cc) [self, prm] (spSup C fld) := by
  refine ⟨fun vs H Q E ⟨a, y, e, _⟩ => by rw [e]; rfl, fun A outer s H args us vs Q E hr e0 hb r hsp' => ?_⟩
  obtain ⟨a, y, rfl, ea, hq⟩ := hsp'
  have hr2 := r
  cases r with
  | cons ra rr =>
    cases rr with
    | cons ry rn =>
      cases rn
      rename_i u0 u
      obtain rfl : u0 = Value.ref a := ra
      have KX : K.In s.heap := e0.mod.kin.keeps fun b o e => (e0.bs b o e).1
      have lim : s.heap.NoLimit := e0.mod.nolimit.keeps fun b o e => (e0.bs b o e).1
      refine ks_codeAny_call_defAt hr.depth (KX _ _ lk) rfl lim (codeRec_of KX hcd) rfl hb hnc (fun x hx => ?_) (fun h₀ hns kp => ?_) hco hgen hk
      · rcases List.mem_cons.mp hx with z | z
        · subst z; exact hka
        · rcases List.mem_cons.mp z with z | z
          · subst z; exact hkp
          · cases z
      have I : Inv (cxOf CX P w K mg base [self, prm] qual fsc f (.ref cda) A outer s H E) [] (start [self, prm] [.ref a, y]) H { s with heap := h₀, toks := s.toks + 2 } := by
        refine inv_start S hr.hd e0 rfl hr2 ⟨⟨⟨h₀, _, rfl⟩, ?_, kp, Nat.le_refl _⟩, fun n c hc => ?_, ?_, fun n c hc => ?_⟩
        · rw [bind_two hfa hfp hsp]; exact hns
        · rw [hfc] at hc; cases hc
        · rw [hfc]; exact List.Pairwise.nil
        · rw [hfc] at hc; cases hc
      show _root_.PySem.wpAt (model P w) (A.deeper (ksEnv qual scope s.heap.objs.size f (.ref cda) cc)) (.func _ (ksEnv qual scope s.heap.objs.size f (.ref cda) cc)) (execs _ (ksEnv qual scope s.heap.objs.size f (.ref cda) cc)) _ _ { s with heap := h₀, toks := s.toks + 2 }
      have KX0 : K.In h₀ := I.kIn
      obtain ⟨oD, hD1, hD2⟩ : ∃ oD, h₀.get? C = some oD ∧ oD.data = .cls cdC := by
        unfold clsIn at hD
        split at hD
        · rename_i c d cd' sl ho'
          cases hD
          exact ⟨_, KX0 _ _ ho', rfl⟩
        · cases hD
      obtain ⟨t1, hx0⟩ := exo_at I.hok ea
      have IA : InstAt h₀ a (excObj C t1 none .none) C none := ⟨hx0, rfl, rfl, trivial⟩
      have hint : interactive (ksEnv qual scope s.heap.objs.size f (.ref cda) cc) = false := by
        show (scope.kind == .module && _) = false
        rw [hk]; rfl
      refine ks_wpAt_execs_cons (ks_wpAt_Expr_any (hi := hint) (ks_wpAt_MethodCall (pl := pl) (ks_wpAt_super_base (env := ksEnv qual scope s.heap.objs.size f (.ref cda) cc) hks hkc (by decide) rfl (KX0 _ _ lk) rfl hp rfl (KX0 _ _ hcode) rfl hvs hfile htop ?_) (hev _)))
      obtain ⟨mb, b1, b2⟩ := I.mod.blt
      refine ks_loadName_global hk hks (Calls.loadGlobal_builtin (env := ksEnv qual scope s.heap.objs.size f (.ref cda) cc) (I.mod.glob.keeps I.bk) hsuper (b1.keeps I.bk) ((b2 "super" (by decide)).trans PyProof.Rows.Boot.«super») ⟨rfl, ?_⟩)
      refine wpAny_loadName_free hk hkc rfl ⟨_, KX0 _ _ hcell, rfl⟩ ?_
      rw [har]
      have esp : (self == prm) = false := by simpa using hsp
      have hl1 : ([self, prm].zip [Value.ref a, u]).reverse.lookup self = some (.ref a) := by
        show [(prm, u), (self, Value.ref a)].lookup self = _
        simp [List.lookup, esp]
      have hl2 : ([self, prm].zip [Value.ref a, u]).reverse.lookup prm = some u := by
        show [(prm, u), (self, Value.ref a)].lookup prm = _
        simp [List.lookup]
      refine wpAny_loadName_local (v := .ref a) hk hka hns hl1 ?_
      refine ks_wpAny_isType_cls hD1 hD2 ⟨rfl, ?_⟩
      refine ks_wpAny_call_super hD1 hD2 hx0 rfl (fun c e => by cases e) (looks_mroIn KX0 hsub) (fun h1 so1 k1 => ?_)
      have KX1 : K.In h1 := KX0.keeps k1
      have IA1 : InstAt h1 a (excObj C t1 none .none) C none := ⟨k1 _ _ hx0, rfl, rfl, trivial⟩
      have hB1 : Looks (model P w) h1 (isInstance (.ref a) (.type "ValueError")) true := IA1.type.andThen (looks_subIn KX1 hB)
      have hm' := hm
      unfold ks_superIn at hm'
      rw [hD] at hm'
      refine kxs_getMethod kxs_ValueError so1 (looks_opaque KX1 ho) (l₀ := cdC.mro) (fun A Q E s k q => wpAny_bind ((looks_clsIn KX1 hD) A _ E s k (wpAny_pure q))) rfl KX1 hm' hB1 (ks_ne KX1 IA1 hD) (by decide) ?_
      have k2 : ∀ b o, h₀.get? b = some o → (h1.push (kxs_mw "ValueError.__init__" a)).get? b = some o := fun b o e => Heap.get?_push_of_some _ (k1 b o e)
      have hu2 : (h1.push (kxs_mw "ValueError.__init__" a)).get? h1.objs.size = some (kxs_mw "ValueError.__init__" a) := Heap.get?_push_at rfl rfl
      refine kxs_callWith (i := "ValueError.__init__") (x := a) (by rfl) ?_
      refine Calls.evalArgs_plain ?_
      refine Calls.spliced_cons (show wpAny _ _ (eval (.Constant (.str lit) j p3) (ksEnv qual scope s.heap.objs.size f (.ref cda) cc)) _ _ _ from Calls.Constant_str ?_)
      refine Calls.spliced_nil ⟨hu2, ?_⟩
      obtain ⟨nm, qn, N, bs, bm, sn, sub, ab, col, dd, k0, k1', k2', k3, k5, hCl, hbm⟩ := T.cls
      refine mw_call (K := K) (x := a) (C := C) (t := t1) (dv := none) (c2 := .none) (KX1.keeps fun b o e => Heap.get?_push_of_some _ e) F.excBase_ValueError ((KX1.keeps fun b o e => Heap.get?_push_of_some _ e) _ _ hCl) hu2 (k2 _ _ hx0) (by show 1 ≤ sizeLine; rw [sizeLine_eq]; omega) fun h3 k3' hx3 => ?_
      have I2 := I.kept (t' := s.toks + 2) k2
      have J := I2.write (t' := s.toks + 2) (x := a) (e := a) (o := exo a C none) (by rw [ea]; exact True.intro) (.inl rfl) k3' ⟨_, hx3⟩ (exo_ok hx3)
      have eu : upd H a (exo a C none) = H := by
        funext b
        by_cases hb : b = a
        · rw [hb, upd_same, ea]
        · rw [upd_ne hb]
      rw [eu] at J
      obtain ⟨m, hn, hl⟩ := J.loc
      obtain ⟨u1, r1, q1⟩ := hl 0 self (.ref a) rfl rfl (.inl hfa)
      obtain ⟨u2, r2, q2⟩ := hl 1 prm y rfl rfl (.inl hfp)
      have m1 : m self = some (.ref a) := by
        rcases q1 with ⟨_, z⟩ | ⟨z, _⟩
        · cases r1; exact z
        · rcases z with z | z
          · have z' : fsc.names.lookup self = some .cell := z
            rw [hfa] at z'; cases z'
          · have z' : fsc.names.lookup self = some .free := z
            rw [hfa] at z'; cases z'
      have m2 : m prm = some u2 := by
        rcases q2 with ⟨_, z⟩ | ⟨z, _⟩
        · exact z
        · rcases z with z | z
          · have z' : fsc.names.lookup prm = some .cell := z
            rw [hfp] at z'; cases z'
          · have z' : fsc.names.lookup prm = some .free := z
            rw [hfp] at z'; cases z'
      refine _root_.PySem.wpAt_of_wpAny ?_
      refine wpAny_execs_cons (plainObj_wpAny_Assign_Attribute (hs := hsw _) ?_)
      refine wpAny_Name (wpAny_loadName_local (env := ksEnv qual scope s.heap.objs.size f (.ref cda) cc) hk hkp hn m2 ?_) hd2
      refine wpAny_Name (wpAny_loadName_local (env := ksEnv qual scope s.heap.objs.size f (.ref cda) cc) hk hka hn m1 ?_) hd1
      refine ost_new T (J.tok _) ea hno r2 fun dx s' hdx hne J2 => wpAny_execs_nil ?_
      exact ⟨.non, _, J2.os, J2.bare, J2.base, J2.hok, rfl, hq dx hdx hne⟩
end Fw

namespace Fw
open PySem PySem.W L2 PyProof.Rows
section
variable {X : Cx} {o e : Expr} {es : List Expr} {te : TE} {ta : TA} {p pos : Pos}
/-- C(e, ..), C an own error with own __init__ keeping sp, as a value -/
def tMkV (C : Addr) (sp : Sp) (ta : TA) : TE := fun σ H Q => ta σ H fun vs H1 => vs.length ≤ 1000 ∧ ∀ a, H1 a = none → sp (.ref a :: vs) (upd H1 a (exo a C none)) (fun v H2 => v = .non ∧ Q (.ref a) H2) (fun _ _ _ => False)
theorem pe_oexV {CX : CXT} {x : Str} {C fI : Addr} {k : Nat} {fd : FuncData} {ps : List Str} {sp : Sp} (T : OexC X.K C) (iC : findIn X.K (.ref C) "__init__" = some (some (.ref fI))) (tI : typeIn X.K (.ref fI) = some (.type "function"))
    (F1 : FnOk X.prog X.w X.K X.mg X.base CX k fI fd ps sp) (hr : Room (k + 1) X.A) (hb : Binds X.K fd ps []) (hx : Passes CX X (fun _ _ _ => False)) (hg : Gl X x) (hm : X.mg x = some (.ref C)) (ha : PA X (e :: es) ta)
    (hdb : (x == ("__debug__" : Str)) = false := by decide) (he : starEach (e :: es) X.env = (false, eval e X.env) :: starEach es X.env := by rfl) (hpl : (backTo pos (starEach es X.env)).any (·.1) = false := by rfl) :
    PE X (.Call (.Name x p) (e :: es) [] pos) (tMkV C sp ta) := by
  refine ⟨fun pins s σ H Q I h => ?_⟩
  obtain ⟨nm, q, N, bs, bm, sn, sub, ab, col, dd, k0, k1, k2, k3, k5, hC, hbm⟩ := T.cls
  refine wpAny_Call_Name_kw (ld_glob I hg hm ?_ hdb)
  refine callWith_K (h₀ := X.base) I.ok.mod.kin T.kC (thn (ha.run pos pins s σ H _ I h) fun us s1 ⟨vs, H1, I1, r1, hz, q1⟩ => ⟨I1.kIn, ?_⟩) he hpl
  show wpAny _ _ (call (.ref C) us) _ _ _
  obtain ⟨hp, g, dr, tk, os⟩ := s1
  have hsz : hp.objs.size ≤ hp.objs.size + 1 := Nat.le_succ _
  have hn : H1 (hp.objs.size + 1) = none := I1.hok.fresh hsz
  have hq := q1 (hp.objs.size + 1) hn
  have kk : ∀ b o, hp.get? b = some o → ((hp.push (kdv_tup us)).push (HandSPX.excO C hp.objs.size)).get? b = some o := fun b o e => Heap.get?_push_of_some _ (Heap.get?_push_of_some _ e)
  have hget : ((hp.push (kdv_tup us)).push (HandSPX.excO C hp.objs.size)).get? (hp.objs.size + 1) = some (HandSPX.excO C hp.objs.size) := by heap_get
  have I2 : Inv X pins σ (upd H1 (hp.objs.size + 1) (exo (hp.objs.size + 1) C none)) ⟨(hp.push (kdv_tup us)).push (HandSPX.excO C hp.objs.size), g, dr, tk, os⟩ :=
    I1.laid (t' := tk) (a := hp.objs.size + 1) (o := exo (hp.objs.size + 1) C none) (h' := (hp.push (kdv_tup us)).push (HandSPX.excO C hp.objs.size)) kk hsz (exo_ok hget)
  have r2 : Vals (V.ref (hp.objs.size + 1) :: vs) (Value.ref (hp.objs.size + 1) :: us) := .cons rfl r1
  have hl : ((Value.ref (hp.objs.size + 1) :: us) ++ []).length = ps.length := by
    have e := r2.length
    rw [F1.len _ _ _ _ hq] at e
    rw [List.append_nil]
    exact e.symm
  have hus : us.length ≤ sizeLine := by
    rw [← Paired.length r1, sizeLine_eq]
    omega
  have bb := hb ⟨(hp.push (kdv_tup us)).push (HandSPX.excO C hp.objs.size), g, dr, tk, os⟩ (Value.ref (hp.objs.size + 1) :: us) I2.kIn hl
  rw [List.append_nil] at bb
  refine wpAny_call (HandSPX.call_own F.excBase_ValueError (fun Y => HandSPX.refsVE_contains Y bm hbm) (I1.kIn _ _ hC) (looks_findIn I1.kIn iC) (fun self => bind_fn I1.kIn self tI) hus
    (codeAny_mono (F1.run _ X.stack _ _ ⟨Value.ref (hp.objs.size + 1) :: us, []⟩ (Value.ref (hp.objs.size + 1) :: us) _ _ (fun _ _ _ => False) (hr.make C us []) (I2.env0.make C us []) bb r2 hq) fun r s' hq' => ?_))
  cases r with
  | error er => exact hx pins σ _ _ er s' I2 hq'
  | ok fl =>
    cases fl with
    | ret u =>
      obtain ⟨v, H', I', rv, ev, q'⟩ := I2.after hq'
      subst ev
      exact ⟨rv, .ref _, H', I', rfl, q'⟩
    | next => exact False.elim hq'
    | brk => exact False.elim hq'
    | cont => exact False.elim hq'
/-- an own error that is held: of the class D -/
def Held (H : Hp) (a D : Addr) : Prop := H a = some (ExO (.ref D) a) ∨ ∃ dd fs, H a = some (exo a D (some dd)) ∧ H dd = some (exd dd fs)
theorem held_at {pins : List (Addr × Obj)} {σ : L2.St} {H : Hp} {s : Shared} {a D : Addr} (I : Inv X pins σ H s) (h : Held H a D) : ∃ ox od, InstAt s.heap a ox D od := by
  rcases h with h | ⟨dd, fs, h1, h2⟩
  · obtain ⟨oe, vs, ho, hz, hd, _⟩ := (show ObjOk X.prog X.w H s.heap a (ExO (.ref D) a) from I.hok a _ h).1
    obtain ⟨oc, od, oda, osl⟩ := oe
    obtain ⟨z1, z2⟩ := hz
    dsimp only at z1 z2 hd
    subst z1 z2 hd
    exact ⟨_, none, ho, rfl, rfl, trivial⟩
  · obtain ⟨t1, ho⟩ := exo_at I.hok h1
    obtain ⟨mA, hns, hr⟩ := exd_at I.hok h2
    obtain ⟨od, es, ep, hod, _⟩ := hns
    exact ⟨_, some od, ho, rfl, rfl, hod⟩
def rIsX (K : Frag) : List V → Hp → VK → Prop := fun xs H Q => ∃ (a D : Addr) (c : V) (cv : Value) (b : Bool), xs = [.ref a, c] ∧ ExcC K D ∧ Held H a D ∧ (∀ u, RelV c u → u = cv) ∧ kitOne K (.ref D) cv = some b ∧ Q (.bl b) H
theorem call_isX : CallR X (.builtin "isinstance") (rIsX X.K) := by
  intro pins s σ H xs us Q I r h
  obtain ⟨a, D, c, cv, b, rfl, C, hh, hcv, e, q⟩ := h
  cases r with
  | cons rx rr =>
    cases rr with
    | cons rt rr =>
      cases rr
      cases rx
      have ec := hcv _ rt
      subst ec
      obtain ⟨ox, od, J⟩ := held_at I hh
      obtain ⟨cd, hcd, _⟩ := any_some C.hd
      exact kia_one (kitx_exc (by rw [hcd]; rfl) C.hg C.hk C.hs C.ha C.hn C.ht C.hm) I.kIn J e (fun z => nomatch z) fun tk => ⟨.bl b, H, I.kept (t' := tk) fun _ _ z => z, rfl, q⟩
/-- err.f -/
def tXv (K : Frag) (f : Str) (te : TE) : TE := fun σ H Q => te σ H fun x H1 => ∃ (a C dd : Addr) (fs : List (Str × V)) (v : V), x = .ref a ∧ XfC K C ∧ findIn K (.ref C) f = some none ∧ H1 a = some (exo a C (some dd)) ∧ H1 dd = some (exd dd fs) ∧ fs.lookup f = some v ∧ Q v H1
theorem pe_xv {n : Str} (he : PE X e te) (hb : attributeBase e n X.env (eval e X.env) = eval e X.env := by rfl) : PE X (.Attribute e n pos) (tXv X.K n te) := by
  refine ⟨fun pins s σ H Q I h => ?_⟩
  refine attr_of hb (thn (he.run pins s σ H _ I h) fun u s1 hh => ?_)
  obtain ⟨x, H1, I1, rx, a, C, dd, fs, v, ex, T, hno, ea, ed, l, q⟩ := hh
  subst ex
  obtain rfl : u = Value.ref a := rx
  obtain ⟨t1, ha⟩ := exo_at I1.hok ea
  obtain ⟨mA, hns, hr⟩ := exd_at I1.hok ed
  obtain ⟨od, ho, hl⟩ := lookIn_ns hns
  obtain ⟨u, hu, ru⟩ := RelO.some_of (v := v) (o := mA n) (by rw [← l]; exact hr n)
  have J : InstAt s1.heap a _ C (some od) := ⟨ha, rfl, rfl, ho⟩
  exact HandSPX.exc_get I1.kIn J T.ga T.gg T.exC (findObj_own T.hdC hno rfl (by rw [hl, hu])) (handed_of ru) ⟨v, H1, I1.tok _, ru, q⟩
end
end Fw

namespace Fw
open PySem PySem.Spec PyProof.Rows L2

/-! ### several except clauses, each with a name for the error or without one -/
def endsAs (i : Nat) (D : Ends) : Ends := { nx := fun σ' H' => D.nx (σ'.set i none) H', rt := D.rt, bk := fun σ' H' => D.bk (σ'.set i none) H', ct := fun σ' H' => D.ct (σ'.set i none) H' }
def wOne (D : Ends) (o : Option Nat) (ts : Addr → Value → Option Addr → TS) (a : Addr) : WX := fun cls d σ H => match o with
  | none => ts a cls d D σ H
  | some i => ts a cls d (endsAs i D) (σ.set i (some (.ref a))) H
def wMix (K : PySem.W.Frag) (Wout : WX) (D : Ends) : List (Value × Option Nat × (Addr → Value → Option Addr → TS)) → WX
  | [] => Wout
  | (c, o, ts) :: r => fun cls d σ H => ∃ b, PySem.W.exmOne K cls c = some b ∧ (b = true → ∀ a, H a = none → wOne D o ts a cls d σ H) ∧ (b = false → wMix K Wout D r cls d σ H)
inductive HdsA (X : Cx) : List ExceptHandler → List (Value × Option Nat × (Addr → Value → Option Addr → TS)) → Prop
  | nil : HdsA X [] []
  | plain {x : Str} {c : Value} {ts : Addr → Value → Option Addr → TS} {b₀ : Stmt} {suite : List Stmt} {np pos' : Pos} {hds : List ExceptHandler} {l : List (Value × Option Nat × (Addr → Value → Option Addr → TS))} (hc : Names X x c)
      (hsu : ∀ (a : Addr) (oe : Obj) (cls : Value) (d : Option Addr) (pn : List (Addr × Obj)), Zc cls d oe → (∃ vs, oe.data = .fields vs) → PSs (X.suite a ((a, oe) :: pn)) (b₀ :: suite) (ts a cls d)) (r : HdsA X hds l) :
      HdsA X (.ExceptHandler (some (.Name x np)) none (b₀ :: suite) pos' :: hds) ((c, none, ts) :: l)
  | named {x n : Str} {i : Nat} {c : Value} {ts : Addr → Value → Option Addr → TS} {b₀ : Stmt} {suite : List Stmt} {np pos' : Pos} {hds : List ExceptHandler} {l : List (Value × Option Nat × (Addr → Value → Option Addr → TS))} (hc : Names X x c)
      (hi : X.N[i]? = some n) (hln : X.env.kindOf n = some .local)
      (hsu : ∀ (a : Addr) (oe : Obj) (cls : Value) (d : Option Addr) (pn : List (Addr × Obj)), Zc cls d oe → (∃ vs, oe.data = .fields vs) → PSs (X.suite a ((a, oe) :: pn)) (b₀ :: suite) (ts a cls d)) (r : HdsA X hds l) :
      HdsA X (.ExceptHandler (some (.Name x np)) (some n) (b₀ :: suite) pos' :: hds) ((c, some i, ts) :: l)
section
variable {X : Cx} {body : List Stmt} {h₀ : ExceptHandler} {hds : List ExceptHandler} {l : List (Value × Option Nat × (Addr → Value → Option Addr → TS))} {pos : Pos} {tb : WX → TS} {Wout : WX}
theorem ps_try_mix (hs : X.stack = X.env :: X.outer) (hf : X.env.frame = some X.env.locals) (hN : X.N.Nodup) (tk : Takes X Wout)
    (hb : ∀ (W : WX) (pn : List (Addr × Obj)) (xe : Value → Shared → Prop), Takes (X.tr pn xe) W → PassesOwn (model X.prog X.w) X.A X.env xe → PSs (X.tr pn xe) body (tb W))
    (hh : HdsA X (h₀ :: hds) l) : PS X (.Try body (h₀ :: hds) [] [] pos) (fun D σ H => tb (wMix X.K Wout D l) D σ H) := by
  refine ⟨fun pins s σ H D I h => ?_⟩
  have ok := I.ok
  have hfr : X.A.frames = some (X.env :: X.outer) := by rw [ok.frames, hs]
  refine wpAny_Try_except ?_
  refine wpAny_mono ((hb (wMix X.K Wout D l) (X.pn ++ pins) (fun e s₁ => wpAny (model X.prog X.w) X.A (noteFrame e X.env) (fun _ s₂ => wpAny (model X.prog X.w) X.A (setFlight e none) (fun _ s₃ =>
    wpAny (model X.prog X.w) X.A (handleBy e X.env (h₀ :: hds)) (SP X pins D) X.xe s₃) X.xe s₂) X.xe s₁) (fun u s' xx => ?_) PassesOwn.looking).run [] s σ H D (I.toTry _) h) (fun f s1 hsp => ?_) (fun e s1 he => he)
  · obtain ⟨a, B, sI, pins', σ', H', cls, d, rfl, J', nb, up, sky, na, os, ag, w⟩ := xx
    have J : Inv X pins σ' H' sI := J'.ofTry ok
    have sky' : Sky B (X.env :: X.outer) a (Zc cls d) X.env.locals s'.heap := by rw [← hs]; exact sky
    show wpAny (model X.prog X.w) X.A (noteFrame (.ref a) X.env) _ _ _
    refine Sky.land Zc.steady hfr hf sky' fun h3 fl3 up3 => ?_
    have J3 : Inv X pins σ' H' { s' with heap := h3 } := J.landed nb fl3.1 (up.trans up3) os ag
    obtain ⟨oe3, vs3, he3, hz3, hd3⟩ := fl3.there
    have notFr : ∀ {h : Heap} {o : Obj} {vs : Array Value}, h.FunFrames B (X.env :: X.outer) → h.get? a = some o → o.data = .fields vs → a ∉ frs (X.env :: X.outer) := fun {h o vs} ff e dd hm => by
      obtain ⟨_, o', e', hnf⟩ := ff.mem hm
      rw [e] at e'; cases e'
      exact hnf _ dd
    have nfr := notFr fl3.2.2.1 he3 hd3
    have nL : a ≠ X.env.locals := fun z => nfr (List.mem_filterMap.mpr ⟨X.env, List.mem_cons_self, by rw [hf, z]⟩)
    have nF : a ∉ X.fs := fun hm => by
      obtain ⟨e, he, q⟩ := List.mem_filterMap.mp hm
      exact nfr (List.mem_filterMap.mpr ⟨e, List.mem_cons_of_mem _ he, q⟩)
    have S3 := J3.suite he3 hd3 na nL nF
    have LT : PySem.W.Looks (model X.prog X.w) h3 (typeOf (.ref a)) cls := fun A Q E s k q => wpAny_typeOf_ref (k _ _ he3) (by rw [hz3.1]; exact q)
    have test : ∀ {x : Str} {c : Value} {np : Pos} {Q : Value → Shared → Prop} {E : Value → Shared → Prop}, Names X x c → Q c { s' with heap := h3 } → wpAny (model X.prog X.w) (X.A.mark (some (.ref a))) (eval (.Name x np) X.env) Q E { s' with heap := h3 } := fun {x c np Q E} hc q => by
      obtain ⟨hg, hdbg, hm | ⟨hm, hv, hnn⟩⟩ := hc
      · exact ld_glob (X := X.suite a ((a, oe3) :: (X.pn ++ pins))) S3 hg hm q hdbg
      · exact ld_blt (X := X.suite a ((a, oe3) :: (X.pn ++ pins))) S3 hg hm hv q hnn hdbg
    have go : ∀ {hds' : List ExceptHandler} {l' : List (Value × Option Nat × (Addr → Value → Option Addr → TS))}, HdsA X hds' l' → wMix X.K Wout D l' cls d σ' H' →
        wpAny (model X.prog X.w) X.A (handleBy (.ref a) X.env hds') (SP X pins D) X.xe { s' with heap := h3 } := by
      intro hds' l' hk
      induction hk with
      | nil =>
        intro w
        refine wpAny_handleBy_nil ?_
        obtain ⟨k1, k2, k3, oe, vs, T, oT, ts', he, hz, hd, h1, hr⟩ := id fl3
        unfold PySem.passOn
        refine wpAny_bind (wpAny_field he hd h1 ?_)
        rw [if_neg (show ¬ ((Value.ref T == Value.none) = true) from by simp)]
        have fin : wpAny (model X.prog X.w) X.A (setFlight (.ref a) X.env.frame) (fun _ s4 => wpAny (model X.prog X.w) X.A (throw (.ref a) : Sem Flow) (SP X pins D) X.xe s4) X.xe { s' with heap := h3 } := by
          rw [hf]
          refine HandSPX.setFlight_upZ fl3 fun h4 hh4 up4 => wpAny_throw (tk _ _ ?_)
          exact ⟨a, B, sI, pins, σ', H', cls, d, rfl, J, nb, (up.trans up3).trans up4, .inr (.inr (by rw [hs]; exact hh4)), na, os, ag, w⟩
        first
          | exact wpAny_bind (wpAny_pure (wpAny_bind fin))
          | exact wpAny_bind fin
      | @plain x c ts b₀ suite np pos' hds2 l2 hc hsu r ih =>
        intro w
        obtain ⟨b, hb1, hyes, hno⟩ := w
        refine wpAny_handleBy_cons (codeAny_handlers_test ?_) (by intro q; cases q)
        have LM := PySem.W.exm_one (M := model X.prog X.w) (J3.kIn) LT hb1
        refine test hc (LM.here ?_)
        cases b with
        | true =>
          refine codeAny_handlers_suite ?_
          refine HandSPX.lands_againZ fl3 fun h4 fl4 up4 => ?_
          have J4 : Inv X pins σ' H' { s' with heap := h4 } := J.landed nb fl4.1 ((up.trans up3).trans up4) os ag
          obtain ⟨oe4, vs4, he4, hz4, hd4⟩ := fl4.there
          have S4 := J4.suite he4 hd4 na nL nF
          refine wpAny_mono ((hsu a oe4 cls d (X.pn ++ pins) hz4 ⟨_, hd4⟩).run [] _ _ H' _ S4 (hyes rfl a na)) (fun f s6 hsp => ?_) (fun _ _ z => False.elim z)
          cases f with
          | next =>
            obtain ⟨σ6, H6, S6, q6⟩ := hsp
            exact ⟨_, _, S6.unsuite ok, q6⟩
          | brk =>
            obtain ⟨σ6, H6, S6, q6⟩ := hsp
            exact ⟨_, _, S6.unsuite ok, q6⟩
          | cont =>
            obtain ⟨σ6, H6, S6, q6⟩ := hsp
            exact ⟨_, _, S6.unsuite ok, q6⟩
          | ret u =>
            obtain ⟨v6, σ6, H6, S6, r6, q6⟩ := hsp
            exact ⟨_, _, _, S6.unsuite ok, r6, q6⟩
        | false =>
          show wpAny _ X.A (handleBy (.ref a) X.env hds2) _ _ _
          exact ih (hno rfl)
      | @named x n i c ts b₀ suite np pos' hds2 l2 hc hi hln hsu r ih =>
        intro w
        obtain ⟨b, hb1, hyes, hno⟩ := w
        refine wpAny_handleBy_cons (codeAny_handlers_test ?_) (by intro q; cases q)
        have LM := PySem.W.exm_one (M := model X.prog X.w) (J3.kIn) LT hb1
        refine test hc (LM.here ?_)
        cases b with
        | true =>
          refine codeAny_handlers_suite_as ?_
          refine HandSPX.lands_againZ fl3 fun h4 fl4 up4 => ?_
          have J4 : Inv X pins σ' H' { s' with heap := h4 } := J.landed nb fl4.1 ((up.trans up3).trans up4) os ag
          obtain ⟨oe4, vs4, he4, hz4, hd4⟩ := fl4.there
          have S4 := J4.suite he4 hd4 na nL nF
          refine store_ok (X := X.suite a ((a, oe4) :: (X.pn ++ pins))) (v := .ref a) S4 hN hi (.inl hln) rfl (fun s5 S5 => ?_) (.inr hln)
          refine wpAny_mono ((hsu a oe4 cls d (X.pn ++ pins) hz4 ⟨_, hd4⟩).run [] s5 _ H' _ S5 (hyes rfl a na)) (fun f s6 hsp => ?_) (fun _ _ z => False.elim z)
          have end_ : ∀ {σ6 : L2.St} {H6 : Hp} {Q : Shared → Prop}, Inv (X.suite a ((a, oe4) :: (X.pn ++ pins))) [] σ6 H6 s6 → (∀ s7, Inv X pins (σ6.set i none) H6 s7 → Q s7) →
              wpAny (model X.prog X.w) X.A (do bindName X.env n .none; unbindBehindTheSuite X.env n pos') (fun _ s7 => Q s7) X.xe s6 := fun {σ6 H6 Q} S6 hq => gone_ok (S6.unsuite ok) hN hi hln hq
          cases f with
          | next =>
            obtain ⟨σ6, H6, S6, q6⟩ := hsp
            exact end_ S6 fun s7 J7 => ⟨_, _, J7, q6⟩
          | brk =>
            obtain ⟨σ6, H6, S6, q6⟩ := hsp
            exact end_ S6 fun s7 J7 => ⟨_, _, J7, q6⟩
          | cont =>
            obtain ⟨σ6, H6, S6, q6⟩ := hsp
            exact end_ S6 fun s7 J7 => ⟨_, _, J7, q6⟩
          | ret u =>
            obtain ⟨v6, σ6, H6, S6, r6, q6⟩ := hsp
            exact end_ S6 fun s7 J7 => ⟨_, _, _, J7, r6, q6⟩
        | false =>
          show wpAny _ X.A (handleBy (.ref a) X.env hds2) _ _ _
          exact ih (hno rfl)
    exact go hh w
  · cases f with
    | next =>
      obtain ⟨σ', H', J', q⟩ := hsp
      exact wpAny_execs_nil ⟨σ', H', J'.ofTry ok, q⟩
    | brk =>
      obtain ⟨σ', H', J', q⟩ := hsp
      exact ⟨σ', H', J'.ofTry ok, q⟩
    | cont =>
      obtain ⟨σ', H', J', q⟩ := hsp
      exact ⟨σ', H', J'.ofTry ok, q⟩
    | ret u =>
      obtain ⟨v, σ', H', J', r, q⟩ := hsp
      exact ⟨v, σ', H', J'.ofTry ok, r, q⟩
end
end Fw

namespace Fw
open PySem L2 PyProof.Rows

inductive T where
  | non | bl (b : Bool) | int (i : Int) | str (s : Str)
  | tup (l : List T) | lst (l : List T)
  | box (n : Nat) | fn (n : Nat) | scr (l : List Int)
  | err (c : Nat) (f : Str) (l : List T)

instance : Inhabited T := ⟨.non⟩

inductive Ob where
  | lst (l : List T)
  | dct (l : List (T × T))
  | dfz (l : List (T × T))
  | dki (l : List (T × T))
  | dkf (l : List (T × T))
  | ins (c : Nat) (fs : List (Nat × T))

abbrev Sto := List Ob
abbrev Rho := List (Option T)

/-- what the walk knows of the run: the written part, the defs', the errors' and the classes' addresses -/
structure GW where
  K : PySem.W.Frag
  fa : Nat → Addr
  ea : Nat → Addr
  fb : List Addr
  T : List (Addr × Str)
  pr : Program
  wd : World
/-- with other lists under way -/
def GW.w (g : GW) (fb : List Addr) : GW := ⟨g.K, g.fa, g.ea, fb, g.T, g.pr, g.wd⟩

/-- a tuple that the written part holds -/
def KTup (K : PySem.W.Frag) (a : Addr) (xs : List V) : Prop :=
  ∃ (o : Obj) (its : Array Value) (n : Nat), K.lookup a = some o ∧ o.cls = .type "tuple" ∧ o.data = .seq its n ∧ its.size ≤ sizeLine ∧ Vals xs its.toList

/-- a list that the written part holds -/
def KLst (K : PySem.W.Frag) (a : Addr) (xs : List V) : Prop :=
  ∃ (o : Obj) (its : Array Value) (n : Nat), K.lookup a = some o ∧ o.cls = .type "list" ∧ o.dict = none ∧ o.data = .seq its n ∧ its.size ≤ sizeLine ∧ Vals xs its.toList

mutual
def Rep (g : GW) (m : List Addr) (H : Hp) : T → V → Prop
  | .non, v => v = .non
  | .bl b, v => v = .bl b
  | .int i, v => v = .int i
  | .str s, v => v = .str s
  | .fn f, v => v = .ref (g.fa f)
  | .box n, v => ∃ a, m[n]? = some a ∧ v = .ref a
  | .scr ns, v => ∃ a, v = .ref a ∧ ((a ∉ m ∧ a ∉ g.fb ∧ Rd H a (.lst (ns.map V.int))) ∨ KLst g.K a (ns.map V.int))
  | .tup l, v => ∃ a vs, v = .ref a ∧ ((a ∉ m ∧ a ∉ g.fb ∧ Rd H a (.tup vs)) ∨ KTup g.K a vs) ∧ RepL g m H l vs
  | .lst l, v => ∃ a vs, v = .ref a ∧ a ∉ m ∧ a ∉ g.fb ∧ H a = some (.lst vs) ∧ RepL g m H l vs
  | .err c f l, v => ∃ a, v = .ref a ∧ a ∉ m ∧ a ∉ g.fb ∧ ((l = [] ∧ H a = some (ExO (.ref (g.ea c)) a)) ∨ ∃ dd vx, H a = some (exo a (g.ea c) (some dd)) ∧ dd ∉ m ∧ dd ∉ g.fb ∧ H dd = some (exd dd [(f, vx)]) ∧ RepL g m H l [vx])
def RepL (g : GW) (m : List Addr) (H : Hp) : List T → List V → Prop
  | [], vs => vs = []
  | t :: ts, vs => ∃ v r, vs = v :: r ∧ Rep g m H t v ∧ RepL g m H ts r
end

/-- no table of code objects: those may grow at any time -/
def NT (o : HO) : Prop := ∀ ps, o ≠ .tbl ps
theorem nt_ext (φ : Heap → Prop) : NT (.ext φ) := fun ps q => by cases q
def Re (H : Hp) (a : Addr) : Prop := ∃ o, H a = some o ∧ NT o
structure Ext (m : List Addr) (H : Hp) (m' : List Addr) (H' : Hp) : Prop where
  grow : ∃ l, m' = m ++ l ∧ ∀ a ∈ l, ¬ Re H a
  keepN : ∀ a o, H a = some o → NT o → a ∉ m → H' a = some o
  there : ∀ a, a ∈ m → Re H a → Re H' a
  frz : ∀ a od u, H a = some (.frz od u) → H' a = some (.frz od u)
theorem Ext.keep {m m' : List Addr} {H H' : Hp} (e : Ext m H m' H') (a : Addr) (o : HO) (h : H a = some o) (hm : a ∉ m) (hn : NT o := by intro ps q; cases q) : H' a = some o := e.keepN a o h hn hm

theorem Ext.refl (m : List Addr) (H : Hp) : Ext m H m H := ⟨⟨[], by simp, by simp⟩, fun _ _ h _ _ => h, fun _ _ h => h, fun _ _ _ h => h⟩
theorem Ext.notin {m m' : List Addr} {H H' : Hp} (e : Ext m H m' H') {a : Addr} {o : HO} (h : H a = some o) (hm : a ∉ m) (hn : NT o := by intro ps q; cases q) : a ∉ m' := by
  obtain ⟨l, rfl, hl⟩ := e.grow
  intro q
  rcases List.mem_append.mp q with q | q
  · exact hm q
  · exact hl a q ⟨o, h, hn⟩
theorem Ext.trans {m m1 m2 : List Addr} {H H1 H2 : Hp} (a : Ext m H m1 H1) (b : Ext m1 H1 m2 H2) : Ext m H m2 H2 := by
  obtain ⟨l1, e1, f1⟩ := a.grow
  obtain ⟨l2, e2, f2⟩ := b.grow
  refine ⟨⟨l1 ++ l2, by rw [e2, e1, List.append_assoc], fun x hx => ?_⟩, fun x o hx hn hm => b.keepN x o (a.keepN x o hx hn hm) hn (a.notin hx hm hn), fun x hx hn => b.there x ?_ (a.there x hx hn), fun x od u hx => b.frz x od u (a.frz x od u hx)⟩
  · rcases List.mem_append.mp hx with q | q
    · exact f1 x q
    · rintro ⟨o, e, hn⟩
      refine f2 x q ?_
      by_cases hm : x ∈ m
      · exact a.there x hm ⟨o, e, hn⟩
      · exact ⟨o, a.keepN x o e hn hm, hn⟩
  · rw [e1]; exact List.mem_append_left _ hx

theorem Ext.get {m m' : List Addr} {H H' : Hp} (e : Ext m H m' H') {n : Nat} {a : Addr} (h : m[n]? = some a) : m'[n]? = some a := by
  obtain ⟨l, rfl, _⟩ := e.grow
  obtain ⟨h1, h2⟩ := List.getElem?_eq_some_iff.mp h
  rw [List.getElem?_append_left h1]
  exact h
theorem Rd.ext {m m' : List Addr} {H H' : Hp} (e : Ext m H m' H') {a : Addr} {u : HO} (h : Rd H a u) (hm : a ∉ m) (hn : NT u := by intro ps q; cases q) : a ∉ m' ∧ Rd H' a u := by
  rcases h with h | ⟨o, h⟩
  · exact ⟨e.notin h hm hn, .inl (e.keep _ _ h hm hn)⟩
  · exact ⟨e.notin h hm, .inr ⟨o, e.keep _ _ h hm⟩⟩

mutual
theorem Rep.mono {g : GW} {m m' : List Addr} {H H' : Hp} (e : Ext m H m' H') : ∀ (t : T) {v : V}, Rep g m H t v → Rep g m' H' t v
  | .non, v, h => by simpa only [Rep] using h
  | .bl b, v, h => by simpa only [Rep] using h
  | .int i, v, h => by simpa only [Rep] using h
  | .str s, v, h => by simpa only [Rep] using h
  | .fn f, v, h => by simpa only [Rep] using h
  | .box n, v, h => by
    simp only [Rep] at h ⊢
    obtain ⟨a, h1, h2⟩ := h
    exact ⟨a, e.get h1, h2⟩
  | .scr ns, v, h => by
    simp only [Rep] at h ⊢
    obtain ⟨a, h1, h2⟩ := h
    refine ⟨a, h1, ?_⟩
    rcases h2 with ⟨q, q', r⟩ | h2
    · exact .inl ⟨(Rd.ext e r q).1, q', (Rd.ext e r q).2⟩
    · exact .inr h2
  | .tup l, v, h => by
    simp only [Rep] at h ⊢
    obtain ⟨a, vs, h1, h2, h3⟩ := h
    refine ⟨a, vs, h1, ?_, RepL.mono e l h3⟩
    rcases h2 with ⟨q, q', r⟩ | h2
    · exact .inl ⟨(Rd.ext e r q).1, q', (Rd.ext e r q).2⟩
    · exact .inr h2
  | .lst l, v, h => by
    simp only [Rep] at h ⊢
    obtain ⟨a, vs, h1, h2, h2', h3, h4⟩ := h
    exact ⟨a, vs, h1, e.notin h3 h2, h2', e.keep _ _ h3 h2, RepL.mono e l h4⟩
  | .err c f l, v, h => by
    simp only [Rep] at h ⊢
    obtain ⟨a, h1, h2, h3, h4⟩ := h
    rcases h4 with ⟨h4, h5⟩ | ⟨dd, vx, h4, h5, h6, h7, h8⟩
    · exact ⟨a, h1, e.notin h5 h2 (nt_ext _), h3, .inl ⟨h4, e.keep _ _ h5 h2 (nt_ext _)⟩⟩
    · exact ⟨a, h1, e.notin h4 h2 (nt_ext _), h3, .inr ⟨dd, vx, e.keep _ _ h4 h2 (nt_ext _), e.notin h7 h5 (nt_ext _), h6, e.keep _ _ h7 h5 (nt_ext _), RepL.mono e l h8⟩⟩
theorem RepL.mono {g : GW} {m m' : List Addr} {H H' : Hp} (e : Ext m H m' H') : ∀ (ts : List T) {vs : List V}, RepL g m H ts vs → RepL g m' H' ts vs
  | [], vs, h => by simpa only [RepL] using h
  | t :: ts, vs, h => by
    simp only [RepL] at h ⊢
    obtain ⟨v, r, h1, h2, h3⟩ := h
    exact ⟨v, r, h1, Rep.mono e t h2, RepL.mono e ts h3⟩
end
end Fw

namespace Fw
open PySem L2 PyProof.Rows

/-! ### the small language that a def's text is held against -/
inductive Tg where
  | nm (i : Nat) | nl | cn (a b : Tg) | tp (a : Tg)

inductive Bl where
  | len | abs | int | bool | str | max | min | all | tuple | list

inductive Mt where
  | upper | split | join

/-- how a dict is walked -/
inductive DV where
  | keys | vals | items

inductive IE where
  | lit (v : T) | var (i : Nat) | cst (c : Nat)
  | nil | cons (a b : IE) | tup (es : IE) | lst (bx : Bool) (es : IE)
  | op (bx : Bool) (o : Operator) (a b : IE) | cmp (o : CmpOp) (a b : IE) | chn (o o' : CmpOp) (a b c : IE)
  | neg (a : IE) | not (a : IE) | and (a b : IE) | or (a b : IE) | ite (c a b : IE)
  | ix (a b : IE) | sl (bx : Bool) (a lo hi : IE) | rev (bx : Bool) (a : IE)
  | call (f : Nat) (es : IE) | callL (f : Nat) (es : IE) | callv (i : Nat) (es : IE) | callvL (i : Nat) (es : IE) | blt (bx : Bool) (b : Bl) (es : IE) | isi (a : IE) (ty : String) | mt0 (m : Mt) (o : IE) | mt1 (m : Mt) (o e : IE)
  | lc (bx : Bool) (own : List Nat) (elt : IE) (tg : Tg) (src cnd : IE)
  | sq (a : IE) | sqS (a : IE) | rg1 (a : IE) | rg2 (a b : IE) | zp (a b : IE) | en (a : IE)
  | lam (f : Nat) (e : IE) | lrg (bx : Bool) (a b : IE)
  | mkE (c : Nat) (e : IE) | mkX (c : Nat) (f : Str) (e : IE) | isx (e : IE) (x : Str) (yes : List Bool) | fld (e : IE) (f : Str) (cs : List Nat)
  | repl (e : IE) (y z : Str)
  | dnew (ki : Bool) | dct (e : IE) | pop (o : IE) | sst (bx : Bool) (a : IE) | lcB (bx : Bool) (own : List Nat) (elt : IE) (tg : Tg) (src cnd : IE)
  | lcD (bx : Bool) (own : List Nat) (elt : IE) (tg : Tg) (dv : DV) (src cnd : IE) | dls (bx : Bool) (dv : DV) (a : IE) | dsp (ks : List Str) (es : IE) | srt (bx : Bool) (a : IE) | call0 (f : Nat)

/-- what an except clause returns: a written value | the attribute f of the error in slot i | a text and then this attribute -/
inductive HK where
  | lit (t : T) | fld (i : Nat) (f : Str) | txt (s : Str) (i : Nat) (f : Str)

/-- a target of a store of several: a name | a subscript -/
inductive TX where
  | nm (i : Nat) | sb (o i : IE)

inductive IS where
  | skip | seq (a b : IS)
  | pass | brk | cnt | ret (e : IE) | expr (e : IE)
  | asg (tg : Tg) (e : IE) | par2 (i j : Nat) (es : IE) | par3 (i j k : Nat) (es : IE) | sub (o i e : IE) | app (o e : IE)
  | iff (c : IE) (a b : IS) | for_ (tg : Tg) (src : IE) (b : IS) | forB (tg : Tg) (e : IE) (b : IS) | whl (c : IE) (b : IS)
  | rs (c : Nat) | rsX (c : Nat) (f : Str) (e : IE) | tryS (b : IS) (cs : List Nat) (hs : List (Nat × HK)) | ext (o e : IE)
  | forD (dv : DV) (tg : Tg) (e : IE) (b : IS) | asgX (ts : List TX) (es : IE)

def part (nl : Bool) (t : T) : Option (Option Int) := if nl then some none else match t with
  | .int i => some (some i)
  | _ => none
def isNil : IE → Bool
  | .nil => true
  | _ => false

inductive Out where
  | ok (t : T) (S : Sto) | ex (c : Nat) (p : Option T) (S : Sto)
abbrev Res := Option Out
inductive OutS where
  | nx (r : Rho) (S : Sto) | rt (t : T) (S : Sto) | bk (r : Rho) (S : Sto) | ct (r : Rho) (S : Sto) | ex (c : Nat) (p : Option T) (r : Rho) (S : Sto)
abbrev ResS := Option OutS

structure EV where
  call : Nat → List T → Sto → Res
  callL : Nat → List T → Sto → Res
  cv : Nat → T
  lam : Nat → Option (List (Nat × T) × T)
  wf : Nat
  dp : Nat := 0

@[inline] def bnd (r : Res) (k : T → Sto → Res) : Res := match r with
  | some (.ok t S) => k t S
  | some (.ex c p S) => some (.ex c p S)
  | none => none

@[inline] def bndS (r : Res) (ρ : Rho) (k : T → Sto → ResS) : ResS := match r with
  | some (.ok t S) => k t S
  | some (.ex c p S) => some (.ex c p ρ S)
  | none => none

def line : Nat := 16777216

/-! ### values -/
def drf (S : Sto) (t : T) : T := match t with
  | .box n => match S[n]? with
    | some (.lst l) => .lst l
    | _ => t
  | _ => t

mutual
def toD : T → Option PyData
  | .non => some .none
  | .bl b => some (.bool b)
  | .int i => some (.int i)
  | .str s => some (.str s)
  | .tup l => match toDs l with | some ds => some (.tuple ds) | none => none
  | .lst l => match toDs l with | some ds => some (.list ds) | none => none
  | _ => none
def toDs : List T → Option (List PyData)
  | [] => some []
  | t :: ts => match toD t with
    | some d => match toDs ts with | some ds => some (d :: ds) | none => none
    | none => none
end

/-! keys of dicts: tuples, nested -/
mutual
def nk : T → Option NestedKey
  | .non => some .none
  | .bl b => some (.num (if b = true then 1 else 0))
  | .int i => some (.num i)
  | .str s => some (.text s)
  | .tup l => match nks l with | some ks => some (.tup ks) | none => none
  | _ => none
def nks : List T → Option (List NestedKey)
  | [] => some []
  | t :: ts => match nk t with
    | some k => (match nks ts with | some ks => some (k :: ks) | none => none)
    | none => none
end
/-- a key that is a tuple, not too deep -/
def tkey (t : T) : Option NestedKey := match nk t with
  | some (.tup ks) => if (NestedKey.tup ks).depth ≤ 8 then some (.tup ks) else none
  | _ => none
def dGet : List (T × T) → NestedKey → Option T
  | [], _ => none
  | (k, v) :: l, q => if nk k = some q then some v else dGet l q
def dPut : List (T × T) → T → NestedKey → T → List (T × T)
  | [], t, _, v => [(t, v)]
  | (k, w) :: l, t, q, v => if nk k = some q then (k, v) :: l else (k, w) :: dPut l t q v
def dOf (S : Sto) (t : T) : Option (List (T × T)) := match t with
  | .box n => match S[n]? with
    | some (.dct l) => some l
    | some (.dfz l) => some l
    | _ => none
  | _ => none

/-- a whole number or a text as a key -/
def kkey (t : T) : Option NestedKey := match t with
  | .int i => some (.num i)
  | .str s => some (.text s)
  | _ => none
/-- the dict in a box, and a key of its kind -/
def dKey (S : Sto) (n : Nat) (x : T) : Option (List (T × T) × NestedKey) := match S[n]? with
  | some (.dct l) => (match tkey x with | some q => some (l, q) | none => none)
  | some (.dfz l) => (match tkey x with | some q => some (l, q) | none => none)
  | some (.dki l) => (match kkey x with | some q => some (l, q) | none => none)
  | _ => none
/-- dict of pairs -/
def dMk : List T → List (T × T) → Option (List (T × T))
  | [], acc => some acc
  | .tup [k, v] :: r, acc => (match tkey k with | some q => dMk r (dPut acc k q v) | none => none)
  | _ :: _, _ => none
def dspL : List (Str × T) → List (T × T) → List (T × T)
  | [], acc => acc
  | (k, v) :: r, acc => dspL r (dPut acc (.str k) (.text k) v)
def dLen (S : Sto) (n : Nat) : Option (List (T × T)) := match S[n]? with
  | some (.dct l) => some l
  | some (.dfz l) => some l
  | some (.dki l) => some l
  | _ => none

/-- how a dict's entries are walked -/
def dItems (dv : DV) (l : List (T × T)) : List T := match dv with
  | .keys => l.map (·.1)
  | .vals => l.map (·.2)
  | .items => l.map fun p => .tup [p.1, p.2]
/-- a dict is locked while it is walked; then it is free again -/
def lkD (dv : DV) (S : Sto) (k : Nat) : Option (List (T × T) × Sto) := match S[k]? with
  | some (.dct l) => some (l, S.set k (.dfz l))
  | some (.dki l) => (match dv with | .keys => some (l, S.set k (.dkf l)) | _ => none)
  | _ => none
def unD (S : Sto) (k : Nat) : Option Sto := match S[k]? with
  | some (.dfz l) => some (S.set k (.dct l))
  | some (.dkf l) => some (S.set k (.dki l))
  | _ => none

def shal (d e : PyData) : Bool := decide (min d.depth e.depth ≤ 60)

def eqT (x y : T) : Option Bool := match toD x with
  | some d => match toD y with
    | some e => if shal d e then some (PyData.eqv d e) else none
    | none => none
  | none => none

def inT (x : T) (l : List T) : Option Bool := match toD x with
  | some d => match toDs l with
    | some es => if decide (d.depth ≤ 60) then some (es.any fun z => PyData.eqv z d) else none
    | none => none
  | none => none

def truthy (S : Sto) (t : T) : Option Bool := match t with
  | .non => some false
  | .bl b => some b
  | .int i => some (i != 0)
  | .str s => if s.length ≤ line then some (s.length != 0) else none
  | .tup l => some (!l.isEmpty)
  | .lst l => some (!l.isEmpty)
  | .box n => match S[n]? with
    | some (.lst l) => some (!l.isEmpty)
    | _ => none
  | _ => none

def small64 (i : Int) : Bool := decide (-(2 ^ 64) < i) && decide (i < 2 ^ 64)

def bop (o : Operator) (x y : T) : Option T := match o, x, y with
  | .Add, .int i, .int j => some (.int (i + j))
  | .Add, .str a, .str b => if a.length + b.length ≤ line then some (.str (a ++ b)) else none
  | .Add, .tup a, .tup b => if a.length + b.length ≤ line then some (.tup (a ++ b)) else none
  | .Add, .lst a, .lst b => if a.length + b.length ≤ line then some (.lst (a ++ b)) else none
  | .Sub, .int i, .int j => some (.int (i - j))
  | .Mult, .int i, .int j => if small64 i || small64 j then some (.int (i * j)) else none
  | .Mult, .tup a, .int k => if !a.isEmpty && decide (2 ≤ k) && decide (k ≤ 1000) && decide (a.length ≤ 1000) then some (.tup (List.replicate k.toNat a).flatten) else none
  | .FloorDiv, .int i, .int j => if decide (0 < j) && decide (j < 1073741824) then some (.int (i / j)) else none
  | .Mod, .int i, .int j => if decide (0 < j) then some (.int (i % j)) else none
  | .Pow, .int i, .int j => if decide (0 ≤ j) && decide (j ≤ 1000000) && decide (i.natAbs < 2 ^ 64) then some (.int (i ^ j.toNat)) else none
  | .Mult, .str a, .int k => if decide (0 ≤ k) && decide (k ≤ 1000) && decide (a.length ≤ 16) then some (.str (Txt.mul a k)) else none
  | .Add, .bl p, .int j => some (.int ((if p = true then (1 : Int) else 0) + j))
  | .Sub, .bl p, .int j => some (.int ((if p = true then (1 : Int) else 0) - j))
  | _, _, _ => none
def negT : T → Option T
  | .int i => some (.int (-i))
  | .bl p => some (.int (-(if p = true then (1 : Int) else 0)))
  | _ => none

def cop (S : Sto) (o : CmpOp) (x y : T) : Option Bool := match o with
  | .Eq => eqT (drf S x) (drf S y)
  | .NotEq => match eqT (drf S x) (drf S y) with | some b => some (!b) | none => none
  | .Lt => match x, y with | .int i, .int j => some (decide (i < j)) | _, _ => none
  | .LtE => match x, y with | .int i, .int j => some (decide (i ≤ j)) | _, _ => none
  | .Gt => match x, y with | .int i, .int j => some (decide (j < i)) | _, _ => none
  | .GtE => match x, y with | .int i, .int j => some (decide (j ≤ i)) | _, _ => none
  | .Is => match y with | .non => (match x with | .non => some true | _ => some false) | .bl b => (match x with | .bl a => some (decide (a = b)) | _ => none) | _ => none
  | .IsNot => match y with | .non => (match x with | .non => some false | _ => some true) | .bl b => (match x with | .bl a => some (!decide (a = b)) | _ => none) | _ => none
  | .In => match drf S y with
    | .tup l => inT (drf S x) l
    | .lst l => inT (drf S x) l
    | .str b => (match x with | .str a => some (!(Builtin.Str.occurrences b a 0 b.length 1).isEmpty) | _ => none)
    | .box n => (match dKey S n x with | some p => some (dGet p.1 p.2).isSome | none => none)
    | _ => none
  | .NotIn => match drf S y with
    | .tup l => (match inT (drf S x) l with | some b => some (!b) | none => none)
    | .lst l => (match inT (drf S x) l with | some b => some (!b) | none => none)
    | .str b => (match x with | .str a => some (!(!(Builtin.Str.occurrences b a 0 b.length 1).isEmpty)) | _ => none)
    | .box n => (match dKey S n x with | some p => some (!(dGet p.1 p.2).isSome) | none => none)
    | _ => none

def cutL (xs : List T) (lo hi : Option Int) : List T := (xs.drop (HT.sIx xs.length 0 lo)).take (HT.sIx xs.length xs.length hi - HT.sIx xs.length 0 lo)

def ixT (S : Sto) (x i : T) : Option T := match drf S x, i with
  | .tup l, .int k => atI l k
  | .lst l, .int k => atI l k
  | .scr l, .int k => match atI l k with | some z => some (.int z) | none => none
  | .str z, .int k => if z.length ≤ line then (match atI z.cps.toList k with | some c => some (.str ⟨#[c]⟩) | none => none) else none
  | .box n, i => (match dKey S n i with | some p => dGet p.1 p.2 | none => none)
  | _, _ => none

def slT (S : Sto) (x : T) (lo hi : Option Int) : Option T := match drf S x with
  | .tup l => some (.tup (cutL l lo hi))
  | .lst l => some (.lst (cutL l lo hi))
  | .str z => if z.length ≤ line then some (.str (cutS z lo hi)) else none
  | _ => none

def revT (S : Sto) (x : T) : Option T := match drf S x with
  | .tup l => some (.tup l.reverse)
  | .lst l => some (.lst l.reverse)
  | _ => none

def boolsOf : List T → Option (List Bool)
  | [] => some []
  | .bl b :: r => match boolsOf r with | some l => some (b :: l) | none => none
  | _ :: _ => none
def intsOf : List T → Option (List Int)
  | [] => some []
  | .int b :: r => match intsOf r with | some l => some (b :: l) | none => none
  | _ :: _ => none
/-- texts, in order -/
def insS (k : Str) : List Str → List Str
  | [] => [k]
  | x :: r => if Spec.ltCps x.cps.toList k.cps.toList then x :: insS k r else k :: x :: r
def srtS (l : List Str) : List Str := l.foldr insS []
def strsOf : List T → Option (List Str)
  | [] => some []
  | .str b :: r => match strsOf r with | some l => some (b :: l) | none => none
  | _ :: _ => none

/-- a list of whole numbers, sorted, each once -/
def insI (k : Int) : List Int → List Int
  | [] => [k]
  | x :: r => if k < x then k :: x :: r else if k = x then x :: r else x :: insI k r
def sset (ns : List Int) : List Int := ns.foldl (fun a k => insI k a) []
def maxI : Int → List Int → Int
  | a, [] => a
  | a, b :: r => maxI (if b > a then b else a) r
def minI : Int → List Int → Int
  | a, [] => a
  | a, b :: r => minI (if b < a then b else a) r

def bltT (S : Sto) (b : Bl) (ts : List T) : Option T := match b, ts with
  | .len, [x] => (match drf S x with
    | .tup l => some (.int l.length)
    | .lst l => some (.int l.length)
    | .scr l => some (.int l.length)
    | .str z => if z.length ≤ line then some (.int z.length) else none
    | .box n => (match dLen S n with | some l => some (.int l.length) | none => none)
    | _ => none)
  | .abs, [.int i] => some (.int (if i < 0 then -i else i))
  | .int, [.int i] => some (.int i)
  | .int, [.bl k] => some (.int (if k then 1 else 0))
  | .int, [.str a] => if a.length ≤ 640 then (match PySem.intText? a with | some n => some (.int n) | none => none) else none
  | .bool, [.int i] => some (.bl (i != 0))
  | .bool, [.bl k] => some (.bl k)
  | .str, [.int i] => if i.natAbs.log2 < 1920 then some (.str (Str.ofString (toString i))) else none
  | .str, [.str a] => some (.str a)
  | .max, [.int i, .int j] => some (.int (if j > i then j else i))
  | .min, [.int i, .int j] => some (.int (if j < i then j else i))
  | .max, [x] => (match drf S x with | .lst l => (match intsOf l with | some (a :: r) => some (.int (maxI a r)) | _ => none) | _ => none)
  | .min, [x] => (match drf S x with | .lst l => (match intsOf l with | some (a :: r) => some (.int (minI a r)) | _ => none) | _ => none)
  | .all, [x] => (match drf S x with | .lst l => (match boolsOf l with | some l => some (.bl (l.all id)) | _ => none) | _ => none)
  | .tuple, [x] => (match drf S x with
    | .tup l => some (.tup l)
    | .lst l => some (.tup l)
    | _ => none)
  | .list, [x] => (match drf S x with
    | .tup l => some (.lst l)
    | .lst l => some (.lst l)
    | .box n => (match dLen S n with | some l => some (.lst (l.map (·.1))) | none => none)
    | _ => none)
  | _, _ => none

def mt0T (m : Mt) (o : T) : Option T := match m, o with
  | .upper, .str a => if a.length ≤ 5592405 then some (.str (Txt.upper a)) else none
  | _, _ => none
def mt1T (S : Sto) (m : Mt) (a : Str) (x : T) : Option T := match m with
  | .split => (match x with
    | .str b => if (b.length == 0) = false ∧ a.length + 2 ≤ line then some (.lst ((Txt.split a b).map .str)) else none
    | _ => none)
  | .join => (match drf S x with
    | .lst l => (match strsOf l with | some ys => if (ys.map (·.length)).sum + ys.length * a.length ≤ line then some (.str (Txt.join a ys)) else none | none => none)
    | .tup l => (match strsOf l with | some ys => if (ys.map (·.length)).sum + ys.length * a.length ≤ line then some (.str (Txt.join a ys)) else none | none => none)
    | _ => none)
  | _ => none

def tyT (S : Sto) (t : T) : Option String := match t with
  | .non => some "NoneType"
  | .bl _ => some "bool"
  | .int _ => some "int"
  | .str _ => some "str"
  | .tup _ => some "tuple"
  | .lst _ => some "list"
  | .box n => match S[n]? with
    | some (.lst _) => some "list"
    | _ => none
  | _ => none

def isiT (S : Sto) (t : T) (ty : String) : Option Bool := match tyT S t with
  | some a => some (a == ty || (a == "bool" && ty == "int"))
  | none => none

/-- a new list: a tree, or a box -/
def newL (bx : Bool) (t : T) (S : Sto) : Out := match t with
  | .lst l => if bx then .ok (.box S.length) (S ++ [.lst l]) else .ok t S
  | _ => .ok t S

def lift (bx : Bool) (r : Option T) (S : Sto) : Res := match r with
  | some t => some (newL bx t S)
  | none => none
def liftB (r : Option Bool) (S : Sto) : Res := match r with
  | some b => some (.ok (.bl b) S)
  | none => none

/-- o.pop() -/
def popT (S : Sto) (o : T) : Option Out := match o with
  | .box n => match S[n]? with
    | some (.lst l) => (match l[l.length - 1]? with | some y => some (.ok y (S.set n (.lst l.dropLast))) | none => none)
    | _ => none
  | _ => none

def strT (t : T) (k : Str → Res) : Res := match t with
  | .str a => k a
  | _ => none
def tups (t : T) (k : List T → Res) : Res := match t with
  | .tup l => k l
  | _ => none

/-! ### targets, loops -/
def bindT : Tg → T → Rho → Option Rho
  | .nm i, t, ρ => some (ρ.set i (some t))
  | .nl, .tup [], ρ => some ρ
  | .cn a b, .tup (x :: xs), ρ => match bindT a x ρ with | some ρ' => bindT b (.tup xs) ρ' | none => none
  | .tp a, .tup l, ρ => bindT a (.tup l) ρ
  | _, _, _ => none

def wipeR (ρ : Rho) : List Nat → Rho
  | [] => ρ
  | v :: vs => (wipeR ρ vs).set v none

/-- a comprehension's turns: b the test and the element -/
def lcL (g : T → Sto → Option (Option T × Sto)) : List T → List T → Sto → Option (List T × Sto)
  | [], acc, S => some (acc, S)
  | x :: xs, acc, S => match g x S with
    | some (some y, S') => if acc.length < line then lcL g xs (acc ++ [y]) S' else none
    | some (none, S') => lcL g xs acc S'
    | none => none

/-- .. over a list that stands in the store: read anew at each turn -/
def lcBL (g : T → Sto → Option (Option T × Sto)) (k : Nat) : Nat → Nat → List T → Sto → Option (List T × Sto)
  | 0, _, _, _ => none
  | f + 1, i, acc, S => match S[k]? with
    | some (.lst l) => (match l[i]? with
      | some x => (match g x S with
        | some (some y, S') => if acc.length < line then lcBL g k f (i + 1) (acc ++ [y]) S' else none
        | some (none, S') => lcBL g k f (i + 1) acc S'
        | none => none)
      | none => some (acc, S))
    | _ => none

def forL (g : T → Rho → Sto → ResS) : List T → Rho → Sto → ResS
  | [], ρ, S => some (.nx ρ S)
  | x :: xs, ρ, S => match g x ρ S with
    | some (.nx ρ' S') => forL g xs ρ' S'
    | some (.ct ρ' S') => forL g xs ρ' S'
    | some (.bk ρ' S') => some (.nx ρ' S')
    | r => r

/-- a loop over a list that stands in the store: read anew at each turn -/
def forB (g : T → Rho → Sto → ResS) (k : Nat) : Nat → Nat → Rho → Sto → ResS
  | 0, _, _, _ => none
  | f + 1, i, ρ, S => match S[k]? with
    | some (.lst l) => (match l[i]? with
      | some x => (match g x ρ S with
        | some (.nx ρ' S') => forB g k f (i + 1) ρ' S'
        | some (.ct ρ' S') => forB g k f (i + 1) ρ' S'
        | some (.bk ρ' S') => some (.nx ρ' S')
        | r => r)
      | none => some (.nx ρ S))
    | _ => none

def whlL (c : Rho → Sto → Res) (g : Rho → Sto → ResS) : Nat → Rho → Sto → ResS
  | 0, _, _ => none
  | n + 1, ρ, S => match c ρ S with
    | some (.ok t S1) => (match truthy S1 t with
      | some true => (match g ρ S1 with
        | some (.nx ρ' S') => whlL c g n ρ' S'
        | some (.ct ρ' S') => whlL c g n ρ' S'
        | some (.bk ρ' S') => some (.nx ρ' S')
        | r => r)
      | some false => some (.nx ρ S1)
      | none => none)
    | some (.ex c p S1) => some (.ex c p ρ S1)
    | none => none

def rngT (lo : Int) (n : Nat) : List T := (List.range n).map fun i => T.int (lo + (i : Nat))
def zipT : List T → List T → List T
  | x :: xs, y :: ys => .tup [x, y] :: zipT xs ys
  | _, _ => []
def enuT : Nat → List T → List T
  | _, [] => []
  | i, x :: xs => .tup [.int (i : Nat), x] :: enuT (i + 1) xs

def okR (i : Int) : Bool := decide (-(2 ^ 62) ≤ i) && decide (i < 2 ^ 62)

def seqT (t : T) : Option (List T) := match t with
  | .tup l => some l
  | .lst l => some l
  | _ => none

/-- a text's signs -/
def sgT (z : Str) : List T := z.cps.toList.map fun c => .str ⟨#[c]⟩

def pick (c : Nat) : List (Nat × T) → Option T
  | [] => none
  | (d, t) :: r => if c == d then some t else pick c r

def evE (E : EV) : IE → Rho → Sto → Res
  | .lit v, _, S => some (.ok v S)
  | .var i, ρ, S => (match ρ[i]? with | some (some t) => some (.ok t S) | _ => none)
  | .cst c, _, S => some (.ok (E.cv c) S)
  | .nil, _, S => some (.ok (.tup []) S)
  | .cons a b, ρ, S => bnd (evE E a ρ S) fun x S1 => bnd (evE E b ρ S1) fun y S2 => tups y fun l => some (.ok (.tup (x :: l)) S2)
  | .tup es, ρ, S => bnd (evE E es ρ S) fun x S1 => tups x fun l => if l.length ≤ line then some (.ok (.tup l) S1) else none
  | .lst bx es, ρ, S => bnd (evE E es ρ S) fun x S1 => tups x fun l => if l.length ≤ line then some (newL bx (.lst l) S1) else none
  | .op bx o a b, ρ, S => bnd (evE E a ρ S) fun x S1 => bnd (evE E b ρ S1) fun y S2 => lift bx (bop o (drf S2 x) (drf S2 y)) S2
  | .cmp o a b, ρ, S => bnd (evE E a ρ S) fun x S1 => bnd (evE E b ρ S1) fun y S2 => liftB (cop S2 o x y) S2
  | .chn o o' a b c, ρ, S => bnd (evE E a ρ S) fun x S1 => bnd (evE E b ρ S1) fun y S2 => (match cop S2 o x y with
    | some true => bnd (evE E c ρ S2) fun z S3 => liftB (cop S3 o' y z) S3
    | some false => some (.ok (.bl false) S2)
    | none => none)
  | .neg a, ρ, S => bnd (evE E a ρ S) fun x S1 => (match negT x with | some t => some (.ok t S1) | none => none)
  | .not a, ρ, S => bnd (evE E a ρ S) fun x S1 => (match truthy S1 x with | some b => some (.ok (.bl (!b)) S1) | none => none)
  | .and a b, ρ, S => bnd (evE E a ρ S) fun x S1 => (match truthy S1 x with | some true => evE E b ρ S1 | some false => some (.ok x S1) | none => none)
  | .or a b, ρ, S => bnd (evE E a ρ S) fun x S1 => (match truthy S1 x with | some true => some (.ok x S1) | some false => evE E b ρ S1 | none => none)
  | .ite c a b, ρ, S => bnd (evE E c ρ S) fun x S1 => (match truthy S1 x with | some true => evE E a ρ S1 | some false => evE E b ρ S1 | none => none)
  | .ix a b, ρ, S => bnd (evE E a ρ S) fun x S1 => bnd (evE E b ρ S1) fun y S2 => lift false (ixT S2 x y) S2
  | .sl bx a lo hi, ρ, S => bnd (evE E a ρ S) fun x S1 => bnd (evE E lo ρ S1) fun l S2 => (match part (isNil lo) l with
    | some i => bnd (evE E hi ρ S2) fun h S3 => (match part (isNil hi) h with
      | some j => lift bx (slT S3 x i j) S3
      | none => none)
    | none => none)
  | .rev bx a, ρ, S => bnd (evE E a ρ S) fun x S1 => lift bx (revT S1 x) S1
  | .call f es, ρ, S => bnd (evE E es ρ S) fun x S1 => tups x fun l => E.call f l S1
  | .call0 f, _, S => E.call f [] S
  | .callL f es, ρ, S => bnd (evE E es ρ S) fun x S1 => tups x fun l => E.callL f l S1
  | .callv i es, ρ, S => (match ρ[i]? with | some (some (.fn f)) => (match evE E es ρ S with | some (.ok (.tup l) S1) => E.call f l S1 | _ => none) | _ => none)
  | .callvL i es, ρ, S => (match ρ[i]? with | some (some (.fn f)) => (match evE E es ρ S with | some (.ok (.tup l) S1) => E.callL f l S1 | _ => none) | _ => none)
  | .blt bx b es, ρ, S => bnd (evE E es ρ S) fun x S1 => tups x fun l => lift bx (bltT S1 b l) S1
  | .isi a ty, ρ, S => bnd (evE E a ρ S) fun x S1 => liftB (isiT S1 x ty) S1
  | .mt0 m o, ρ, S => bnd (evE E o ρ S) fun x S1 => lift false (mt0T m x) S1
  | .mt1 m o e, ρ, S => bnd (evE E o ρ S) fun x S1 => strT x fun a => bnd (evE E e ρ S1) fun y S2 => lift false (mt1T S2 m a y) S2
  | .lc bx own elt tg src cnd, ρ, S => bnd (evE E src ρ S) fun x S1 => tups x fun l =>
      match lcL (fun t S => match bindT tg t (wipeR ρ own) with
        | some ρ' => (match evE E cnd ρ' S with
          | some (.ok c S') => (match truthy S' c with
            | some true => (match evE E elt ρ' S' with | some (.ok y S'') => some (some y, S'') | _ => none)
            | some false => some (none, S')
            | none => none)
          | _ => none)
        | none => none) l [] S1 with
      | some (ys, S2) => some (newL bx (.lst ys) S2)
      | none => none
  | .lcB bx own elt tg src cnd, ρ, S => bnd (evE E src ρ S) fun x S1 => (match x with
    | .box k => (match lcBL (fun t S => match bindT tg t (wipeR ρ own) with
        | some ρ' => (match evE E cnd ρ' S with
          | some (.ok c S') => (match truthy S' c with
            | some true => (match evE E elt ρ' S' with | some (.ok y S'') => some (some y, S'') | _ => none)
            | some false => some (none, S')
            | none => none)
          | _ => none)
        | none => none) k E.wf 0 [] S1 with
      | some (ys, S2) => some (newL bx (.lst ys) S2)
      | none => none)
    | _ => none)
  | .lcD bx own elt tg dv src cnd, ρ, S => bnd (evE E src ρ S) fun x S1 => (match x with
    | .box k => (match lkD dv S1 k with
      | some (l, S2) => (match lcL (fun t S => match bindT tg t (wipeR ρ own) with
        | some ρ' => (match evE E cnd ρ' S with
          | some (.ok c S') => (match truthy S' c with
            | some true => (match evE E elt ρ' S' with | some (.ok y S'') => some (some y, S'') | _ => none)
            | some false => some (none, S')
            | none => none)
          | _ => none)
        | none => none) (dItems dv l) [] S2 with
        | some (ys, S3) => (match unD S3 k with | some S4 => some (newL bx (.lst ys) S4) | none => none)
        | none => none)
      | none => none)
    | _ => none)
  | .dls bx dv a, ρ, S => bnd (evE E a ρ S) fun x S1 => (match x with
    | .box k => (match S1[k]? with
      | some (.dct l) => (match dv with | .keys => none | dv => some (newL bx (.lst (dItems dv l)) S1))
      | _ => none)
    | _ => none)
  | .dsp ks es, ρ, S => bnd (evE E es ρ S) fun x S1 => (match x with
    | .tup l => if l.length = ks.length ∧ ks.length ≤ 15 then some (.ok (.box S1.length) (S1 ++ [.dki (dspL (ks.zip l) [])])) else none
    | _ => none)
  | .srt bx a, ρ, S => bnd (evE E a ρ S) fun x S1 => (match drf S1 x with
    | .lst l => (match strsOf l with
      | some zs => if zs.length < 64 then some (newL bx (.lst ((srtS zs).map .str)) S1) else none
      | none => none)
    | _ => none)
  | .sq a, ρ, S => bnd (evE E a ρ S) fun x S1 => (match seqT x with | some l => some (.ok (.tup l) S1) | none => none)
  | .sqS a, ρ, S => bnd (evE E a ρ S) fun x S1 => strT x fun z => some (.ok (.tup (sgT z)) S1)
  | .rg1 a, ρ, S => bnd (evE E a ρ S) fun x S1 => (match x with | .int j => if okR j then some (.ok (.tup (rngT 0 j.toNat)) S1) else none | _ => none)
  | .rg2 a b, ρ, S => bnd (evE E a ρ S) fun x S1 => bnd (evE E b ρ S1) fun y S2 => (match x, y with
    | .int i, .int j => if okR i && okR j then some (.ok (.tup (rngT i (j - i).toNat)) S2) else none
    | _, _ => none)
  | .zp a b, ρ, S => bnd (evE E a ρ S) fun x S1 => bnd (evE E b ρ S1) fun y S2 => (match x, y with
    | .tup xs, .tup ys => some (.ok (.tup (zipT xs ys)) S2)
    | .lst xs, .lst ys => some (.ok (.tup (zipT xs ys)) S2)
    | _, _ => none)
  | .en a, ρ, S => bnd (evE E a ρ S) fun x S1 => (match x with | .lst l => some (.ok (.tup (enuT 0 l)) S1) | .tup l => some (.ok (.tup (enuT 0 l)) S1) | _ => none)
  | .lrg bx a b, ρ, S => bnd (evE E a ρ S) fun x S1 => bnd (evE E b ρ S1) fun y S2 => (match x, y with
    | .int i, .int j => if okR i && okR j && decide ((j - i).toNat ≤ line) then some (newL bx (.lst (rngT i (j - i).toNat)) S2) else none
    | _, _ => none)
  | .mkE c e, ρ, S => bnd (evE E e ρ S) fun _ S1 => some (.ok (.err c "" []) S1)
  | .mkX c f e, ρ, S => if 2 ≤ E.dp then bnd (evE E e ρ S) fun x S1 => some (.ok (.err c f [x]) S1) else none
  | .isx e _ yes, ρ, S => bnd (evE E e ρ S) fun x S1 => (match x with | .err d _ _ => (match yes[d]? with | some b => some (.ok (.bl b) S1) | none => none) | _ => none)
  | .fld e f cs, ρ, S => bnd (evE E e ρ S) fun x S1 => (match x with | .err c f' [y] => if f' = f ∧ cs.contains c = true then some (.ok y S1) else none | _ => none)
  | .repl e y z, ρ, S => bnd (evE E e ρ S) fun x S1 => strT x fun s => if s.length + (s.length + 1) * z.length ≤ 16777216 then some (.ok (.str (Txt.replace s y z)) S1) else none
  | .dnew ki, _, S => some (.ok (.box S.length) (S ++ [if ki = true then .dki [] else .dct []]))
  | .dct a, ρ, S => bnd (evE E a ρ S) fun x S1 => (match drf S1 x with
    | .lst l => (match dMk l [] with | some d => some (.ok (.box S1.length) (S1 ++ [.dct d])) | none => none)
    | _ => none)
  | .sst bx a, ρ, S => bnd (evE E a ρ S) fun x S1 => (match drf S1 x with
    | .lst l => (match intsOf l with
      | some ns => if ns.length < 64 then some (newL bx (.lst ((sset ns).map .int)) S1) else none
      | none => none)
    | _ => none)
  | .pop o, ρ, S => bnd (evE E o ρ S) fun x S1 => popT S1 x
  | .lam f e, ρ, S => (match E.lam f with
    | some (hs, r) => (match evE E e ρ S with
      | some (.ok _ S') => some (.ok r S')
      | some (.ex c _ S') => (match pick c hs with | some t => some (.ok t S') | none => none)
      | none => none)
    | none => none)

def isLst (S : Sto) (o : T) : Bool := match o with
  | .box n => match S[n]? with
    | some (.lst _) => true
    | _ => false
  | _ => false
/-- o.append(x), o[i] = x: where o stands -/
def wApp (S : Sto) (o x : T) : Option Sto := match o with
  | .box n => match S[n]? with
    | some (.lst l) => if l.length < line then some (S.set n (.lst (l ++ [x]))) else none
    | _ => none
  | _ => none
def wSub (S : Sto) (o i x : T) : Option Sto := match o with
  | .box n => match S[n]? with
    | some (.lst l) => (match i with
      | .int k => (match ixN l.length k with
        | some j => some (S.set n (.lst (l.set j x)))
        | none => none)
      | _ => none)
    | some (.dct l) => if l.length < line then (match tkey i with | some q => some (S.set n (.dct (dPut l i q x))) | none => none) else none
    | some (.dki l) => if l.length < line then (match kkey i with | some q => some (S.set n (.dki (dPut l i q x))) | none => none) else none
    | _ => none
  | _ => none
def wExt (S : Sto) (o x : T) : Option Sto := match o with
  | .box n => match S[n]? with
    | some (.lst l) => (match drf S x with
      | .lst l2 => if l.length + l2.length ≤ line then some (S.set n (.lst (l ++ l2))) else none
      | _ => none)
    | _ => none
  | _ => none

/-- a store of several targets, one behind another -/
def stX (E : EV) : List TX → List T → Rho → Sto → Option (Rho × Sto)
  | [], [], ρ, S => some (ρ, S)
  | .nm i :: r, x :: l, ρ, S => stX E r l (ρ.set i (some x)) S
  | .sb o i :: r, x :: l, ρ, S => (match evE E o ρ S with
    | some (.ok a S1) => (match evE E i ρ S1 with
      | some (.ok b S2) => (match wSub S2 a b x with
        | some S3 => stX E r l ρ S3
        | none => none)
      | _ => none)
    | _ => none)
  | _, _, _, _ => none
/-- a walk over a dict ends: it is free again -/
def unS (k : Nat) (r : ResS) : ResS := match r with
  | some (.nx ρ S) => (match unD S k with | some S' => some (.nx ρ S') | none => none)
  | some (.rt t S) => (match unD S k with | some S' => some (.rt t S') | none => none)
  | _ => none

def plainT : T → Bool
  | .non => true
  | .bl _ => true
  | .int _ => true
  | .str _ => true
  | _ => false
def fldP (f : Str) (p : Option T) : Option Int := match p with
  | some (.err _ f' [.int v]) => if f' = f then some v else none
  | _ => none
def HK.go (h : HK) (p : Option T) (ρ : Rho) (S : Sto) : ResS := match h with
  | .lit t => if plainT t then some (.rt t S) else none
  | .fld i f => (match fldP f p with | some v => if i < ρ.length then some (.rt (.int v) S) else none | none => none)
  | .txt s i f => (match fldP f p with
    | some v => if i < ρ.length ∧ v.natAbs.log2 < 1920 ∧ s.length + (Str.ofString (toString v)).length ≤ line then some (.rt (.str (s ++ Str.ofString (toString v))) S) else none
    | none => none)
/-- the clauses, one behind another -/
def hnd : List (Nat × HK) → Nat → Option T → Rho → Sto → ResS
  | [], c, p, ρ, S => some (.ex c p ρ S)
  | (c', h) :: r, c, p, ρ, S => if c = c' then h.go p ρ S else hnd r c p ρ S

def evS (E : EV) : IS → Rho → Sto → ResS
  | .skip, ρ, S => some (.nx ρ S)
  | .seq a b, ρ, S => (match evS E a ρ S with
    | some (.nx ρ' S') => evS E b ρ' S'
    | r => r)
  | .pass, ρ, S => some (.nx ρ S)
  | .brk, ρ, S => some (.bk ρ S)
  | .cnt, ρ, S => some (.ct ρ S)
  | .ret e, ρ, S => bndS (evE E e ρ S) ρ fun t S' => some (.rt t S')
  | .expr e, ρ, S => bndS (evE E e ρ S) ρ fun _ S' => some (.nx ρ S')
  | .asg tg e, ρ, S => bndS (evE E e ρ S) ρ fun t S' => (match bindT tg t ρ with | some ρ' => some (.nx ρ' S') | none => none)
  | .par2 i j e, ρ, S => bndS (evE E e ρ S) ρ fun t S' => (match t with | .tup [x, y] => some (.nx ((ρ.set i (some x)).set j (some y)) S') | _ => none)
  | .par3 i j k e, ρ, S => bndS (evE E e ρ S) ρ fun t S' => (match t with | .tup [x, y, z] => some (.nx (((ρ.set i (some x)).set j (some y)).set k (some z)) S') | _ => none)
  | .sub o i e, ρ, S => bndS (evE E e ρ S) ρ fun t S1 => bndS (evE E o ρ S1) ρ fun x S2 => bndS (evE E i ρ S2) ρ fun y S3 =>
      (match wSub S3 x y t with | some S4 => some (.nx ρ S4) | none => none)
  | .app o e, ρ, S => bndS (evE E o ρ S) ρ fun x S1 => if isLst S1 x then bndS (evE E e ρ S1) ρ fun t S2 =>
      (match wApp S2 x t with | some S3 => some (.nx ρ S3) | none => none) else none
  | .iff c a b, ρ, S => bndS (evE E c ρ S) ρ fun x S1 => (match truthy S1 x with
    | some true => evS E a ρ S1
    | some false => evS E b ρ S1
    | none => none)
  | .for_ tg src b, ρ, S => bndS (evE E src ρ S) ρ fun x S1 => (match x with
    | .tup l => forL (fun t ρ S => match bindT tg t ρ with | some ρ' => evS E b ρ' S | none => none) l ρ S1
    | _ => none)
  | .forB tg e b, ρ, S => bndS (evE E e ρ S) ρ fun x S1 => (match x with
    | .box k => forB (fun t ρ S => match bindT tg t ρ with | some ρ' => evS E b ρ' S | none => none) k E.wf 0 ρ S1
    | _ => none)
  | .forD dv tg e b, ρ, S => bndS (evE E e ρ S) ρ fun x S1 => (match x with
    | .box k => (match lkD dv S1 k with
      | some (l, S2) => unS k (forL (fun t ρ S => match bindT tg t ρ with | some ρ' => evS E b ρ' S | none => none) (dItems dv l) ρ S2)
      | none => none)
    | _ => none)
  | .asgX ts es, ρ, S => bndS (evE E (.tup es) ρ S) ρ fun x S1 => (match x with
    | .tup l => (match stX E ts l ρ S1 with | some (ρ', S') => some (.nx ρ' S') | none => none)
    | _ => none)
  | .whl c b, ρ, S => whlL (fun ρ S => evE E c ρ S) (fun ρ S => evS E b ρ S) E.wf ρ S
  | .rs c, ρ, S => some (.ex c none ρ S)
  | .rsX c f e, ρ, S => if 2 ≤ E.dp then bndS (evE E e ρ S) ρ fun x S1 => (match x with | .int i => some (.ex c (some (.err c f [.int i])) ρ S1) | _ => none) else none
  | .tryS b cs hs, ρ, S => (match evS E b ρ S with
    | some (.ex c p ρ' S') => if cs.contains c then hnd hs c p ρ' S' else none
    | r => r)
  | .ext o e, ρ, S => bndS (evE E o ρ S) ρ fun x S1 => if isLst S1 x then bndS (evE E e ρ S1) ρ fun t S2 =>
      (match wExt S2 x t with | some S3 => some (.nx ρ S3) | none => none) else none

/-! ### defs -/
structure FD where
  np : Nat
  ns : Nat
  keep : Bool
  body : IS
  md : Nat := 0

mutual
def noBx (b : Nat) : T → Bool
  | .box n => decide (n < b)
  | .tup l => noBxL b l
  | .lst l => noBxL b l
  | .err _ _ l => noBxL b l
  | _ => true
def noBxL (b : Nat) : List T → Bool
  | [] => true
  | t :: ts => noBx b t && noBxL b ts
end
def noBxD (b : Nat) : List (T × T) → Bool
  | [] => true
  | p :: l => noBx b p.1 && noBx b p.2 && noBxD b l
def noBxO (b : Nat) : Ob → Bool
  | .lst l => noBxL b l
  | .dct l => noBxD b l
  | .dfz l => noBxD b l
  | .dki l => noBxD b l
  | .dkf l => noBxD b l
  | _ => false
/-- a dict of the def's own, handed out -/
def ownD (b : Nat) (t : T) (S : Sto) : Option Ob := match t with
  | .box n => if b ≤ n then (match S[n]? with | some (.dct l) => some (.dct l) | some (.dki l) => some (.dki l) | _ => none) else none
  | _ => none

def thaw (b : Nat) (t : T) (S : Sto) : T := match t with
  | .box n => if b ≤ n then (match S[n]? with | some (.lst l) => .lst l | _ => t) else t
  | _ => t

def fin1 (b : Nat) (t : T) (S : Sto) : Out :=
  if S.length ≤ b then .ok t S
  else match ownD b t S with
    | some ob => if noBxO b ob && (S.take b).all (noBxO b) then .ok (.box b) (S.take b ++ [ob]) else .ok t S
    | none => if noBx b (thaw b t S) && (S.take b).all (noBxO b) then .ok (thaw b t S) (S.take b) else .ok t S

def finE (b : Nat) (c : Nat) (p : Option T) (S : Sto) : Out :=
  if S.length ≤ b then .ex c p S
  else if (S.take b).all (noBxO b) then .ex c p (S.take b) else .ex c p S

def fin (keep : Bool) (b : Nat) (r : ResS) : Res := match r with
  | some (.rt t S) => some (if keep then .ok t S else fin1 b t S)
  | some (.nx _ S) => some (if keep then .ok .non S else fin1 b .non S)
  | some (.ex c p _ S) => some (if keep then .ex c p S else finE b c p S)
  | _ => none

/-- a def's own list, handed out as a box -/
def fin1B (t : T) (S : Sto) : Out := match t with
  | .box n => (match S[n]? with | some (.lst l) => if noBxL 0 l then .ok (.box 0) [.lst l] else .ok t S | _ => .ok t S)
  | _ => .ok t S
/-- the end of a def that stands on a store of its own: 1 lists handed out are trees | 2 a list handed out is a box -/
def finL (md : Nat) (r : ResS) : Res := match md with
  | 1 => fin false 0 r
  | _ => (match r with | some (.rt t S) => some (fin1B t S) | _ => none)
/-- .. what it hands out, in the caller's store -/
def locO (S : Sto) (o : Out) : Res := match o with
  | .ok t S' => if noBx 0 t then some (.ok t S) else (match t, S' with
    | .box 0, [ob] => if noBxO 0 ob then some (.ok (.box S.length) (S ++ [ob])) else none
    | _, _ => none)
  | .ex c p _ => some (.ex c p S)

structure Prg where
  tab : Nat → Option FD
  cv : Nat → T
  lam : Nat → Option (List (Nat × T) × T)
  wf : Nat

def init (fd : FD) (ts : List T) : Rho := ts.map some ++ List.replicate (fd.ns - ts.length) none

def body1 (P : Prg) (E : EV) (f : Nat) (ts : List T) (S : Sto) : Res := match P.tab f with
  | some fd => if ts.length == fd.np then (if fd.md == 0 then fin fd.keep S.length (evS E fd.body (init fd ts) S)
    else if noBxL 0 ts then (match finL fd.md (evS E fd.body (init fd ts) []) with | some o => locO S o | none => none) else none) else none
  | none => none
def nilC : Nat → List T → Sto → Res := fun _ _ _ => none
/-- a call, n deep at most; a lambda's calls stand two deeper -/
def run (P : Prg) : Nat → Nat → List T → Sto → Res
  | 0 => nilC
  | 1 => body1 P ⟨nilC, nilC, P.cv, fun _ => none, P.wf, 0⟩
  | 2 => body1 P ⟨run P 1, nilC, P.cv, fun _ => none, P.wf, 1⟩
  | n + 3 => body1 P ⟨run P (n + 2), run P n, P.cv, P.lam, P.wf, n + 2⟩
def run2 (P : Prg) : Nat → Nat → List T → Sto → Res
  | n + 2 => run P n
  | _ => nilC
def lam2 (P : Prg) : Nat → Nat → Option (List (Nat × T) × T)
  | _ + 2 => P.lam
  | _ => fun _ => none
def ev (P : Prg) (n : Nat) : EV := ⟨run P n, run2 P n, P.cv, lam2 P n, P.wf, n⟩
theorem run_eq (P : Prg) (n : Nat) : run P (n + 1) = body1 P (ev P n) := by
  match n with
  | 0 => rfl
  | 1 => rfl
  | n + 2 => rfl
end Fw

namespace Fw
open PySem L2 PyProof.Rows

/-! ### the store -/
/-- a dict whose keys are tuples: its entries as they are -/
def DkO (P : Program) (w : World) (a : Addr) (xs : List (NestedKey × Addr × Value)) : HO := .ext fun h => ∃ (o : Obj) (es : Array DictEntry) (ep : Nat), h.get? a = some o ∧ o.ExactDict ∧ o.data = .dict es ep ∧ es.toList = xs.map (entryOfKey (nestedKind P w))
theorem heap_with (a : Addr) (o : Obj) (hf : o.isFreed = false) : ∃ h : Heap, h.get? a = some o := by
  have key : ∀ n, ∃ h : Heap, h.objs.size = n := by
    intro n
    induction n with
    | zero => exact ⟨⟨#[], default⟩, rfl⟩
    | succ n ih =>
      obtain ⟨h, e⟩ := ih
      exact ⟨h.push o, by rw [Heap.size_push, e]⟩
  obtain ⟨h, e⟩ := key a
  refine ⟨h.push o, ?_⟩
  rw [← e]
  exact Heap.get?_push_size _ hf
theorem dkO_code {P : Program} {w : World} {a : Addr} {xs : List (NestedKey × Addr × Value)} {q : Str} : DkO P w a xs ≠ LamX.CodeO a q := fun e => by
  unfold DkO LamX.CodeO at e
  injection e with e
  obtain ⟨h, eh⟩ := heap_with a { cls := .type "dict", data := .dict (xs.map (entryOfKey (nestedKind P w))).toArray 0 } rfl
  have z := congrFun e h
  have : (∃ (oc : Obj) (vs : Array Value) (t : Tok), h.get? a = some oc ∧ oc.data = .fields vs ∧ vs[1]? = some (.str q t)) := by
    rw [← z]
    exact ⟨_, _, _, eh, ⟨rfl, rfl, rfl⟩, rfl, by simp⟩
  obtain ⟨oc, vs, t, h1, h2, _⟩ := this
  rw [eh] at h1
  cases h1
  cases h2
/-- keys and values of a dict against its entries -/
def KD (g : GW) (m : List Addr) (H : Hp) : List (T × T) → List (NestedKey × Addr × Value) → Prop
  | [], xs => xs = []
  | p :: l, xs => ∃ x r, xs = x :: r ∧ (tkey p.1 = some x.1 ∧ Rep g m H p.1 (.ref x.2.1) ∧ ∃ v, Rep g m H p.2 v ∧ RelV v x.2.2) ∧ KD g m H l r
theorem KD.mono {g : GW} {m m' : List Addr} {H H' : Hp} (e : Ext m H m' H') : ∀ {l : List (T × T)} {xs : List (NestedKey × Addr × Value)}, KD g m H l xs → KD g m' H' l xs
  | [], xs, h => h
  | p :: l, xs, h => by
    obtain ⟨x, r, h1, ⟨h2, h3, v, h4, h5⟩, h6⟩ := h
    exact ⟨x, r, h1, ⟨h2, Rep.mono e _ h3, v, Rep.mono e _ h4, h5⟩, KD.mono e h6⟩
theorem KD.length {g : GW} {m : List Addr} {H : Hp} : ∀ {l : List (T × T)} {xs : List (NestedKey × Addr × Value)}, KD g m H l xs → l.length = xs.length
  | [], xs, h => by cases (show xs = [] from h); rfl
  | p :: l, xs, h => by
    obtain ⟨x, r, rfl, _, h6⟩ := h
    simp [KD.length h6]
/-- a dict's table at a -/
def DRep (g : GW) (m : List Addr) (H : Hp) (l : List (T × T)) (a : Addr) (xs : List (NestedKey × Addr × Value)) : Prop := l.length ≤ sizeLine ∧ (a == sysModules) = false ∧ KD g m H l xs ∧ (xs.map (·.1)).Nodup
/-- keys that are whole numbers or texts -/
def ky (t : T) : Option Key := match t with
  | .int i => some (.inl i)
  | .str s => some (.inr s)
  | _ => none
def KY (g : GW) (m : List Addr) (H : Hp) : List (T × T) → List (Key × V) → Prop
  | [], xs => xs = []
  | p :: l, xs => ∃ x r, xs = x :: r ∧ (ky p.1 = some x.1 ∧ Rep g m H p.2 x.2) ∧ KY g m H l r
theorem KY.mono {g : GW} {m m' : List Addr} {H H' : Hp} (e : Ext m H m' H') : ∀ {l : List (T × T)} {xs : List (Key × V)}, KY g m H l xs → KY g m' H' l xs
  | [], xs, h => h
  | p :: l, xs, h => by
    obtain ⟨x, r, h1, ⟨h2, h3⟩, h6⟩ := h
    exact ⟨x, r, h1, ⟨h2, Rep.mono e _ h3⟩, KY.mono e h6⟩
theorem KY.length {g : GW} {m : List Addr} {H : Hp} : ∀ {l : List (T × T)} {xs : List (Key × V)}, KY g m H l xs → l.length = xs.length
  | [], xs, h => by cases (show xs = [] from h); rfl
  | p :: l, xs, h => by
    obtain ⟨x, r, rfl, _, h6⟩ := h
    simp [KY.length h6]
def ObR (g : GW) (m : List Addr) (H : Hp) : Ob → Addr → Prop
  | .lst l, a => ∃ vs, H a = some (.lst vs) ∧ RepL g m H l vs
  | .dct l, a => ∃ xs, H a = some (DkO g.pr g.wd a xs) ∧ DRep g m H l a xs
  | .dfz l, a => ∃ xs od, H a = some (.frz od (DkO g.pr g.wd a xs)) ∧ DRep g m H l a xs
  | .dkf l, a => ∃ (xs : List (Key × V)) (od : Obj), H a = some (.frz od (.dK xs)) ∧ l.length ≤ sizeLine ∧ KY g m H l xs ∧ (xs.map (·.1)).Nodup
  | .dki l, a => ∃ xs : List (Key × V), H a = some (.dK xs) ∧ l.length ≤ sizeLine ∧ KY g m H l xs ∧ (xs.map (·.1)).Nodup
  | _, _ => False
/-- what a box may be -/
def BxO (o : HO) (a : Addr) : Prop := (∃ vs, o = .lst vs) ∨ (∃ P w xs, o = DkO P w a xs) ∨ (∃ od u, o = .frz od u) ∨ ∃ xs, o = .dK xs
theorem BxO.nt {o : HO} {a : Addr} (h : BxO o a) : NT o := fun ps z => by
  rcases h with ⟨vs, rfl⟩ | ⟨P, w, xs, rfl⟩ | ⟨od, u, rfl⟩ | ⟨xs, rfl⟩
  · cases z
  · unfold DkO at z; cases z
  · cases z
  · cases z
theorem BxO.code {o : HO} {a : Addr} (h : BxO o a) (q : Str) : o ≠ LamX.CodeO a q := fun z => by
  rcases h with ⟨vs, rfl⟩ | ⟨P, w, xs, rfl⟩ | ⟨od, u, rfl⟩ | ⟨xs, rfl⟩
  · unfold LamX.CodeO at z; cases z
  · exact dkO_code z
  · unfold LamX.CodeO at z; cases z
  · unfold LamX.CodeO at z; cases z

structure SRep (g : GW) (m : List Addr) (H : Hp) (S : Sto) : Prop where
  len : m.length = S.length
  nd : m.Nodup
  at_ : ∀ (n : Nat) (ob : Ob) (a : Addr), S[n]? = some ob → m[n]? = some a → ObR g m H ob a
  fbs : ∀ a ∈ g.fb, Re H a ∧ a ∉ m
  tab : LamX.Tabs g.T H

theorem ObR.there {g : GW} {m : List Addr} {H : Hp} {ob : Ob} {a : Addr} (h : ObR g m H ob a) : ∃ o, H a = some o := by
  cases ob with
  | lst l => obtain ⟨vs, e, _⟩ := h; exact ⟨_, e⟩
  | dct _ => obtain ⟨xs, e, _⟩ := h; exact ⟨_, e⟩
  | dfz _ => obtain ⟨xs, od, e, _⟩ := h; exact ⟨_, e⟩
  | dki _ => obtain ⟨xs, e, _⟩ := h; exact ⟨_, e⟩
  | dkf _ => obtain ⟨xs, od, e, _⟩ := h; exact ⟨_, e⟩
  | ins _ _ => exact h.elim
theorem ObR.bx {g : GW} {m : List Addr} {H : Hp} {ob : Ob} {a : Addr} (h : ObR g m H ob a) : ∃ o, H a = some o ∧ BxO o a := by
  cases ob with
  | lst l => obtain ⟨vs, e, _⟩ := h; exact ⟨_, e, .inl ⟨_, rfl⟩⟩
  | dct _ => obtain ⟨xs, e, _⟩ := h; exact ⟨_, e, .inr (.inl ⟨_, _, _, rfl⟩)⟩
  | dfz _ => obtain ⟨xs, od, e, _⟩ := h; exact ⟨_, e, .inr (.inr (.inl ⟨_, _, rfl⟩))⟩
  | dki _ => obtain ⟨xs, e, _⟩ := h; exact ⟨_, e, .inr (.inr (.inr ⟨_, rfl⟩))⟩
  | dkf _ => obtain ⟨xs, od, e, _⟩ := h; exact ⟨_, e, .inr (.inr (.inl ⟨_, _, rfl⟩))⟩
  | ins _ _ => exact h.elim

theorem SRep.there {g : GW} {m : List Addr} {H : Hp} {S : Sto} (r : SRep g m H S) {a : Addr} (h : a ∈ m) : ∃ o, H a = some o := by
  obtain ⟨n, hn, e⟩ := List.mem_iff_getElem.mp h
  have h1 : n < S.length := by rw [← r.len]; exact hn
  have e2 : m[n]? = some a := by rw [List.getElem?_eq_getElem hn, e]
  exact (r.at_ n S[n] a (List.getElem?_eq_getElem h1) e2).there

theorem SRep.freshF {g : GW} {m : List Addr} {H : Hp} {S : Sto} (r : SRep g m H S) {a : Addr} (h : H a = none) : a ∉ g.fb := fun q => by
  obtain ⟨o, e, _⟩ := (r.fbs a q).1
  rw [h] at e; cases e
theorem Ext.fbs {fb m m' : List Addr} {H H' : Hp} (e : Ext m H m' H') (h : ∀ a ∈ fb, Re H a ∧ a ∉ m) : ∀ a ∈ fb, Re H' a ∧ a ∉ m' := fun a ha => by
  obtain ⟨⟨o, h1, hn⟩, h2⟩ := h a ha
  exact ⟨⟨o, e.keep a _ h1 h2 hn, hn⟩, e.notin h1 h2 hn⟩

theorem SRep.fresh {g : GW} {m : List Addr} {H : Hp} {S : Sto} (r : SRep g m H S) {a : Addr} (h : H a = none) : a ∉ m := fun q => by
  obtain ⟨o, e⟩ := r.there q
  rw [h] at e; cases e

/-- a new tracked object -/
theorem Ext.new {m : List Addr} {H : Hp} {p : Addr} {o : HO} (h : H p = none) : Ext m H m (upd H p o) :=
  ⟨⟨[], by simp, by simp⟩, fun a u e _ _ => by rw [upd_ne (ne_of_none e h)]; exact e, fun a _ ⟨u, n, hn⟩ => ⟨u, by rw [upd_ne (ne_of_none n h)]; exact n, hn⟩, fun a od u e => by rw [upd_ne (ne_of_none e h)]; exact e⟩
/-- .. as a box -/
theorem Ext.box {m : List Addr} {H : Hp} {p : Addr} {o : HO} (h : H p = none) : Ext m H (m ++ [p]) (upd H p o) :=
  ⟨⟨[p], rfl, fun a q => by
    simp only [List.mem_singleton] at q; subst q
    rintro ⟨u, e, _⟩
    rw [h] at e; cases e⟩, fun a u e _ _ => by rw [upd_ne (ne_of_none e h)]; exact e, fun a _ ⟨u, n, hn⟩ => ⟨u, by rw [upd_ne (ne_of_none n h)]; exact n, hn⟩, fun a od u e => by rw [upd_ne (ne_of_none e h)]; exact e⟩
/-- the tables stay -/
theorem tab_new {T : List (Addr × Str)} {H : Hp} {p : Addr} {o : HO} (t : LamX.Tabs T H) (h : H p = none) : LamX.Tabs T (upd H p o) := t.ext fun b u e => by rw [upd_ne (ne_of_none e h)]; exact e
theorem tab_write {T : List (Addr × Str)} {H : Hp} {p : Addr} {o o' : HO} (t : LamX.Tabs T H) (h : H p = some o) (hb : BxO o p) : LamX.Tabs T (upd H p o') := fun q hq => by
  obtain ⟨ps, h1, h2, h3⟩ := t q hq
  refine ⟨ps, ?_, h2, fun pos cv hc => ?_⟩
  · rw [upd_ne fun z => by rw [z, h] at h1; exact hb.nt ps (Option.some.inj h1)]; exact h1
  · obtain ⟨c, e1, e2⟩ := h3 pos cv hc
    refine ⟨c, e1, ?_⟩
    rw [upd_ne fun z => by subst z; rw [h] at e2; exact hb.code _ (Option.some.inj e2)]; exact e2

theorem ObR.mono {g : GW} {m m' : List Addr} {H H' : Hp} {ob : Ob} {a : Addr} (e : Ext m H m' H') (h : ObR g m H ob a) (k : H' a = H a) : ObR g m' H' ob a := by
  cases ob with
  | lst l => obtain ⟨vs, e1, r⟩ := h; exact ⟨vs, by rw [k]; exact e1, RepL.mono e l r⟩
  | dct _ => obtain ⟨xs, e1, z1, z2, r, z3⟩ := h; exact ⟨xs, by rw [k]; exact e1, z1, z2, KD.mono e r, z3⟩
  | dfz _ => obtain ⟨xs, od, e1, z1, z2, r, z3⟩ := h; exact ⟨xs, od, by rw [k]; exact e1, z1, z2, KD.mono e r, z3⟩
  | dki _ => obtain ⟨xs, e1, z1, r, z3⟩ := h; exact ⟨xs, by rw [k]; exact e1, z1, KY.mono e r, z3⟩
  | dkf _ => obtain ⟨xs, od, e1, z1, r, z3⟩ := h; exact ⟨xs, od, by rw [k]; exact e1, z1, KY.mono e r, z3⟩
  | ins _ _ => exact h.elim

/-- a tree is laid: the boxes are as they were -/
theorem SRep.new {g : GW} {m : List Addr} {H : Hp} {S : Sto} (r : SRep g m H S) {p : Addr} {o : HO} (h : H p = none) : SRep g m (upd H p o) S :=
  ⟨r.len, r.nd, fun n ob a h1 h2 => (r.at_ n ob a h1 h2).mono (Ext.new h) (upd_ne fun q => by
    obtain ⟨u, e⟩ := (r.at_ n ob a h1 h2).there
    rw [q, h] at e; cases e), (Ext.new h).fbs r.fbs, tab_new r.tab h⟩

theorem SRep.boxO {g : GW} {m : List Addr} {H : Hp} {S : Sto} (r : SRep g m H S) {p : Addr} {o : HO} {ob0 : Ob} (h : H p = none) (q : ObR g (m ++ [p]) (upd H p o) ob0 p) :
    SRep g (m ++ [p]) (upd H p o) (S ++ [ob0]) := by
  refine ⟨by simp [r.len], ?_, fun n ob a h1 h2 => ?_, (Ext.box h).fbs r.fbs, tab_new r.tab h⟩
  · refine List.nodup_append.mpr ⟨r.nd, by simp, fun a ha b hb e => ?_⟩
    simp only [List.mem_singleton] at hb
    subst hb; subst e
    exact r.fresh h ha
  · by_cases hn : n < S.length
    · rw [List.getElem?_append_left hn] at h1
      rw [List.getElem?_append_left (by rw [r.len]; exact hn)] at h2
      have z := r.at_ n ob a h1 h2
      exact z.mono (Ext.box h) (upd_ne fun q => by
        obtain ⟨u, e⟩ := z.there
        rw [q, h] at e; cases e)
    · have e1 : n = S.length := by
        have := (List.getElem?_eq_some_iff.mp h1).1
        simp at this
        omega
      subst e1
      rw [List.getElem?_append_right (Nat.le_refl _)] at h1
      rw [List.getElem?_append_right (by rw [r.len]; exact Nat.le_refl _)] at h2
      simp [r.len] at h1 h2
      subst h1; subst h2
      exact q
theorem SRep.box {g : GW} {m : List Addr} {H : Hp} {S : Sto} (r : SRep g m H S) {p : Addr} {l : List T} {vs : List V} (h : H p = none) (q : RepL g m H l vs) :
    SRep g (m ++ [p]) (upd H p (.lst vs)) (S ++ [.lst l]) := r.boxO h ⟨vs, upd_same, RepL.mono (Ext.box h) l q⟩

/-- a box's list is written -/
theorem Ext.write {m : List Addr} {H : Hp} {p : Addr} {o : HO} (h : p ∈ m) (hf : ∀ od u, H p ≠ some (.frz od u)) (ho : NT o := by intro ps q; cases q) : Ext m H m (upd H p o) :=
  ⟨⟨[], by simp, by simp⟩, fun a u e _ n => by
    rw [upd_ne (fun q => n (by rw [q]; exact h))]; exact e, fun a _ n => by
    by_cases e : a = p
    · subst e; exact ⟨o, upd_same, ho⟩
    · obtain ⟨u, n, hn⟩ := n
      exact ⟨u, by rw [upd_ne e]; exact n, hn⟩, fun a od u e => by
    rw [upd_ne (fun q => hf od u (by rw [← q]; exact e))]; exact e⟩
theorem SRep.boxN {g : GW} {m : List Addr} {H : Hp} {S : Sto} (r : SRep g m H S) {p : Addr} (h : p ∈ m) : ∃ o, H p = some o ∧ BxO o p := by
  obtain ⟨n, hn, e⟩ := List.mem_iff_getElem.mp h
  have h1 : n < S.length := by rw [← r.len]; exact hn
  exact (r.at_ n S[n] p (List.getElem?_eq_getElem h1) (by rw [List.getElem?_eq_getElem hn, e])).bx
theorem SRep.writeO {g : GW} {m : List Addr} {H : Hp} {S : Sto} (r : SRep g m H S) {k : Nat} {p : Addr} {o : HO} {ob : Ob} (h : m[k]? = some p) (hf : ∀ od u, H p ≠ some (.frz od u)) (hn : NT o := by intro ps q; cases q) (q : ObR g m (upd H p o) ob p) : SRep g m (upd H p o) (S.set k ob) := by
  have hp : p ∈ m := List.mem_of_getElem? h
  have hk : k < S.length := by rw [← r.len]; exact (List.getElem?_eq_some_iff.mp h).1
  refine ⟨by simp [r.len], r.nd, fun n ob' a h1 h2 => ?_, (Ext.write hp hf hn).fbs r.fbs, by
    obtain ⟨o0, e, hb⟩ := r.boxN hp
    exact tab_write r.tab e hb⟩
  by_cases e : n = k
  · subst e
    rw [List.getElem?_set_self hk] at h1
    cases h1
    rw [h] at h2; cases h2
    exact q
  · rw [List.getElem?_set_ne (Ne.symm e)] at h1
    have z := r.at_ n ob' a h1 h2
    refine z.mono (Ext.write hp hf hn) (upd_ne fun q => e ?_)
    subst q
    exact nd_ix r.nd h2 h
theorem SRep.write {g : GW} {m : List Addr} {H : Hp} {S : Sto} (r : SRep g m H S) {k : Nat} {p : Addr} {l : List T} {vs : List V} (h : m[k]? = some p) (hf : ∀ od u, H p ≠ some (.frz od u)) (q : RepL g m H l vs) :
    SRep g m (upd H p (.lst vs)) (S.set k (.lst l)) := r.writeO h hf (q := ⟨vs, upd_same, RepL.mono (Ext.write (List.mem_of_getElem? h) hf) l q⟩)

/-! ### what a step is to reach -/
def ERep (g : GW) (m : List Addr) (H : Hp) (ρ : Rho) (σ : L2.St) : Prop :=
  σ.length = ρ.length ∧ ∀ (i : Nat) (t : T), ρ[i]? = some (some t) → ∃ v, σ[i]? = some (some v) ∧ Rep g m H t v

theorem ERep.mono {g : GW} {m m' : List Addr} {H H' : Hp} {ρ : Rho} {σ : L2.St} (e : Ext m H m' H') (h : ERep g m H ρ σ) : ERep g m' H' ρ σ :=
  ⟨h.1, fun i t q => let ⟨v, h1, h2⟩ := h.2 i t q; ⟨v, h1, Rep.mono e t h2⟩⟩

theorem ERep.set {g : GW} {m : List Addr} {H : Hp} {ρ : Rho} {σ : L2.St} (h : ERep g m H ρ σ) (i : Nat) {t : T} {v : V} (r : Rep g m H t v) : ERep g m H (ρ.set i (some t)) (σ.set i (some v)) := by
  refine ⟨by simp [h.1], fun j u q => ?_⟩
  by_cases e : i = j
  · subst e
    have hi : i < ρ.length := by
      have := (List.getElem?_eq_some_iff.mp q).1
      simpa using this
    rw [List.getElem?_set_self hi] at q
    simp only [Option.some.injEq] at q
    subst q
    exact ⟨v, List.getElem?_set_self (by rw [h.1]; exact hi), r⟩
  · rw [List.getElem?_set_ne e] at q
    obtain ⟨w, h1, h2⟩ := h.2 j u q
    exact ⟨w, by rw [List.getElem?_set_ne e]; exact h1, h2⟩

theorem ERep.unset {g : GW} {m : List Addr} {H : Hp} {ρ : Rho} {σ : L2.St} (h : ERep g m H ρ σ) (i : Nat) : ERep g m H (ρ.set i none) (σ.set i none) := by
  refine ⟨by simp [h.1], fun j u q => ?_⟩
  by_cases e : i = j
  · subst e
    have hi : i < ρ.length := by
      have := (List.getElem?_eq_some_iff.mp q).1
      simpa using this
    rw [List.getElem?_set_self hi] at q
    cases q
  · rw [List.getElem?_set_ne e] at q
    obtain ⟨w, h1, h2⟩ := h.2 j u q
    exact ⟨w, by rw [List.getElem?_set_ne e]; exact h1, h2⟩

theorem ERep.wipe {g : GW} {m : List Addr} {H : Hp} {ρ : Rho} {σ : L2.St} (h : ERep g m H ρ σ) : ∀ own : List Nat, ERep g m H (wipeR ρ own) (L2.wipe σ own)
  | [] => h
  | v :: vs => by
    show ERep g m H ((wipeR ρ vs).set v none) ((L2.wipe σ vs).set v none)
    exact (ERep.wipe h vs).unset v

structure RS (g : GW) (m : List Addr) (σ : L2.St) (H : Hp) (ρ : Rho) (S : Sto) : Prop where
  env : ERep g m H ρ σ
  sto : SRep g m H S

/-- how an error lies: its class, and the value of its attribute -/
def XRep (g : GW) (H : Hp) (c : Nat) (p : Option T) (cls : Value) (d : Option Addr) : Prop :=
  cls = .ref (g.ea c) ∧ ((p = none ∧ d = none) ∨ ∃ f i dd, p = some (.err c f [.int i]) ∧ d = some dd ∧ H dd = some (.xd [(f, V.int i)]))

def GoodE (g : GW) (W : WX) (m : List Addr) (σ : L2.St) (H : Hp) (Q : VK) : Out → Prop
  | .ok t S' => ∀ v m' H', Ext m H m' H' → SRep g m' H' S' → Rep g m' H' t v → Q v H'
  | .ex c p S' => ∀ cls d m' H', Ext m H m' H' → SRep g m' H' S' → XRep g H' c p cls d → W cls d σ H'

theorem GoodE.ext {g : GW} {W : WX} {m m' : List Addr} {σ : L2.St} {H H' : Hp} {Q : VK} {o : Out} (h : GoodE g W m σ H Q o) (e : Ext m H m' H') : GoodE g W m' σ H' Q o := by
  cases o with
  | ok t S => exact fun v m2 H2 e2 => h v m2 H2 (e.trans e2)
  | ex c p S => exact fun cls d m2 H2 e2 => h cls d m2 H2 (e.trans e2)

/-- an expression's reading, by what it comes to -/
def tE (g : GW) (W : WX) (f : Rho → Sto → Res) : TE := fun σ H Q => ∃ fb m ρ S o, RS (g.w fb) m σ H ρ S ∧ f ρ S = some o ∧ GoodE (g.w fb) W m σ H Q o

/-- the first part of a step -/
theorem tE_bnd {g : GW} {fb : List Addr} {W : WX} {f : Rho → Sto → Res} {k : T → Sto → Res} {m : List Addr} {σ : L2.St} {H : Hp} {ρ : Rho} {S : Sto} {o : Out} {Q R : VK}
    (h : bnd (f ρ S) k = some o) (rs : RS (g.w fb) m σ H ρ S) (G : GoodE (g.w fb) W m σ H Q o)
    (hk : ∀ t S1 v m1 H1, k t S1 = some o → Ext m H m1 H1 → RS (g.w fb) m1 σ H1 ρ S1 → Rep (g.w fb) m1 H1 t v → GoodE (g.w fb) W m1 σ H1 Q o → R v H1) : tE g W f σ H R := by
  cases e : f ρ S with
  | none => rw [e] at h; cases h
  | some r =>
    rw [e] at h
    refine ⟨fb, m, ρ, S, r, rs, e, ?_⟩
    cases r with
    | ok t S1 => exact fun v m1 H1 x sr rp => hk t S1 v m1 H1 h x ⟨rs.env.mono x, sr⟩ rp (G.ext x)
    | ex c p S1 =>
      have : o = .ex c p S1 := (Option.some.inj h).symm
      subst this
      exact G

theorem _root_.L2.PE.of {X : Cx} {e : Expr} {t t' : TE} (h : PE X e t) (i : ∀ σ H Q, t' σ H Q → t σ H Q) : PE X e t' := ⟨fun pins s σ H Q I q => h.run pins s σ H Q I (i σ H Q q)⟩
theorem _root_.L2.PT.of {X : Cx} {e : Expr} {t t' : TT} (h : PT X e t) (i : ∀ σ H Q, t' σ H Q → t σ H Q) : PT X e t' := ⟨fun pins s σ H Q I q => h.run pins s σ H Q I (i σ H Q q)⟩
theorem _root_.L2.PA.of {X : Cx} {e : List Expr} {t t' : TA} (h : PA X e t) (i : ∀ σ H Q, t' σ H Q → t σ H Q) : PA X e t' := ⟨fun pos pins s σ H Q I q => h.run pos pins s σ H Q I (i σ H Q q)⟩
theorem _root_.L2.PSs.of {X : Cx} {e : List Stmt} {t t' : TS} (h : PSs X e t) (i : ∀ D σ H, t' D σ H → t D σ H) : PSs X e t' := ⟨fun pins s σ H D I q => h.run pins s σ H D I (i D σ H q)⟩
theorem _root_.L2.PS.of {X : Cx} {e : Stmt} {t t' : TS} (h : PS X e t) (i : ∀ D σ H, t' D σ H → t D σ H) : PS X e t' := ⟨fun pins s σ H D I q => h.run pins s σ H D I (i D σ H q)⟩
theorem _root_.L2.PI.of {X : Cx} {tg e : Expr} {t t' : TI} (h : PI X tg e t) (i : ∀ σ H R, t' σ H R → t σ H R) : PI X tg e t' := ⟨fun pins s σ H R I q => h.run pins s σ H R I (i σ H R q)⟩

/-- arguments: the chain comes to a tuple of them -/
def tA (g : GW) (W : WX) (f : Rho → Sto → Res) : TA := fun σ H Q => ∃ fb m ρ S o, RS (g.w fb) m σ H ρ S ∧ f ρ S = some o ∧ (match o with
  | .ok (.tup l) S' => ∀ vs m' H', Ext m H m' H' → SRep (g.w fb) m' H' S' → RepL (g.w fb) m' H' l vs → Q vs H'
  | .ok _ _ => False
  | .ex c p S' => ∀ cls d m' H', Ext m H m' H' → SRep (g.w fb) m' H' S' → XRep (g.w fb) H' c p cls d → W cls d σ H')
end Fw

namespace Fw
open PySem L2 PyProof.Rows

/-! ### a text held against the small language -/
structure Gm where
  N : List Str
  sc : Scope
  fnT : Str → Bool
  fname : Nat → Option Str
  fnameL : Nat → Option Str
  lv : Bool
  lamN : Nat → Option Str
  nmL : Nat → Option Str
  cname : Nat → Option Str
  ename : Nat → Option Str
  blt : List Str
  exf : Nat → Option Str := fun _ => none
  isxs : List (Str × List Bool) := []
  xms : List (Nat × Nat) := []

def isNm (o : Option Str) (x : Str) : Bool := match o with
  | some y => y == x
  | none => false
def isKind (sc : Scope) (x : Str) (k : NameKind) : Bool := decide (sc.names.lookup x = some k)
def dbg (x : Str) : Bool := !(x == ("__debug__" : Str)) && !(x == ("__classdict__" : Str))
def glb (G : Gm) (x : Str) : Bool := isKind G.sc x .globalImplicit && dbg x
def visB (sc : Scope) (x : Str) : Bool := isKind sc x .local || isKind sc x .cell || isKind sc x .free
/-- a built-in's name, as a built-in -/
def bltB (G : Gm) (x : Str) : Bool := glb G x && G.blt.contains x && !(x == ("__name__" : Str))
def noStar (e : Expr) : Bool := match e with
  | .Starred _ _ => false
  | _ => true
def noSet (e : Expr) : Bool := match e with
  | .Set _ _ _ => false
  | _ => true
def noSup (e : Expr) : Bool := match e with
  | .Call (.Name _ _) [] [] _ => false
  | _ => true
def noComp (e : Expr) : Bool := match e with
  | .ListComp _ _ _ _ => false
  | .SetComp _ _ _ _ => false
  | .DictComp _ _ _ _ _ => false
  | _ => true
def noIf (e : Expr) : Bool := match e with
  | .IfExp _ _ _ _ => false
  | _ => true

def Bl.nm : Bl → Str
  | .len => "len" | .abs => "abs" | .int => "int" | .bool => "bool" | .str => "str" | .max => "max" | .min => "min" | .all => "all" | .tuple => "tuple" | .list => "list"
def Mt.nm : Mt → Str
  | .upper => "upper" | .split => "split" | .join => "join"

/-! views of a text -/
def vConst : Expr → Option Const
  | .Constant c _ _ => some c
  | _ => none
def vName : Expr → Option Str
  | .Name x _ => some x
  | _ => none
def vTup : Expr → Option (List Expr)
  | .Tuple es _ _ => some es
  | _ => none
def vLst : Expr → Option (List Expr)
  | .List es _ => some es
  | _ => none
def vBin : Expr → Option (Expr × Operator × Expr)
  | .BinOp a o b _ => some (a, o, b)
  | _ => none
def vCmp : Expr → Option (Expr × CmpOp × Expr)
  | .Compare a [o] [b] _ => some (a, o, b)
  | _ => none
def vChn : Expr → Option (Expr × CmpOp × Expr × CmpOp × Expr)
  | .Compare a [o, o'] [b, c] _ => some (a, o, b, o', c)
  | _ => none
def vNeg : Expr → Option Expr
  | .UnaryOp .USub a _ => some a
  | _ => none
def vNot : Expr → Option Expr
  | .UnaryOp .Not a _ => some a
  | _ => none
/-- x and y; x and (the rest) -/
def vAnd : Expr → Option (Expr × Expr)
  | .BoolOp .And [x, y] _ => some (x, y)
  | .BoolOp .And (x :: y :: z :: r) p => some (x, .BoolOp .And (y :: z :: r) p)
  | _ => none
def vOr : Expr → Option (Expr × Expr)
  | .BoolOp .Or [x, y] _ => some (x, y)
  | .BoolOp .Or (x :: y :: z :: r) p => some (x, .BoolOp .Or (y :: z :: r) p)
  | _ => none
def vIfE : Expr → Option (Expr × Expr × Expr)
  | .IfExp c a b _ => some (c, a, b)
  | _ => none
def vIx : Expr → Option (Expr × Expr)
  | .Subscript _ (.Slice _ _ _ _) _ => none
  | .Subscript a b _ => some (a, b)
  | _ => none
def vSl : Expr → Option (Expr × Option Expr × Option Expr)
  | .Subscript a (.Slice l h none _) _ => some (a, l, h)
  | _ => none
def vRev : Expr → Option Expr
  | .Subscript a (.Slice none none (some (.UnaryOp .USub (.Constant (.int 1) _ _) _)) _) _ => some a
  | _ => none
def vCall : Expr → Option (Str × List Expr)
  | .Call (.Name x _) (e :: r) [] _ => some (x, e :: r)
  | _ => none
def vCall0 : Expr → Option Str
  | .Call (.Name x _) [] [] _ => some x
  | _ => none
def vMth : Expr → Option (Expr × Str × List Expr)
  | .Call (.Attribute o n ap) r [] pos => if ap.endLine == pos.line then some (o, n, r) else none
  | _ => none
def vAtt : Expr → Option (Expr × Str)
  | .Attribute o n _ => some (o, n)
  | _ => none
def vLc : Expr → Option (Expr × Expr × Expr × List Expr × Scope)
  | .ListComp e [⟨t, it, c, 0⟩] scope _ => some (e, t, it, c, scope)
  | _ => none

def vDv : DV → Expr → Expr → Option Expr
  | .keys, _, e => some e
  | .vals, _, .Call (.Attribute o n ap) [] [] pos => if n == ("values" : Str) && (ap.endLine == pos.line && noSup o) then some o else none
  | .items, .Tuple _ _ _, .Call (.Attribute o n ap) [] [] pos => if n == ("items" : Str) && (ap.endLine == pos.line && noSup o) then some o else none
  | _, _, _ => none
def vVw : DV → Expr → Option Expr
  | .vals, .Call (.Attribute o n ap) [] [] pos => if n == ("values" : Str) && (ap.endLine == pos.line && noSup o) then some o else none
  | .items, .Call (.Attribute o n ap) [] [] pos => if n == ("items" : Str) && (ap.endLine == pos.line && noSup o) then some o else none
  | _, _ => none
def isItems : DV → Bool
  | .items => true
  | _ => false
def keysAre : List Str → List (Option Expr) → Bool
  | [], [] => true
  | k :: ks, some e :: r => (match vConst e with | some (.str c) => k == c | _ => false) && keysAre ks r
  | _, _ => false
def vDisp : Expr → Option (List (Option Expr) × List Expr)
  | .Dict ks vs _ => some (ks, vs)
  | _ => none

def chkT (G : Gm) : Tg → Expr → Bool
  | .nm i, e => (match vName e with
    | some x => decide (G.N[i]? = some x) && (isKind G.sc x .local || (isKind G.sc x .cell && G.fnT x))
    | none => false)
  | .tp a, e => (match vTup e with
    | some es => chkTs G a es
    | none => false)
  | _, _ => false
where chkTs (G : Gm) : Tg → List Expr → Bool
  | .nl, es => es.isEmpty
  | .cn a b, es => (match es with
    | e :: r => chkT G a e && chkTs G b r
    | [] => false)
  | _, _ => false

def slots : Tg → List Nat
  | .nm i => [i]
  | .nl => []
  | .cn a b => slots a ++ slots b
  | .tp a => slots a
def Gm.blk (G : Gm) (scope : Scope) : Gm := { G with sc := relS scope G.sc, fnT := fun x => scope.names.lookup x == some .cell, lamN := fun _ => none }
/-- inside a lambda -/
def Gm.lm (G : Gm) (scope : Scope) : Gm := { G with sc := scope, fnT := fun _ => false, fname := fun _ => none, fnameL := G.nmL, lv := true, lamN := fun _ => none, ename := fun _ => none, isxs := [] }
def vLam : Expr → Option (Str × Arguments × Expr × Scope)
  | .Call (.Name x _) [.Lambda ps body sc _] [] _ => some (x, ps, body, sc)
  | _ => none
def noArgs : Arguments → Bool
  | ⟨[], [], none, [], [], none, []⟩ => true
  | _ => false
def lits (G : Gm) (v : T) (e : Expr) : Bool := match v with
  | .non => (match vConst e with | some .none => true | _ => false)
  | .bl b => (match vConst e with | some (.bool c) => b == c | _ => false)
  | .int b => (match vConst e with | some (.int c) => b == c | _ => false)
  | .str b => (match vConst e with | some (.str c) => b == c | _ => false)
  | .fn f => (match vName e with | some x => isNm (G.fname f) x && glb G x | none => false)
  | _ => false
def isYes (a : IE) : Bool := match a with
  | .lit (.bl true) => true
  | _ => false

def is0 (m : Mt) : Bool := match m with
  | .upper => true
  | _ => false
/-- pairs are taken apart by a written tuple -/
def isPair (src : IE) (t : Expr) : Bool := match src with
  | .zp _ _ => (vTup t).isSome
  | .en _ => (vTup t).isSome
  | _ => true
mutual
def chkE (G : Gm) : IE → Expr → Bool
  | .lit v, e => lits G v e
  | .var i, e => (match vName e with | some x => decide (G.N[i]? = some x) && visB G.sc x && dbg x | none => false)
  | .cst c, e => (match vName e with | some x => isNm (G.cname c) x && glb G x | none => false)
  | .tup es, e => (match vTup e with | some xs => chkA G es xs | none => false)
  | .lst _ es, e => (match vLst e with | some xs => chkA G es xs | none => false)
  | .op _ o a b, e => (match vBin e with | some (x, p, y) => decide (o = p) && (chkE G a x && chkE G b y) | none => false)
  | .cmp o a b, e => (match vCmp e with | some (x, p, y) => decide (o = p) && (chkE G a x && (chkE G b y && noSet y)) | none => false)
  | .chn o o' a b c, e => (match vChn e with | some (x, p, y, p', z) => decide (o = p) && (decide (o' = p') && (chkE G a x && (chkE G b y && (chkE G c z && (noSet y && noSet z))))) | none => false)
  | .neg a, e => (match vNeg e with | some x => chkE G a x | none => false)
  | .not a, e => (match vNot e with | some x => chkE G a x && noIf x | none => false)
  | .and a b, e => (match vAnd e with | some (x, y) => chkE G a x && (chkE G b y && (noIf x && noIf y)) | none => false)
  | .or a b, e => (match vOr e with | some (x, y) => chkE G a x && (chkE G b y && (noIf x && noIf y)) | none => false)
  | .ite c a b, e => (match vIfE e with | some (z, x, y) => chkE G c z && (chkE G a x && (chkE G b y && noIf z)) | none => false)
  | .ix a b, e => (match vIx e with | some (x, y) => chkE G a x && chkE G b y | none => false)
  | .sl _ a lo hi, e => (match vSl e with | some (x, l, h) => chkE G a x && ((match l with | some y => chkE G lo y && !isNil lo | none => isNil lo) && (match h with | some y => chkE G hi y && !isNil hi | none => isNil hi)) | none => false)
  | .rev _ a, e => (match vRev e with | some x => chkE G a x | none => false)
  | .call f es, e => (match vCall e with | some (x, r) => isNm (G.fname f) x && (glb G x && chkA G es r) | none => false)
  | .call0 f, e => (match vCall0 e with | some x => isNm (G.fname f) x && glb G x | none => false)
  | .callL f es, e => (match vCall e with | some (x, r) => isNm (G.fnameL f) x && (glb G x && chkA G es r) | none => false)
  | .callv i es, e => (match vCall e with | some (x, r) => !G.lv && (decide (G.N[i]? = some x) && (visB G.sc x && (dbg x && chkA G es r))) | none => false)
  | .callvL i es, e => (match vCall e with | some (x, r) => G.lv && (decide (G.N[i]? = some x) && (visB G.sc x && (dbg x && chkA G es r))) | none => false)
  | .blt _ b es, e => (match vCall e with | some (x, r) => (b.nm == x) && (bltB G x && chkA G es r) | none => false)
  | .lrg _ a b, e => (match vCall e with
    | some (x, [y]) => (match vCall y with
      | some (z, [u, v]) => (x == ("list" : Str)) && ((z == ("range" : Str)) && (bltB G x && (bltB G z && (noStar y && (chkE G a u && (chkE G b v && (noStar u && noStar v)))))))
      | _ => false)
    | _ => false)
  | .lcB _ own elt tg src cnd, e => (match vLc e with
    | some (x, t, it, cs, scope) => blkC G.N G.sc scope (own.map fun i => (G.N.getD i "", i)) && ((slots tg).all (own.contains ·) && (chkT (G.blk scope) tg t && ((chkE G src it && noSet it) && (chkE (G.blk scope) elt x && (match cs with
      | [] => isYes cnd
      | [c] => chkE (G.blk scope) cnd c && noIf c
      | _ => false)))))
    | none => false)
  | .lcD _ own elt tg dv src cnd, e => (match vLc e with
    | some (x, t, it, cs, scope) => blkC G.N G.sc scope (own.map fun i => (G.N.getD i "", i)) && ((slots tg).all (own.contains ·) && (chkT (G.blk scope) tg t && (((match vDv dv t it with | some o => chkE G src o | none => false) && noSet it) && (chkE (G.blk scope) elt x && (match cs with
      | [] => isYes cnd
      | [c] => chkE (G.blk scope) cnd c && noIf c
      | _ => false)))))
    | none => false)
  | .dls bx dv a, e => (match vCall e with
    | some (x, [y]) => (match vVw dv y with
      | some o => (x == ("list" : Str)) && (bltB G x && (!(isItems dv && bx) && (noStar y && chkE G a o)))
      | none => false)
    | _ => false)
  | .dsp ks es, e => (match vDisp e with
    | some (keys, vals) => keysAre ks keys && (!ks.isEmpty && (decide (keys.length = vals.length ∧ keys.length ≤ 15) && chkA G es vals))
    | none => false)
  | .srt _ a, e => (match vCall e with | some (x, [y]) => (x == ("sorted" : Str)) && (bltB G x && (noStar y && chkE G a y)) | _ => false)
  | .pop o, e => (match vMth e with | some (x, n, []) => (n == ("pop" : Str)) && (noSup x && chkE G o x) | _ => false)
  | .dnew _, e => (match e with | .Dict [] [] _ => true | _ => false)
  | .dct a, e => (match vCall e with | some (x, [y]) => (x == ("dict" : Str)) && (bltB G x && (noStar y && chkE G a y)) | _ => false)
  | .sst _ a, e => (match vCall e with
    | some (x, [y]) => (match vCall y with
      | some (z, [u]) => (x == ("sorted" : Str)) && ((z == ("set" : Str)) && (bltB G x && (bltB G z && (noStar y && (noStar u && chkE G a u)))))
      | _ => false)
    | _ => false)
  | .lam f b, e => (match vLam e with | some (x, ps, body, sc) => isNm (G.lamN f) x && (glb G x && (noArgs ps && (LamX.lamSB G.sc sc && chkE (G.lm sc) b body))) | none => false)
  | .isi a ty, e => (match vCall e with
    | some (x, [y, z]) => (match vName z with
      | some w => (x == ("isinstance" : Str)) && ((w == Str.ofString ty) && (bltB G x && (bltB G w && (["int", "bool", "str", "tuple", "list"].contains ty && (chkE G a y && noStar y)))))
      | none => false)
    | _ => false)
  | .mkE c a, e => (match vCall e with | some (x, [y]) => isNm (G.ename c) x && (glb G x && ((G.exf c).isNone && (noStar y && chkE G a y))) | _ => false)
  | .mkX c f a, e => (match vCall e with | some (x, [y]) => isNm (G.ename c) x && (glb G x && (isNm (G.exf c) f && (noStar y && chkE G a y))) | _ => false)
  | .isx a x yes, e => (match vCall e with
    | some (n, [y, z]) => (match vName z with
      | some w => (n == ("isinstance" : Str)) && ((w == x) && (bltB G n && (glb G w && (G.isxs.contains (x, yes) && (chkE G a y && noStar y)))))
      | none => false)
    | _ => false)
  | .fld a f cs, e => (match vAtt e with | some (o, n) => (n == f) && (noSup o && (cs.all (fun c => isNm (G.exf c) f && (G.ename c).isSome) && chkE G a o)) | none => false)
  | .mt0 m o, e => (match vMth e with | some (x, n, []) => (m.nm == n) && (is0 m && (noSup x && chkE G o x)) | _ => false)
  | .mt1 m o a, e => (match vMth e with | some (x, n, [y]) => (m.nm == n) && (!is0 m && (noSup x && (noStar y && (chkE G o x && chkE G a y)))) | _ => false)
  | .lc _ own elt tg src cnd, e => (match vLc e with
    | some (x, t, it, cs, scope) => blkC G.N G.sc scope (own.map fun i => (G.N.getD i "", i)) && ((slots tg).all (own.contains ·) && (chkT (G.blk scope) tg t && ((isPair src t && (chkI G src it && noSet it)) && (chkE (G.blk scope) elt x && (match cs with
      | [] => isYes cnd
      | [c] => chkE (G.blk scope) cnd c && noIf c
      | _ => false)))))
    | none => false)
  | _, _ => false
def chkA (G : Gm) : IE → List Expr → Bool
  | .nil, es => es.isEmpty
  | .cons a b, es => (match es with | e :: r => chkE G a e && (noStar e && chkA G b r) | [] => false)
  | _, _ => false
def chkI (G : Gm) : IE → Expr → Bool
  | .sq a, e => chkE G a e && noSet e
  | .sqS a, e => chkE G a e && noSet e
  | .rg1 a, e => (match vCall e with | some (x, [y]) => (x == ("range" : Str)) && (bltB G x && (chkE G a y && noStar y)) | _ => false)
  | .rg2 a b, e => (match vCall e with | some (x, [y, z]) => (x == ("range" : Str)) && (bltB G x && (chkE G a y && (chkE G b z && (noStar y && noStar z)))) | _ => false)
  | .zp a b, e => (match vCall e with | some (x, [y, z]) => (x == ("zip" : Str)) && (bltB G x && (chkE G a y && (chkE G b z && (noStar y && noStar z)))) | _ => false)
  | .en a, e => (match vCall e with | some (x, [y]) => (x == ("enumerate" : Str)) && (bltB G x && (chkE G a y && noStar y)) | _ => false)
  | _, _ => false
end
def chkO (G : Gm) (a : IE) (o : Option Expr) : Bool := match o with
  | some e => chkE G a e && !isNil a
  | none => isNil a

/-! ### statements -/
/-- how a written tuple is stored into a written tuple of names: none where the library has no word -/
def swN (sc : Scope) (ts vs : List Expr) : Option (Option (List Str)) :=
  if (!(ts.length == 2 || ts.length == 3) || vs.length != ts.length) = true then some none else
  if (vs.any fun | .Starred .. => true | _ => false) = true then some none else
  if ((ts.filterMap fun
    | .Name id pos => if sc.names.lookup id == some .local && pos.line == (ts.head?.map (·.pos.line)).getD 0 then some id else none
    | _ => none).length != ts.length || (ts.filterMap fun
    | .Name id pos => if sc.names.lookup id == some .local && pos.line == (ts.head?.map (·.pos.line)).getD 0 then some id else none
    | _ => none).eraseDups.length != (ts.filterMap fun
    | .Name id pos => if sc.names.lookup id == some .local && pos.line == (ts.head?.map (·.pos.line)).getD 0 then some id else none
    | _ => none).length) = true then some none else
  if vs.all (foldedForSure 8) = true then some none else
  if vs.all (constantsAlone 8) = true then none else
  some (some (ts.filterMap fun
    | .Name id pos => if sc.names.lookup id == some .local && pos.line == (ts.head?.map (·.pos.line)).getD 0 then some id else none
    | _ => none))
/-- stored as one value -/
def asOne (G : Gm) (ts : List Expr) (v : Expr) : Bool := match vTup v with
  | some vs => decide (swN G.sc ts vs = some none)
  | none => true
/-- a comprehension whose list goes straight to the name -/
def swC (G : Gm) (x : Str) (l : Nat) (v : Expr) : Bool := match v with
  | .ListComp _ _ scope p => isKind G.sc x .local && (l == p.line) && !(scope.names.any fun (n, k) => n == x && (k == .local || k == .cell))
  | _ => false

/-- a comprehension stored as any value is: to a captured name, or on another line -/
def swF (G : Gm) (x : Str) (l : Nat) (v : Expr) : Bool := match v with
  | .ListComp _ _ _ p => !isKind G.sc x .local || !(l == p.line)
  | _ => false

inductive VS where
  | pass | brk | cnt | ret (e : Option Expr) | expr (e : Expr) | asg (t : Expr) (v : Expr) (l : Nat) | iff (c : Expr) (a b : List Stmt)
  | for_ (t i : Expr) (b : List Stmt) | whl (c : Expr) (b : List Stmt) | rs (e : Expr) | try_ (b : List Stmt) (hs : List ExceptHandler)
def vS : Stmt → Option VS
  | .Pass _ => some .pass
  | .Break _ => some .brk
  | .Continue _ => some .cnt
  | .Return e _ => some (.ret e)
  | .Expr e _ => some (.expr e)
  | .Assign [t] v _ => some (.asg t v t.pos.line)
  | .If c a b _ => some (.iff c a b)
  | .For t i b [] _ => some (.for_ t i b)
  | .While c b [] _ => some (.whl c b)
  | .Raise (some e) none _ => some (.rs e)
  | .Try b hs [] [] _ => some (.try_ b hs)
  | _ => none
def vSub : Expr → Option (Expr × Expr)
  | .Subscript _ (.Slice _ _ _ _) _ => none
  | .Subscript a b _ => some (a, b)
  | _ => none
def vRs : Expr → Option Str
  | .Call (.Name x _) [.Constant (.str _) _ _] [] _ => some x
  | _ => none
def vName2 : List Expr → Option (Str × Str)
  | [.Name x _, .Name y _] => some (x, y)
  | _ => none
def vName3 : List Expr → Option (Str × Str × Str)
  | [.Name x _, .Name y _, .Name z _] => some (x, y, z)
  | _ => none

def litK (t : T) (e : Expr) : Bool := match t with
  | .non => (match vConst e with | some .none => true | _ => false)
  | .bl b => (match vConst e with | some (.bool c) => b == c | _ => false)
  | .int b => (match vConst e with | some (.int c) => b == c | _ => false)
  | .str b => (match vConst e with | some (.str c) => b == c | _ => false)
  | _ => false
/-- the attribute f of a name -/
def isFld (n f : Str) (e : Expr) : Bool := match e with
  | .Attribute (.Name m _) f' _ => m == n && f' == f
  | _ => false
def isTxt (s n f : Str) (e : Expr) : Bool := match e with
  | .BinOp (.Constant (.str s') _ _) .Add (.Call (.Name x _) [.Attribute (.Name m _) f' _] [] _) _ => s' == s && (x == ("str" : Str) && (m == n && f' == f))
  | _ => false
def chkH (G : Gm) (h : Nat × HK) : ExceptHandler → Bool
  | .ExceptHandler (some (.Name x _)) as_ [.Return (some v) _] _ => isNm (G.ename h.1) x && (glb G x && (match h.2, as_ with
    | .lit t, none => litK t v
    | .fld i f, some n => decide (G.N[i]? = some n) && (isKind G.sc n .local && (dbg n && (isFld n f v && isNm (G.exf h.1) f)))
    | .txt s i f, some n => decide (G.N[i]? = some n) && (isKind G.sc n .local && (dbg n && (isTxt s n f v && (bltB G "str" && isNm (G.exf h.1) f))))
    | _, _ => false))
  | _ => false
def chkHs (G : Gm) : List (Nat × HK) → List ExceptHandler → Bool
  | [], [] => true
  | h :: hs, e :: es => chkH G h e && chkHs G hs es
  | _, _ => false
def vRsX : Expr → Option (Str × Expr)
  | .Call (.Name x _) [e] [] _ => some (x, e)
  | _ => none

def chkX (G : Gm) : List TX → List Expr → Bool
  | [], [] => true
  | .nm i :: r, e :: es => chkT G (.nm i) e && chkX G r es
  | .sb o i :: r, e :: es => (match vSub e with | some (x, y) => chkE G o x && chkE G i y | none => false) && chkX G r es
  | _, _ => false
def okH (G : Gm) (c : Nat) : List (Nat × HK) → Bool
  | [] => true
  | h :: r => G.xms.contains (c, h.1) && (c == h.1 || okH G c r)
def noLcD : IE → Bool
  | .lcD _ _ _ _ _ _ _ => false
  | _ => true
mutual
def chkS (G : Gm) : IS → Stmt → Bool
  | .pass, s => (match vS s with | some .pass => true | _ => false)
  | .brk, s => (match vS s with | some .brk => true | _ => false)
  | .cnt, s => (match vS s with | some .cnt => true | _ => false)
  | .ret e, s => (match vS s with | some (.ret (some x)) => chkE G e x | some (.ret none) => (match e with | .lit .non => true | _ => false) | _ => false)
  | .expr e, s => (match vS s with | some (.expr x) => chkE G e x && noComp x | _ => false)
  | .asg tg e, s => (match vS s with
    | some (.asg t v l) => chkT G tg t && (chkE G e v && (match vName t with
      | some x => (noComp v || swF G x l v) || (swC G x l v && noLcD e)
      | none => (match vTup t with
        | some ts => noComp v && asOne G ts v
        | none => false)))
    | _ => false)
  | .par2 i j es, s => (match vS s with
    | some (.asg t v l) => (match vTup t with
      | some ts => (match vTup v with
        | some vs => (match vName2 ts with
          | some (x, y) => decide (G.N[i]? = some x) && (decide (G.N[j]? = some y) && (decide (i ≠ j) && (isKind G.sc x .local && (isKind G.sc y .local && (decide (swN G.sc ts vs = some (some [x, y])) && (chkA G es vs && decide (vs.length = 2)))))))
          | none => false)
        | none => false)
      | none => false)
    | _ => false)
  | .par3 i j k es, s => (match vS s with
    | some (.asg t v l) => (match vTup t with
      | some ts => (match vTup v with
        | some vs => (match vName3 ts with
          | some (x, y, z) => decide (G.N[i]? = some x) && (decide (G.N[j]? = some y) && (decide (G.N[k]? = some z) && (decide (i ≠ j) && (decide (i ≠ k) && (decide (j ≠ k) && (isKind G.sc x .local && (isKind G.sc y .local && (isKind G.sc z .local && (decide (swN G.sc ts vs = some (some [x, y, z])) && (chkA G es vs && decide (vs.length = 3)))))))))))
          | none => false)
        | none => false)
      | none => false)
    | _ => false)
  | .sub o i e, s => (match vS s with
    | some (.asg t v _) => (match vSub t with
      | some (x, y) => chkE G o x && (chkE G i y && chkE G e v)
      | none => false)
    | _ => false)
  | .app o e, s => (match vS s with
    | some (.expr x) => (match vMth x with
      | some (ob, n, [y]) => (n == ("append" : Str)) && (noSup ob && (noStar y && (chkE G o ob && chkE G e y)))
      | _ => false)
    | _ => false)
  | .iff c a b, s => (match vS s with | some (.iff x p q) => chkE G c x && (noIf x && (chkB G a p && chkB G b q)) | _ => false)
  | .for_ tg src b, s => (match vS s with | some (.for_ t it p) => chkT G tg t && (isPair src t && (chkI G src it && (noSet it && chkB G b p))) | _ => false)
  | .forB tg e b, s => (match vS s with | some (.for_ t it p) => chkT G tg t && (chkE G e it && (noSet it && chkB G b p)) | _ => false)
  | .forD dv tg e b, s => (match vS s with
    | some (.for_ t it p) => chkT G tg t && (match vDv dv t it with | some o => chkE G e o && (noSet it && chkB G b p) | none => false)
    | _ => false)
  | .asgX ts es, s => (match vS s with
    | some (.asg t v _) => (match vTup t with
      | some us => (match vTup v with
        | some vs => chkX G ts us && (asOne G us v && chkA G es vs)
        | none => false)
      | none => false)
    | _ => false)
  | .ext o e, s => (match vS s with
    | some (.expr x) => (match vMth x with
      | some (ob, n, [y]) => (n == ("extend" : Str)) && (noSup ob && (noStar y && (chkE G o ob && chkE G e y)))
      | _ => false)
    | _ => false)
  | .whl c b, s => (match vS s with | some (.whl x p) => chkE G c x && (noIf x && chkB G b p) | _ => false)
  | .rsX c f a, s => (match vS s with | some (.rs e) => (match vRsX e with | some (x, y) => isNm (G.ename c) x && (glb G x && (isNm (G.exf c) f && (noStar y && chkE G a y))) | none => false) | _ => false)
  | .tryS b cs hs, s => (match vS s with | some (.try_ p (e :: es)) => chkB G b p && (chkHs G hs (e :: es) && cs.all fun c => okH G c hs) | _ => false)
  | .rs c, s => (match vS s with | some (.rs e) => (match vRs e with | some x => isNm (G.ename c) x && (glb G x && (G.exf c).isNone) | none => false) | _ => false)
  | _, _ => false
def chkB (G : Gm) : IS → List Stmt → Bool
  | .skip, l => l.isEmpty
  | .seq a b, l => (match l with | s :: r => chkS G a s && chkB G b r | [] => false)
  | _, _ => false
end
end Fw

namespace Fw
open PySem L2 PyProof.Rows

/-- as Rep, but a list may be a box's -/
def RepD (g : GW) (m : List Addr) (H : Hp) (t : T) (v : V) : Prop := match t with
  | .lst l => ∃ a vs, v = .ref a ∧ H a = some (.lst vs) ∧ RepL g m H l vs
  | t => Rep g m H t v

theorem RepD.of {g : GW} {m : List Addr} {H : Hp} {t : T} {v : V} (h : Rep g m H t v) : RepD g m H t v := by
  cases t with
  | lst l =>
    simp only [Rep] at h
    obtain ⟨a, vs, h1, _, _, h3, h4⟩ := h
    exact ⟨a, vs, h1, h3, h4⟩
  | _ => exact h

theorem RepD.drf {g : GW} {m : List Addr} {H : Hp} {S : Sto} {t : T} {v : V} (sr : SRep g m H S) (h : Rep g m H t v) : RepD g m H (drf S t) v := by
  cases t with
  | box n =>
    show RepD g m H (match S[n]? with | some (.lst l) => .lst l | _ => .box n) v
    have h' := h
    simp only [Rep] at h
    obtain ⟨a, h1, h2⟩ := h
    cases e : S[n]? with
    | none => exact RepD.of h'
    | some ob =>
      cases ob with
      | lst l =>
        obtain ⟨vs, q1, q2⟩ := sr.at_ n _ a e h1
        exact ⟨a, vs, h2, q1, q2⟩
      | dct _ => exact RepD.of h'
      | dfz _ => exact RepD.of h'
      | dki _ => exact RepD.of h'
      | dkf _ => exact RepD.of h'
      | ins _ _ => exact RepD.of h'
  | _ => exact RepD.of h

theorem RepL.length {g : GW} {m : List Addr} {H : Hp} : ∀ {ts : List T} {vs : List V}, RepL g m H ts vs → ts.length = vs.length
  | [], vs, h => by simp only [RepL] at h; subst h; rfl
  | t :: ts, vs, h => by
    simp only [RepL] at h
    obtain ⟨v, r, rfl, _, q⟩ := h
    simp [RepL.length q]
theorem RepL.get {g : GW} {m : List Addr} {H : Hp} : ∀ {ts : List T} {vs : List V} {i : Nat} {t : T}, RepL g m H ts vs → ts[i]? = some t → ∃ v, vs[i]? = some v ∧ Rep g m H t v
  | [], vs, i, t, h, e => by simp at e
  | t :: ts, vs, 0, u, h, e => by
    simp only [RepL] at h
    obtain ⟨v, r, rfl, h1, q⟩ := h
    simp at e; subst e
    exact ⟨v, rfl, h1⟩
  | t :: ts, vs, i + 1, u, h, e => by
    simp only [RepL] at h
    obtain ⟨v, r, rfl, h1, q⟩ := h
    simp at e
    obtain ⟨w, h2, h3⟩ := RepL.get q e
    exact ⟨w, by simpa using h2, h3⟩
theorem RepL.append {g : GW} {m : List Addr} {H : Hp} : ∀ {ts us : List T} {vs ws : List V}, RepL g m H ts vs → RepL g m H us ws → RepL g m H (ts ++ us) (vs ++ ws)
  | [], us, vs, ws, h, q => by simp only [RepL] at h; subst h; exact q
  | t :: ts, us, vs, ws, h, q => by
    simp only [RepL] at h
    obtain ⟨v, r, rfl, h1, h2⟩ := h
    show RepL g m H (t :: (ts ++ us)) (v :: (r ++ ws))
    simp only [RepL]
    exact ⟨v, r ++ ws, rfl, h1, RepL.append h2 q⟩
theorem RepL.drop {g : GW} {m : List Addr} {H : Hp} : ∀ {ts : List T} {vs : List V} (n : Nat), RepL g m H ts vs → RepL g m H (ts.drop n) (vs.drop n)
  | ts, vs, 0, h => h
  | [], vs, n + 1, h => by simp only [RepL] at h; subst h; simp [RepL]
  | t :: ts, vs, n + 1, h => by
    simp only [RepL] at h
    obtain ⟨v, r, rfl, h1, h2⟩ := h
    exact RepL.drop n h2
theorem RepL.take {g : GW} {m : List Addr} {H : Hp} : ∀ {ts : List T} {vs : List V} (n : Nat), RepL g m H ts vs → RepL g m H (ts.take n) (vs.take n)
  | ts, vs, 0, h => by simp [RepL]
  | [], vs, n + 1, h => by simp only [RepL] at h; subst h; simp [RepL]
  | t :: ts, vs, n + 1, h => by
    simp only [RepL] at h
    obtain ⟨v, r, rfl, h1, h2⟩ := h
    show RepL g m H (t :: ts.take n) (v :: r.take n)
    simp only [RepL]
    exact ⟨v, r.take n, rfl, h1, RepL.take n h2⟩
theorem RepL.set {g : GW} {m : List Addr} {H : Hp} : ∀ {ts : List T} {vs : List V} (n : Nat) {t : T} {v : V}, RepL g m H ts vs → Rep g m H t v → RepL g m H (ts.set n t) (vs.set n v)
  | [], vs, n, t, v, h, q => by simp only [RepL] at h; subst h; simp [RepL]
  | u :: ts, vs, 0, t, v, h, q => by
    simp only [RepL] at h
    obtain ⟨w, r, rfl, h1, h2⟩ := h
    show RepL g m H (t :: ts) (v :: r)
    simp only [RepL]
    exact ⟨v, r, rfl, q, h2⟩
  | u :: ts, vs, n + 1, t, v, h, q => by
    simp only [RepL] at h
    obtain ⟨w, r, rfl, h1, h2⟩ := h
    show RepL g m H (u :: ts.set n t) (w :: r.set n v)
    simp only [RepL]
    exact ⟨w, r.set n v, rfl, h1, RepL.set n h2 q⟩
theorem RepL.reverse {g : GW} {m : List Addr} {H : Hp} : ∀ {ts : List T} {vs : List V}, RepL g m H ts vs → RepL g m H ts.reverse vs.reverse
  | [], vs, h => by simp only [RepL] at h; subst h; simp [RepL]
  | t :: ts, vs, h => by
    simp only [RepL] at h
    obtain ⟨v, r, rfl, h1, h2⟩ := h
    rw [List.reverse_cons, List.reverse_cons]
    refine RepL.append (RepL.reverse h2) ?_
    simp only [RepL]
    exact ⟨v, [], rfl, h1, rfl⟩
theorem RepL.rep {g : GW} {m : List Addr} {H : Hp} {ts : List T} {vs : List V} (h : RepL g m H ts vs) : ∀ k : Nat, RepL g m H (List.replicate k ts).flatten (List.replicate k vs).flatten
  | 0 => by simp [RepL]
  | k + 1 => by
    rw [List.replicate_succ, List.replicate_succ, List.flatten_cons, List.flatten_cons]
    exact RepL.append h (RepL.rep h k)
theorem RepL.nil {g : GW} {m : List Addr} {H : Hp} : RepL g m H [] [] := by simp [RepL]
theorem RepL.cons {g : GW} {m : List Addr} {H : Hp} {t : T} {v : V} {ts : List T} {vs : List V} (h : Rep g m H t v) (q : RepL g m H ts vs) : RepL g m H (t :: ts) (v :: vs) := by
  simp only [RepL]; exact ⟨v, vs, rfl, h, q⟩

section
variable {g : GW} {m : List Addr} {H : Hp} {v : V}
theorem Rep.bl_ {b : Bool} : Rep g m H (.bl b) (.bl b) := by simp [Rep]
theorem Rep.int_ {b : Int} : Rep g m H (.int b) (.int b) := by simp [Rep]
theorem Rep.str_ {b : Str} : Rep g m H (.str b) (.str b) := by simp [Rep]
theorem Rep.non_ : Rep g m H .non .non := by simp [Rep]
theorem RepD.int {i : Int} (h : RepD g m H (.int i) v) : v = .int i := by simpa [RepD, Rep] using h
theorem RepD.bl {i : Bool} (h : RepD g m H (.bl i) v) : v = .bl i := by simpa [RepD, Rep] using h
theorem RepD.str {i : Str} (h : RepD g m H (.str i) v) : v = .str i := by simpa [RepD, Rep] using h
theorem RepD.tup {l : List T} (h : RepD g m H (.tup l) v) : ∃ a vs, v = .ref a ∧ SqT g.K H a vs ∧ RepL g m H l vs := by
  simp only [RepD, Rep] at h
  obtain ⟨a, vs, h1, h2, h3⟩ := h
  refine ⟨a, vs, h1, ?_, h3⟩
  rcases h2 with ⟨_, _, h2⟩ | h2
  · exact .inl h2
  · exact .inr h2
theorem RepD.lst {l : List T} (h : RepD g m H (.lst l) v) : ∃ a vs, v = .ref a ∧ H a = some (.lst vs) ∧ RepL g m H l vs := h
theorem RepD.scr {l : List Int} (h : RepD g m H (.scr l) v) : ∃ a, v = .ref a ∧ SqL g.K H a (l.map V.int) := by
  simp only [RepD, Rep] at h
  obtain ⟨a, h1, h2⟩ := h
  refine ⟨a, h1, ?_⟩
  rcases h2 with ⟨_, _, h2⟩ | h2
  · exact .inl h2
  · exact .inr h2

/-! what is to be reached, reached -/
variable {W : WX} {σ : L2.St} {Q : VK} {S : Sto}
theorem fin_val {t : T} (G : GoodE g W m σ H Q (.ok t S)) (sr : SRep g m H S) (r : Rep g m H t v) : Q v H := G v m H (Ext.refl _ _) sr r
theorem fin_lst {bx : Bool} {l : List T} {vs : List V} (G : GoodE g W m σ H Q (newL bx (.lst l) S)) (sr : SRep g m H S) (r : RepL g m H l vs) : ∀ p, H p = none → Q (.ref p) (upd H p (.lst vs)) := fun p hp => by
  cases bx with
  | true =>
    refine G (.ref p) (m ++ [p]) _ (Ext.box hp) (sr.box hp r) ?_
    simp only [Rep]
    exact ⟨p, by rw [← sr.len]; simp, rfl⟩
  | false =>
    refine G (.ref p) m _ (Ext.new hp) (sr.new hp) ?_
    simp only [Rep]
    exact ⟨p, vs, rfl, sr.fresh hp, sr.freshF hp, upd_same, RepL.mono (Ext.new hp) l r⟩
theorem fin_tup {l : List T} {vs : List V} (G : GoodE g W m σ H Q (.ok (.tup l) S)) (sr : SRep g m H S) (r : RepL g m H l vs) : ∀ p, H p = none → Q (.ref p) (upd H p (.tup vs)) := fun p hp => by
  refine G (.ref p) m _ (Ext.new hp) (sr.new hp) ?_
  simp only [Rep]
  exact ⟨p, vs, rfl, .inl ⟨sr.fresh hp, sr.freshF hp, .inl upd_same⟩, RepL.mono (Ext.new hp) l r⟩
end

theorem line_eq : line = sizeLine := by rw [sizeLine_eq]; rfl

/-! ### truth -/
theorem tru_of {g : GW} {K : PySem.W.Frag} {m : List Addr} {H : Hp} {S : Sto} {t : T} {v : V} {b : Bool} (sr : SRep g m H S) (r : Rep g m H t v) (h : truthy S t = some b) (hK : g.K = K := by rfl) : TruV K v H b := by
  subst hK
  cases t with
  | non => simp only [Rep] at r; subst r; simp [truthy] at h; exact h
  | bl b => simp only [Rep] at r; subst r; simp [truthy] at h; exact h.symm
  | int i => simp only [Rep] at r; subst r; simp [truthy] at h; exact h.symm
  | str s =>
    simp only [Rep] at r; subst r
    simp only [truthy] at h
    split at h
    · rename_i q
      rw [line_eq] at q
      refine ⟨q, ?_⟩
      simp at h
      rw [← h]
      cases hl : s.length with
      | zero => rfl
      | succ n =>
        simp [bne, BEq.beq]
        omega
    · cases h
  | tup l =>
    obtain ⟨a, vs, rfl, q, rl⟩ := RepD.tup (RepD.of r)
    simp only [truthy, Option.some.injEq] at h
    refine .inr (.inl ⟨vs, q, ?_⟩)
    rw [← h]
    have := rl.length
    cases l <;> cases vs <;> simp_all
  | lst l =>
    obtain ⟨a, vs, rfl, q, rl⟩ := RepD.lst (RepD.of r)
    simp only [truthy, Option.some.injEq] at h
    refine .inl ⟨vs, SqL.of q, ?_⟩
    rw [← h]
    have := rl.length
    cases l <;> cases vs <;> simp_all
  | box n =>
    simp only [truthy] at h
    simp only [Rep] at r
    obtain ⟨a, h1, rfl⟩ := r
    split at h
    · rename_i l e
      obtain ⟨vs, q1, rl⟩ := sr.at_ n _ a e h1
      simp only [Option.some.injEq] at h
      refine .inl ⟨vs, SqL.of q1, ?_⟩
      rw [← h]
      have := rl.length
      cases l <;> cases vs <;> simp_all
    · cases h
  | fn f => simp [truthy] at h
  | scr l => simp [truthy] at h
  | err c f l => simp [truthy] at h

/-! ### data -/
mutual
theorem rep_dp {g : GW} {m : List Addr} {H : Hp} : ∀ (t : T) {v : V} {d : PyData}, RepD g m H t v → toD t = some d → Dp g.K H v d
  | .non, v, d, r, e => by
    simp only [RepD, Rep] at r; subst r; simp only [toD, Option.some.injEq] at e; subst e; exact .non
  | .bl b, v, d, r, e => by
    simp only [RepD, Rep] at r; subst r; simp only [toD, Option.some.injEq] at e; subst e; exact .bl b
  | .int b, v, d, r, e => by
    simp only [RepD, Rep] at r; subst r; simp only [toD, Option.some.injEq] at e; subst e; exact .int b
  | .str b, v, d, r, e => by
    simp only [RepD, Rep] at r; subst r; simp only [toD, Option.some.injEq] at e; subst e; exact .str b
  | .tup l, v, d, r, e => by
    obtain ⟨a, vs, rfl, q, rl⟩ := RepD.tup r
    simp only [toD] at e
    cases h : toDs l with
    | none => rw [h] at e; cases e
    | some ds =>
      rw [h] at e
      simp only [Option.some.injEq] at e; subst e
      exact .tup q (rep_dps l rl h)
  | .lst l, v, d, r, e => by
    obtain ⟨a, vs, rfl, q, rl⟩ := RepD.lst r
    simp only [toD] at e
    cases h : toDs l with
    | none => rw [h] at e; cases e
    | some ds =>
      rw [h] at e
      simp only [Option.some.injEq] at e; subst e
      exact .lst (SqL.of q) (rep_dps l rl h)
  | .box n, v, d, r, e => by simp [toD] at e
  | .fn n, v, d, r, e => by simp [toD] at e
  | .scr n, v, d, r, e => by simp [toD] at e
theorem rep_dps {g : GW} {m : List Addr} {H : Hp} : ∀ (ts : List T) {vs : List V} {ds : List PyData}, RepL g m H ts vs → toDs ts = some ds → DpAll g.K H vs ds
  | [], vs, ds, r, e => by
    simp only [RepL] at r; subst r; simp only [toDs, Option.some.injEq] at e; subst e; exact .nil
  | t :: ts, vs, ds, r, e => by
    simp only [RepL] at r
    obtain ⟨v, r', rfl, h1, h2⟩ := r
    simp only [toDs] at e
    cases h3 : toD t with
    | none => rw [h3] at e; cases e
    | some d =>
      rw [h3] at e
      cases h4 : toDs ts with
      | none => rw [h4] at e; cases e
      | some es =>
        rw [h4] at e
        simp only [Option.some.injEq] at e; subst e
        exact .cons (rep_dp t (RepD.of h1) h3) (rep_dps ts h2 h4)
end
mutual
theorem toD_plain : ∀ (t : T) {d : PyData}, toD t = some d → d.plain = true
  | .non, d, e => by simp only [toD, Option.some.injEq] at e; subst e; rfl
  | .bl b, d, e => by simp only [toD, Option.some.injEq] at e; subst e; rfl
  | .int b, d, e => by simp only [toD, Option.some.injEq] at e; subst e; rfl
  | .str b, d, e => by simp only [toD, Option.some.injEq] at e; subst e; rfl
  | .tup l, d, e => by
    simp only [toD] at e
    cases h : toDs l with
    | none => rw [h] at e; cases e
    | some ds =>
      rw [h] at e
      simp only [Option.some.injEq] at e; subst e
      have := toDs_plain l h
      simpa [PyData.plain] using this
  | .lst l, d, e => by
    simp only [toD] at e
    cases h : toDs l with
    | none => rw [h] at e; cases e
    | some ds =>
      rw [h] at e
      simp only [Option.some.injEq] at e; subst e
      have := toDs_plain l h
      simpa [PyData.plain] using this
  | .box n, d, e => by simp [toD] at e
  | .fn n, d, e => by simp [toD] at e
  | .scr n, d, e => by simp [toD] at e
theorem toDs_plain : ∀ (ts : List T) {ds : List PyData}, toDs ts = some ds → PyData.plainAll ds = true
  | [], ds, e => by simp only [toDs, Option.some.injEq] at e; subst e; rfl
  | t :: ts, ds, e => by
    simp only [toDs] at e
    cases h3 : toD t with
    | none => rw [h3] at e; cases e
    | some d =>
      rw [h3] at e
      cases h4 : toDs ts with
      | none => rw [h4] at e; cases e
      | some es =>
        rw [h4] at e
        simp only [Option.some.injEq] at e; subst e
        simp [PyData.plainAll, toD_plain t h3, toDs_plain ts h4]
end
end Fw

namespace Fw
open PySem L2 PyProof.Rows

/-! ### dicts whose keys are tuples -/
section
variable {X : Cx} {g : GW} {pins : List (Addr × Obj)} {σ : L2.St} {s : Shared} {m : List Addr} {H : Hp} {S : Sto}

theorem dkO_ok {P P' : Program} {w w' : World} {H : Hp} {h : Heap} {a : Addr} {xs : List (NestedKey × Addr × Value)} (z : ∃ (o : Obj) (es : Array DictEntry) (ep : Nat), h.get? a = some o ∧ o.ExactDict ∧ o.data = .dict es ep ∧ es.toList = xs.map (entryOfKey (nestedKind P w))) : ObjOk P' w' H h a (DkO P w a xs) :=
  ⟨z, (let ⟨o, _, _, h, _⟩ := z; ⟨o, h⟩), fun h1 h2 ⟨o, es, ep, e, r⟩ k => ⟨o, es, ep, k o e, r⟩⟩
theorem dkO_rd {P : Program} {w : World} {h : Heap} {a : Addr} {xs : List (NestedKey × Addr × Value)} (z : ObjOk P w H h a (DkO P w a xs)) : ∃ (o : Obj) (es : Array DictEntry) (ep : Nat), h.get? a = some o ∧ o.ExactDict ∧ o.data = .dict es ep ∧ es.toList = xs.map (entryOfKey (nestedKind P w)) := z.1

theorem sqt_of (hK : X.K = g.K) {a : Addr} {vs : List V} (h : (a ∉ m ∧ a ∉ g.fb ∧ Rd H a (.tup vs)) ∨ KTup g.K a vs) : SqT X.K H a vs := by
  rcases h with ⟨_, _, h⟩ | h
  · exact .inl h
  · rw [hK]; exact .inr h

mutual
theorem nest_of (hK : X.K = g.K) (I : Inv X pins σ H s) : ∀ (t : T) {v : V} {u : Value} {k : NestedKey}, Rep g m H t v → RelV v u → nk t = some k → NestedIs s.heap k u
  | .non, v, u, k, r, rv, e => by
    simp only [Rep] at r; subst r; cases rv
    simp only [nk, Option.some.injEq] at e; subst e
    exact .none
  | .bl b, v, u, k, r, rv, e => by
    simp only [Rep] at r; subst r; cases rv
    simp only [nk, Option.some.injEq] at e; subst e
    exact .bool rfl
  | .int i, v, u, k, r, rv, e => by
    simp only [Rep] at r; subst r
    obtain ⟨t, rfl⟩ := (show ∃ t, u = Value.int i t from rv)
    simp only [nk, Option.some.injEq] at e; subst e
    exact .int _ _
  | .str x, v, u, k, r, rv, e => by
    simp only [Rep] at r; subst r
    obtain ⟨t, rfl⟩ := (show ∃ t, u = Value.str x t from rv)
    simp only [nk, Option.some.injEq] at e; subst e
    exact .text _ _
  | .tup l, v, u, k, r, rv, e => by
    simp only [Rep] at r
    obtain ⟨a, vs, rfl, h2, h3⟩ := r
    cases (show u = Value.ref a from rv)
    simp only [nk] at e
    split at e
    · rename_i ks hks
      simp only [Option.some.injEq] at e; subst e
      obtain ⟨its, rl, ⟨o, ho, hc, n, hd⟩, _⟩ := I.tuple (sqt_of hK h2)
      exact .tup ho hc hd (nest_all hK I l h3 rl hks)
    · cases e
  | .lst l, v, u, k, r, rv, e => by cases e
  | .box n, v, u, k, r, rv, e => by cases e
  | .fn n, v, u, k, r, rv, e => by cases e
  | .scr n, v, u, k, r, rv, e => by cases e
theorem nest_all (hK : X.K = g.K) (I : Inv X pins σ H s) : ∀ (ts : List T) {vs : List V} {us : List Value} {ks : List NestedKey}, RepL g m H ts vs → Vals vs us → nks ts = some ks → NestedAll s.heap ks us
  | [], vs, us, ks, r, rv, e => by
    simp only [RepL] at r; subst r; cases rv
    simp only [nks, Option.some.injEq] at e; subst e
    exact .nil
  | t :: ts, vs, us, ks, r, rv, e => by
    simp only [RepL] at r
    obtain ⟨v, r', rfl, h1, h2⟩ := r
    cases rv with
    | cons hx hr =>
      simp only [nks] at e
      split at e
      · rename_i k hk
        split at e
        · rename_i ks' hks
          simp only [Option.some.injEq] at e; subst e
          exact .cons (nest_of hK I t h1 hx hk) (nest_all hK I ts h2 hr hks)
        · cases e
      · cases e
end
theorem tkey_nk {t : T} {k : NestedKey} (e : tkey t = some k) : nk t = some k ∧ k.depth ≤ 8 := by
  unfold tkey at e
  split at e
  · rename_i ks h
    split at e
    · rename_i hd
      simp only [Option.some.injEq] at e; subst e
      exact ⟨h, hd⟩
    · cases e
  · cases e
theorem tkey_tup {t : T} {k : NestedKey} (e : tkey t = some k) : ∃ l, t = .tup l := by
  have h := (tkey_nk e).1
  cases t with
  | tup l => exact ⟨l, rfl⟩
  | _ =>
    unfold tkey at e
    simp only [nk] at e
    first | cases e | (split at e <;> cases e)
theorem key_is (hK : X.K = g.K) (I : Inv X pins σ H s) {t : T} {v : V} {u : Value} {k : NestedKey} (r : Rep g m H t v) (rv : RelV v u) (e : tkey t = some k) : ∃ a, v = .ref a ∧ u = .ref a ∧ (nestedKind X.prog X.w).is s.heap k a := by
  obtain ⟨l, rfl⟩ := tkey_tup e
  obtain ⟨h1, h2⟩ := tkey_nk e
  have r' := r
  simp only [Rep] at r'
  obtain ⟨a, vs, rfl, _, _⟩ := r'
  cases (show u = Value.ref a from rv)
  exact ⟨a, rfl, rfl, nest_of hK I _ r rfl h1, h2⟩
theorem kd_is (hK : X.K = g.K) (I : Inv X pins σ H s) : ∀ {l : List (T × T)} {xs : List (NestedKey × Addr × Value)}, KD g m H l xs → ∀ x ∈ xs, (nestedKind X.prog X.w).is s.heap x.1 x.2.1
  | [], xs, h, x, hx => by cases (show xs = [] from h); cases hx
  | p :: l, xs, h, x, hx => by
    obtain ⟨y, r, rfl, ⟨h2, h3, _⟩, h6⟩ := h
    rcases List.mem_cons.mp hx with q | q
    · subst q
      obtain ⟨a, e1, _, z⟩ := key_is hK I h3 rfl h2
      cases e1
      exact z
    · exact kd_is hK I h6 x q
theorem dct_at (hK : X.K = g.K) (hp : X.prog = g.pr) (hw : X.w = g.wd) (I : Inv X pins σ H s) {a : Addr} {l : List (T × T)} {xs : List (NestedKey × Addr × Value)} (e : Rd H a (DkO g.pr g.wd a xs)) (d : DRep g m H l a xs) : s.heap.DictOfH (nestedKind X.prog X.w) a xs := by
  have e' : ObjOk X.prog X.w H s.heap a (DkO g.pr g.wd a xs) := e.ok I.hok
  rw [hp, hw] at e' ⊢
  obtain ⟨o, es, ep, h1, h2, h3, h4⟩ := dkO_rd e'
  refine ⟨o, es, ep, h1, h2, h3, h4, fun x hx => ?_, d.2.2.2⟩
  have z := kd_is hK I d.2.2.1 x hx
  rw [hp, hw] at z
  exact z
theorem kd_get : ∀ {l : List (T × T)} {xs : List (NestedKey × Addr × Value)} {k : NestedKey}, KD g m H l xs → (dGet l k = none ∧ atKey xs k = none) ∨ ∃ t p v, dGet l k = some t ∧ atKey xs k = some p ∧ Rep g m H t v ∧ RelV v p.2
  | [], xs, k, h => by cases (show xs = [] from h); exact .inl ⟨rfl, rfl⟩
  | p :: l, xs, k, h => by
    obtain ⟨y, r, rfl, ⟨h2, h3, v, h4, h5⟩, h6⟩ := h
    have hn := (tkey_nk h2).1
    by_cases e : y.1 = k
    · refine .inr ⟨p.2, y.2, v, ?_, by simp [atKey, e], h4, h5⟩
      obtain ⟨p1, p2⟩ := p
      simp only [dGet]
      rw [if_pos (by rw [hn, e])]
    · have a1 : dGet (p :: l) k = dGet l k := by
        obtain ⟨p1, p2⟩ := p
        simp only [dGet]
        rw [if_neg (by rw [hn]; exact fun z => e (Option.some.inj z))]
      have a2 : atKey (y :: r) k = atKey r k := by simp [atKey, e]
      rw [a1, a2]
      exact kd_get h6
theorem storedH_pos {K : Type} [DecidableEq K] {x : K × Addr × Value} {xs : List (K × Addr × Value)} {k : K} {b : Addr} {u : Value} (e : x.1 = k) (hn : ((x :: xs).map (·.1)).Nodup) : storedH (x :: xs) k b u = (x.1, x.2.1, u) :: xs := by
  have h0 : atKey (x :: xs) k = some x.2 := by simp [atKey, e]
  rw [storedH_old h0, List.map_cons]
  have h1 : putAt k u x = (x.1, x.2.1, u) := by simp [putAt, e]
  rw [h1]
  congr 1
  rw [List.map_cons] at hn
  have h2 := (List.nodup_cons.mp hn).1
  refine (List.map_congr_left fun y hy => ?_).trans (List.map_id _)
  unfold putAt
  rw [if_neg]
  · rfl
  · intro z
    exact h2 (List.mem_map.mpr ⟨y, hy, z.trans e.symm⟩)
theorem storedH_neg {K : Type} [DecidableEq K] {x : K × Addr × Value} {xs : List (K × Addr × Value)} {k : K} {b : Addr} {u : Value} (e : x.1 ≠ k) : storedH (x :: xs) k b u = x :: storedH xs k b u := by
  have a2 : atKey (x :: xs) k = atKey xs k := by simp [atKey, e]
  unfold storedH
  rw [a2]
  split
  · simp [putAt, e]
  · rfl
theorem kd_put {t v0 : T} {q : NestedKey} {b : Addr} {y : V} {u : Value} (ht : tkey t = some q) (hr : Rep g m H t (.ref b)) (hv : Rep g m H v0 y) (ru : RelV y u) : ∀ {l : List (T × T)} {xs : List (NestedKey × Addr × Value)}, KD g m H l xs → (xs.map (·.1)).Nodup → KD g m H (dPut l t q v0) (storedH xs q b u)
  | [], xs, h, _ => by
    cases (show xs = [] from h)
    exact ⟨_, [], rfl, ⟨ht, hr, y, hv, ru⟩, rfl⟩
  | p :: l, xs, h, hn => by
    obtain ⟨x, r, rfl, ⟨h2, h3, v, h4, h5⟩, h6⟩ := h
    obtain ⟨p1, p2⟩ := p
    have hk := (tkey_nk h2).1
    simp only at hk
    by_cases e : x.1 = q
    · rw [storedH_pos e hn]
      have a1 : dPut ((p1, p2) :: l) t q v0 = (p1, v0) :: l := by
        simp only [dPut]
        rw [if_pos (by rw [hk, e])]
      rw [a1]
      exact ⟨_, r, rfl, ⟨h2, h3, y, hv, ru⟩, h6⟩
    · rw [storedH_neg e]
      have a1 : dPut ((p1, p2) :: l) t q v0 = (p1, p2) :: dPut l t q v0 := by
        simp only [dPut]
        rw [if_neg (by rw [hk]; exact fun z => e (Option.some.inj z))]
      rw [a1]
      rw [List.map_cons] at hn
      exact ⟨x, _, rfl, ⟨h2, h3, v, h4, h5⟩, kd_put ht hr hv ru h6 (List.nodup_cons.mp hn).2⟩
theorem kd_keys : ∀ {l : List (T × T)} {xs : List (NestedKey × Addr × Value)}, KD g m H l xs → RepL g m H (l.map (·.1)) (xs.map fun x => V.ref x.2.1)
  | [], xs, h => by cases (show xs = [] from h); simp [RepL]
  | p :: l, xs, h => by
    obtain ⟨x, r, rfl, ⟨h2, h3, _⟩, h6⟩ := h
    simp only [List.map_cons, RepL]
    exact ⟨_, _, rfl, h3, kd_keys h6⟩
/-- the dict that a box holds -/
theorem dOf_ok {t : T} {y : V} {l : List (T × T)} (sr : SRep g m H S) (r : Rep g m H t y) (e : dOf S t = some l) : ∃ a xs, y = .ref a ∧ Rd H a (DkO g.pr g.wd a xs) ∧ DRep g m H l a xs := by
  unfold dOf at e
  split at e
  · rename_i n
    simp only [Rep] at r
    obtain ⟨a, h1, rfl⟩ := r
    split at e
    · rename_i l' hl
      simp only [Option.some.injEq] at e; subst e
      obtain ⟨xs, q1, q2⟩ := sr.at_ n _ a hl h1
      exact ⟨a, xs, rfl, .inl q1, q2⟩
    · rename_i l' hl
      simp only [Option.some.injEq] at e; subst e
      obtain ⟨xs, od, q1, q2⟩ := sr.at_ n _ a hl h1
      exact ⟨a, xs, rfl, .inr ⟨od, q1⟩, q2⟩
    · cases e
  · cases e
section
variable {A : Around} {E : Value → Shared → Prop}
theorem dct_in (hK : X.K = g.K) (hp : X.prog = g.pr) (hw : X.w = g.wd) (hu : X.A.units + 64 < cLine) (I : Inv X pins σ H s) (sr : SRep g m H S) {kt dt : T} {v y : V} {u u' : Value} {l : List (T × T)} {q : NestedKey} (r1 : Rep g m H kt v) (e1 : RelV v u) (r2 : Rep g m H dt y) (e2 : RelV y u') (hl : dOf S dt = some l) (hk : tkey kt = some q)
    {Q : Value → Shared → Prop} (h : ∀ s', Inv X pins σ H s' → Q (.bool (dGet l q).isSome) s') : wpAny (model X.prog X.w) X.A (compareOp .In u u') Q E s := by
  obtain ⟨b, rfl, rfl, kz⟩ := key_is hK I r1 e1 hk
  obtain ⟨a, xs, rfl, d1, d2⟩ := dOf_ok sr r2 hl
  cases (show u' = Value.ref a from e2)
  refine wpAny_in_heap (knd := nestedKind X.prog X.w) (show X.A.in1.units + 8 < cLine by show X.A.units + 1 + 8 < cLine; omega) kz d2.2.1 (dct_at hK hp hw I d1 d2) ?_
  have : (atKey xs q).isSome = (dGet l q).isSome := by
    rcases kd_get (k := q) d2.2.2.1 with ⟨z1, z2⟩ | ⟨t, p, v', z1, z2, _⟩
    · rw [z1, z2]; rfl
    · rw [z1, z2]; rfl
  rw [this]
  exact h _ (I.tok _)
theorem dct_notIn (hK : X.K = g.K) (hp : X.prog = g.pr) (hw : X.w = g.wd) (hu : X.A.units + 64 < cLine) (I : Inv X pins σ H s) (sr : SRep g m H S) {kt dt : T} {v y : V} {u u' : Value} {l : List (T × T)} {q : NestedKey} (r1 : Rep g m H kt v) (e1 : RelV v u) (r2 : Rep g m H dt y) (e2 : RelV y u') (hl : dOf S dt = some l) (hk : tkey kt = some q)
    {Q : Value → Shared → Prop} (h : ∀ s', Inv X pins σ H s' → Q (.bool (!(dGet l q).isSome)) s') : wpAny (model X.prog X.w) X.A (compareOp .NotIn u u') Q E s := by
  obtain ⟨b, rfl, rfl, kz⟩ := key_is hK I r1 e1 hk
  obtain ⟨a, xs, rfl, d1, d2⟩ := dOf_ok sr r2 hl
  cases (show u' = Value.ref a from e2)
  show wpAny _ _ (do return .bool (!(← contains (.ref a) (.ref b)))) Q E s
  refine wpAny_bind (wpAny_contains_heap (knd := nestedKind X.prog X.w) (show X.A.in1.units + 8 < cLine by show X.A.units + 1 + 8 < cLine; omega) kz d2.2.1 (dct_at hK hp hw I d1 d2) (wpAny_pure ?_))
  have : (atKey xs q).isSome = (dGet l q).isSome := by
    rcases kd_get (k := q) d2.2.2.1 with ⟨z1, z2⟩ | ⟨t, p, v', z1, z2, _⟩
    · rw [z1, z2]; rfl
    · rw [z1, z2]; rfl
  rw [this]
  exact h _ (I.tok _)
theorem dct_get (hK : X.K = g.K) (hp : X.prog = g.pr) (hw : X.w = g.wd) (hu : X.A.units + 64 < cLine) (I : Inv X pins σ H s) (sr : SRep g m H S) {kt dt : T} {v y : V} {u u' : Value} {l : List (T × T)} {q : NestedKey} {t : T} (r1 : Rep g m H kt v) (e1 : RelV v u) (r2 : Rep g m H dt y) (e2 : RelV y u') (hl : dOf S dt = some l) (hk : tkey kt = some q) (ht : dGet l q = some t)
    {Q : Value → Shared → Prop} (h : ∀ v' w' s', Inv X pins σ H s' → Rep g m H t v' → RelV v' w' → Q w' s') : s.TypeIs u' "dict" ∧ wpAny (model X.prog X.w) X.A (getItem u' u) Q E s := by
  obtain ⟨b, rfl, rfl, kz⟩ := key_is hK I r1 e1 hk
  obtain ⟨a, xs, rfl, d1, d2⟩ := dOf_ok sr r2 hl
  cases (show u' = Value.ref a from e2)
  have dd := dct_at hK hp hw I d1 d2
  rcases kd_get (k := q) d2.2.2.1 with ⟨z1, z2⟩ | ⟨t', p, v', z1, z2, z3, z4⟩
  · rw [ht] at z1; cases z1
  · rw [ht] at z1; cases z1
    exact ⟨dd.typeIs, wpAny_getItem_heap (knd := nestedKind X.prog X.w) (show X.A.in1.units + 8 < cLine by show X.A.units + 1 + 8 < cLine; omega) kz dd z2 (h v' _ _ (I.tok _) z3 z4)⟩
theorem drf_bx {t : T} {n : Nat} (h : drf S t = .box n) : t = .box n := by
  cases t with
  | box k =>
    have h' : (match S[k]? with | some (.lst l) => T.lst l | _ => T.box k) = .box n := h
    split at h'
    · cases h'
    · exact h'
  | _ => exact h
/-! keys that are whole numbers or texts -/
theorem ky_nk {t : T} {k : Key} (e : ky t = some k) : ∃ q, kkey t = some q ∧ nk t = some q := by
  cases t with
  | int i => exact ⟨_, rfl, rfl⟩
  | str i => exact ⟨_, rfl, rfl⟩
  | _ => cases e
theorem kkey_ky {t : T} {q : NestedKey} (e : kkey t = some q) : ∃ k, ky t = some k ∧ nk t = some q := by
  cases t with
  | int i => exact ⟨_, rfl, e⟩
  | str i => exact ⟨_, rfl, e⟩
  | _ => cases e
theorem ky_inj {t u : T} {k j : Key} (h1 : ky t = some k) (h2 : ky u = some j) : nk t = nk u ↔ k = j := by
  cases t with
  | int i =>
    cases u with
    | int i' => simp only [ky, Option.some.injEq] at h1 h2; subst h1; subst h2; simp [nk]
    | str i' => simp only [ky, Option.some.injEq] at h1 h2; subst h1; subst h2; simp [nk]
    | _ => cases h2
  | str i =>
    cases u with
    | int i' => simp only [ky, Option.some.injEq] at h1 h2; subst h1; subst h2; simp [nk]
    | str i' => simp only [ky, Option.some.injEq] at h1 h2; subst h1; subst h2; simp [nk]
    | _ => cases h2
  | _ => cases h1
theorem ky_v {t : T} {v : V} {k : Key} (r : Rep g m H t v) (e : ky t = some k) : v = kV k := by
  cases t with
  | int i => simp only [Rep] at r; subst r; simp only [ky, Option.some.injEq] at e; subst e; rfl
  | str i => simp only [Rep] at r; subst r; simp only [ky, Option.some.injEq] at e; subst e; rfl
  | _ => cases e
theorem ky_get {kt : T} {k : Key} {q : NestedKey} (hk : ky kt = some k) (hq : nk kt = some q) : ∀ {l : List (T × T)} {xs : List (Key × V)}, KY g m H l xs → (dGet l q = none ∧ valV xs k = none) ∨ ∃ t v, dGet l q = some t ∧ valV xs k = some v ∧ Rep g m H t v
  | [], xs, h => by cases (show xs = [] from h); exact .inl ⟨rfl, rfl⟩
  | p :: l, xs, h => by
    obtain ⟨y, r, rfl, ⟨h2, h3⟩, h6⟩ := h
    obtain ⟨p1, p2⟩ := p
    have hi := ky_inj h2 hk
    rw [hq] at hi
    simp only [dGet]
    by_cases e : y.1 = k
    · rw [if_pos (hi.mpr e), valV_pos e]
      exact .inr ⟨p2, y.2, rfl, rfl, h3⟩
    · rw [if_neg (fun z => e (hi.mp z)), valV_neg e]
      exact ky_get hk hq h6
theorem putK_pos {κ : Type} [DecidableEq κ] {p : κ × V} {r : List (κ × V)} {k : κ} {v : V} (e : p.1 = k) (hn : ((p :: r).map (·.1)).Nodup) : putK (p :: r) k v = (p.1, v) :: r := by
  unfold putK
  rw [valV_any, valV_pos e]
  simp only [Option.isSome_some, if_true, List.map_cons, e]
  congr 1
  rw [List.map_cons] at hn
  refine (List.map_congr_left fun y hy => ?_).trans (List.map_id _)
  rw [if_neg]
  · rfl
  · intro z
    exact (List.nodup_cons.mp hn).1 (List.mem_map.mpr ⟨y, hy, z.trans e.symm⟩)
theorem putK_neg {κ : Type} [DecidableEq κ] {p : κ × V} {r : List (κ × V)} {k : κ} {v : V} (e : p.1 ≠ k) : putK (p :: r) k v = p :: putK r k v := by
  unfold putK
  rw [valV_any, valV_any, valV_neg e]
  split
  · simp [e]
  · rfl
theorem ky_put {kt vt : T} {k : Key} {q : NestedKey} {v : V} (hk : ky kt = some k) (hq : nk kt = some q) (hv : Rep g m H vt v) : ∀ {l : List (T × T)} {xs : List (Key × V)}, KY g m H l xs → (xs.map (·.1)).Nodup → KY g m H (dPut l kt q vt) (putK xs k v)
  | [], xs, h, _ => by
    cases (show xs = [] from h)
    exact ⟨_, [], rfl, ⟨hk, hv⟩, rfl⟩
  | p :: l, xs, h, hn => by
    obtain ⟨y, r, rfl, ⟨h2, h3⟩, h6⟩ := h
    obtain ⟨p1, p2⟩ := p
    have hi := ky_inj h2 hk
    rw [hq] at hi
    simp only [dPut]
    by_cases e : y.1 = k
    · rw [if_pos (hi.mpr e), putK_pos e hn]
      exact ⟨_, r, rfl, ⟨h2, hv⟩, h6⟩
    · rw [if_neg (fun z => e (hi.mp z)), putK_neg e]
      rw [List.map_cons] at hn
      exact ⟨y, _, rfl, ⟨h2, h3⟩, ky_put hk hq hv h6 (List.nodup_cons.mp hn).2⟩
theorem ky_keys : ∀ {l : List (T × T)} {xs : List (Key × V)}, KY g m H l xs → RepL g m H (l.map (·.1)) (xs.map fun x => kV x.1)
  | [], xs, h => by cases (show xs = [] from h); simp [RepL]
  | p :: l, xs, h => by
    obtain ⟨x, r, rfl, ⟨h2, h3⟩, h6⟩ := h
    simp only [List.map_cons, RepL]
    refine ⟨_, _, rfl, ?_, ky_keys h6⟩
    obtain ⟨p1, p2⟩ := p
    simp only at h2 ⊢
    cases p1 with
    | int i => simp only [ky, Option.some.injEq] at h2; rw [← h2]; simp [Rep, kV]
    | str i => simp only [ky, Option.some.injEq] at h2; rw [← h2]; simp [Rep, kV]
    | _ => cases h2
/-! both kinds -/
theorem dkey_split {n : Nat} {x : T} {p : List (T × T) × NestedKey} (e : dKey S n x = some p) : (dOf S (.box n) = some p.1 ∧ tkey x = some p.2) ∨ (S[n]? = some (.dki p.1) ∧ kkey x = some p.2) := by
  unfold dKey at e
  unfold dOf
  split at e
  · rename_i l hl
    split at e
    · rename_i q hq
      simp only [Option.some.injEq] at e; subst e
      left; simp only [hl]; exact ⟨trivial, hq⟩
    · cases e
  · rename_i l hl
    split at e
    · rename_i q hq
      simp only [Option.some.injEq] at e; subst e
      left; simp only [hl]; exact ⟨trivial, hq⟩
    · cases e
  · rename_i l hl
    split at e
    · rename_i q hq
      simp only [Option.some.injEq] at e; subst e
      exact .inr ⟨hl, hq⟩
    · cases e
  · cases e
theorem dki_at {n : Nat} {y : V} {l : List (T × T)} (sr : SRep g m H S) (r : Rep g m H (.box n) y) (e : S[n]? = some (.dki l)) : ∃ a xs, y = .ref a ∧ m[n]? = some a ∧ H a = some (.dK xs) ∧ l.length ≤ sizeLine ∧ KY g m H l xs ∧ (xs.map (·.1)).Nodup := by
  simp only [Rep] at r
  obtain ⟨a, h1, rfl⟩ := r
  obtain ⟨xs, q1, q2, q3, q4⟩ := sr.at_ n _ a e h1
  exact ⟨a, xs, rfl, h1, q1, q2, q3, q4⟩
theorem dkey_in (hK : X.K = g.K) (hp : X.prog = g.pr) (hw : X.w = g.wd) (hu : X.A.units + 64 < cLine) (I : Inv X pins σ H s) (sr : SRep g m H S) {kt : T} {n : Nat} {v y : V} {u u' : Value} {p : List (T × T) × NestedKey} (r1 : Rep g m H kt v) (e1 : RelV v u) (r2 : Rep g m H (.box n) y) (e2 : RelV y u') (hk : dKey S n kt = some p)
    {Q : Value → Shared → Prop} (h : ∀ s', Inv X pins σ H s' → Q (.bool (dGet p.1 p.2).isSome) s') : wpAny (model X.prog X.w) X.A (compareOp .In u u') Q E s := by
  rcases dkey_split hk with ⟨z1, z2⟩ | ⟨z1, z2⟩
  · exact dct_in hK hp hw hu I sr r1 e1 r2 e2 z1 z2 h
  · obtain ⟨a, xs, rfl, _, q1, q2, q3, q4⟩ := dki_at sr r2 z1
    cases (show u' = Value.ref a from e2)
    obtain ⟨k, k1, k2⟩ := kkey_ky z2
    have := ky_v r1 k1
    subst this
    refine d_in (by omega) I (.inl ⟨xs, k, .inl q1, rfl, rfl⟩) e1 fun s' I' => ?_
    have : (valV xs k).isSome = (dGet p.1 p.2).isSome := by
      rcases ky_get k1 k2 q3 with ⟨w1, w2⟩ | ⟨t, v, w1, w2, _⟩
      · rw [w1, w2]; rfl
      · rw [w1, w2]; rfl
    rw [this]
    exact h s' I'
theorem dkey_notIn (hK : X.K = g.K) (hp : X.prog = g.pr) (hw : X.w = g.wd) (hu : X.A.units + 64 < cLine) (I : Inv X pins σ H s) (sr : SRep g m H S) {kt : T} {n : Nat} {v y : V} {u u' : Value} {p : List (T × T) × NestedKey} (r1 : Rep g m H kt v) (e1 : RelV v u) (r2 : Rep g m H (.box n) y) (e2 : RelV y u') (hk : dKey S n kt = some p)
    {Q : Value → Shared → Prop} (h : ∀ s', Inv X pins σ H s' → Q (.bool (!(dGet p.1 p.2).isSome)) s') : wpAny (model X.prog X.w) X.A (compareOp .NotIn u u') Q E s := by
  rcases dkey_split hk with ⟨z1, z2⟩ | ⟨z1, z2⟩
  · exact dct_notIn hK hp hw hu I sr r1 e1 r2 e2 z1 z2 h
  · obtain ⟨a, xs, rfl, _, q1, q2, q3, q4⟩ := dki_at sr r2 z1
    cases (show u' = Value.ref a from e2)
    obtain ⟨k, k1, k2⟩ := kkey_ky z2
    have := ky_v r1 k1
    subst this
    refine d_notIn (by omega) I (.inl ⟨xs, k, .inl q1, rfl, rfl⟩) e1 fun s' I' => ?_
    have : (valV xs k).isSome = (dGet p.1 p.2).isSome := by
      rcases ky_get k1 k2 q3 with ⟨w1, w2⟩ | ⟨t, v, w1, w2, _⟩
      · rw [w1, w2]; rfl
      · rw [w1, w2]; rfl
    rw [this]
    exact h s' I'
theorem dkey_get (hK : X.K = g.K) (hp : X.prog = g.pr) (hw : X.w = g.wd) (hu : X.A.units + 64 < cLine) (I : Inv X pins σ H s) (sr : SRep g m H S) {kt : T} {n : Nat} {v y : V} {u u' : Value} {p : List (T × T) × NestedKey} {t : T} (r1 : Rep g m H kt v) (e1 : RelV v u) (r2 : Rep g m H (.box n) y) (e2 : RelV y u') (hk : dKey S n kt = some p) (ht : dGet p.1 p.2 = some t)
    {Q : Value → Shared → Prop} (h : ∀ v' w' s', Inv X pins σ H s' → Rep g m H t v' → RelV v' w' → Q w' s') : s.TypeIs u' "dict" ∧ wpAny (model X.prog X.w) X.A (getItem u' u) Q E s := by
  rcases dkey_split hk with ⟨z1, z2⟩ | ⟨z1, z2⟩
  · exact dct_get hK hp hw hu I sr r1 e1 r2 e2 z1 z2 ht h
  · obtain ⟨a, xs, rfl, _, q1, q2, q3, q4⟩ := dki_at sr r2 z1
    cases (show u' = Value.ref a from e2)
    obtain ⟨k, k1, k2⟩ := kkey_ky z2
    have := ky_v r1 k1
    subst this
    rcases ky_get k1 k2 q3 with ⟨w1, w2⟩ | ⟨t', v', w1, w2, w3⟩
    · rw [ht] at w1; cases w1
    · rw [ht] at w1; cases w1
      have D : DGet H a (kV k) (some v') := .inl ⟨xs, k, .inl q1, rfl, w2.symm⟩
      exact ⟨dict_typeIs I D, d_getItem (by omega) I D e1 fun w' s' I' r' => h v' w' s' I' w3 r'⟩
theorem dPut_len : ∀ (l : List (T × T)) (t : T) (q : NestedKey) (v : T), (dPut l t q v).length ≤ l.length + 1
  | [], _, _, _ => Nat.le_refl _
  | (k, w) :: l, t, q, v => by
    simp only [dPut]
    split
    · simp
    · simp only [List.length_cons]
      have := dPut_len l t q v
      omega
theorem dct_put (hK : X.K = g.K) (hp : X.prog = g.pr) (hw : X.w = g.wd) (hu : X.A.units + 64 < cLine) (I : Inv X pins σ H s) (sr : SRep g m H S) {kt vt : T} {v y : V} {u u' u2 : Value} {l : List (T × T)} {q : NestedKey} {n : Nat} {y2 : V} (r1 : Rep g m H kt v) (e1 : RelV v u) (r2 : Rep g m H (.box n) y) (e2 : RelV y u') (hl : S[n]? = some (.dct l)) (hk : tkey kt = some q) (hll : l.length < sizeLine) (r3 : Rep g m H vt y2) (e3 : RelV y2 u2)
    {Q : Unit → Shared → Prop} (h : ∀ s' H', Ext m H m H' → Inv X pins σ H' s' → SRep g m H' (S.set n (.dct (dPut l kt q vt))) → Q () s') : wpAny (model X.prog X.w) X.A (setItem u' u u2) Q E s := by
  obtain ⟨b, rfl, rfl, kz⟩ := key_is hK I r1 e1 hk
  have r2' := r2
  simp only [Rep] at r2'
  obtain ⟨a, hm, rfl⟩ := r2'
  obtain ⟨xs, d1, d2⟩ := sr.at_ n _ a hl hm
  cases (show u' = Value.ref a from e2)
  have hf : ∀ od u, H a ≠ some (.frz od u) := fun od u z => by rw [d1] at z; unfold DkO at z; cases z
  have dd := dct_at hK hp hw I (.inl d1) d2
  have hz : xs.length ≤ sizeLine := by rw [← d2.2.2.1.length]; exact d2.1
  refine wpAny_setItem_heap (hsz := hz) (knd := nestedKind X.prog X.w) (show X.A.in1.units + 8 < cLine by show X.A.units + 1 + 8 < cLine; omega) kz dd fun h' dd' hs => ?_
  obtain ⟨o, es, ep, h1, h2, h3, h4, h5, h6⟩ := dd'
  have x : Ext m H m (upd H a (DkO g.pr g.wd a (storedH xs q b u2))) := Ext.write (List.mem_of_getElem? hm) hf (fun ps z => by unfold DkO at z; cases z)
  refine h _ _ x (d_write I (by rw [d1]; exact True.intro) hs ⟨o, h1⟩ (dkO_ok ⟨o, es, ep, h1, h2, h3, ?_⟩)) (sr.writeO hm hf (fun ps z => by unfold DkO at z; cases z) ⟨_, upd_same, ?_, d2.2.1, KD.mono x (kd_put hk r1 r3 e3 d2.2.2.1 d2.2.2.2), h6⟩)
  · rw [h4, hp, hw]
  · have := dPut_len l kt q vt
    omega
theorem dki_put (hu : X.A.units + 64 < cLine) (I : Inv X pins σ H s) (sr : SRep g m H S) {kt vt : T} {v y : V} {u u' u2 : Value} {l : List (T × T)} {q : NestedKey} {n : Nat} {y2 : V} (r1 : Rep g m H kt v) (e1 : RelV v u) (r2 : Rep g m H (.box n) y) (e2 : RelV y u') (hl : S[n]? = some (.dki l)) (hk : kkey kt = some q) (hll : l.length < sizeLine) (r3 : Rep g m H vt y2) (e3 : RelV y2 u2)
    {Q : Unit → Shared → Prop} (h : ∀ s' H', Ext m H m H' → Inv X pins σ H' s' → SRep g m H' (S.set n (.dki (dPut l kt q vt))) → Q () s') : wpAny (model X.prog X.w) X.A (setItem u' u u2) Q E s := by
  obtain ⟨a, xs, rfl, hm, q1, q2, q3, q4⟩ := dki_at sr r2 hl
  cases (show u' = Value.ref a from e2)
  obtain ⟨k, k1, k2⟩ := kkey_ky hk
  have := ky_v r1 k1
  subst this
  have hf : ∀ od u, H a ≠ some (.frz od u) := fun od u z => by rw [q1] at z; cases z
  have x : Ext m H m (upd H a (.dK (putK xs k y2))) := Ext.write (List.mem_of_getElem? hm) hf
  refine d_setItem (H' := upd H a (.dK (putK xs k y2))) (by omega) I (.inl ⟨xs, k, q1, rfl, by rw [← q3.length]; exact hll, rfl⟩) e1 e3 fun s' I' => ?_
  refine h s' _ x I' (sr.writeO hm hf (q := ⟨_, upd_same, ?_, KY.mono x (ky_put k1 k2 r3 q3 q4), ?_⟩))
  · have := dPut_len l kt q vt
    omega
  · cases hv : valV xs k with
    | none => exact nd_putK y2 q4 hv
    | some z =>
      have : (putK xs k y2).map (·.1) = xs.map (·.1) := by
        unfold putK
        rw [valV_any, hv]
        simp only [Option.isSome_some, if_true, List.map_map]
        refine List.map_congr_left fun p _ => ?_
        simp only [Function.comp]
        split <;> rfl
      rw [this]; exact q4
end
end
end Fw

namespace Fw
open PySem L2 PyProof.Rows

/-! ### operators, by values -/
def rB (g : GW) (o : Operator) : R2 := fun x y H Q => ∃ W m σ S bx s t u, SRep g m H S ∧ RepD g m H s x ∧ RepD g m H t y ∧ bop o s t = some u ∧ GoodE g W m σ H Q (newL bx u S)

theorem newL_ne {bx : Bool} {t : T} {S : Sto} (h : ∀ l, t ≠ .lst l) : newL bx t S = .ok t S := by
  cases t <;> first | rfl | exact absurd rfl (h _)

theorem non_iff {g : GW} {m : List Addr} {H : Hp} {t : T} {v : V} (r : Rep g m H t v) : decide (v = V.non) = (match t with | .non => true | _ => false) := by
  cases t <;> simp only [Rep] at r
  case non => subst r; rfl
  case bl => subst r; rfl
  case int => subst r; rfl
  case str => subst r; rfl
  case fn => subst r; rfl
  case box => obtain ⟨a, _, rfl⟩ := r; rfl
  case scr => obtain ⟨a, rfl, _⟩ := r; rfl
  case err => obtain ⟨a, rfl, _⟩ := r; rfl
  case tup => obtain ⟨a, vs, rfl, _⟩ := r; rfl
  case lst => obtain ⟨a, vs, rfl, _⟩ := r; rfl

section
variable {X : Cx} {g : GW}

theorem op_b (hK : X.K = g.K) (o : Operator) : OpR X (binaryOp o) (rB g o) := by
  intro pins s σ H x y v u Q I rx ry h
  obtain ⟨W, m, σ', S, bx, a, b, r, sr, ra, rb, e, G⟩ := h
  unfold bop at e
  split at e
  · -- int + int
    rename_i i j
    cases RepD.int ra; cases RepD.int rb
    simp only [Option.some.injEq] at e; subst e
    exact op_add pins s σ H _ _ v u Q I rx ry ⟨i, j, rfl, rfl, fin_val (t := .int _) G sr Rep.int_⟩
  · rename_i i j
    cases RepD.str ra; cases RepD.str rb
    split at e
    · rename_i hl
      simp only [Option.some.injEq] at e; subst e
      rw [line_eq] at hl
      exact op_add_str pins s σ H _ _ v u Q I rx ry ⟨i, j, rfl, rfl, hl, fin_val (t := .str _) G sr Rep.str_⟩
    · cases e
  · -- tuples
    rename_i k l
    obtain ⟨a1, vs, rfl, q1, l1⟩ := RepD.tup ra
    obtain ⟨b1, ws, rfl, q2, l2⟩ := RepD.tup rb
    split at e
    · rename_i hl
      simp only [Option.some.injEq] at e; subst e
      rw [line_eq, l1.length, l2.length] at hl
      rw [← hK] at q1 q2
      refine op_catA pins s σ H _ _ v u Q I rx ry ⟨a1, b1, vs, ws, rfl, rfl, q1, q2, hl, fun z => ?_, fun _ z => ?_, fun _ _ => fin_tup G sr (l1.append l2)⟩
      · subst z
        have : k = [] := List.eq_nil_of_length_eq_zero l1.length
        subst this
        exact fin_val (t := .tup l) G sr rb
      · subst z
        have : l = [] := List.eq_nil_of_length_eq_zero l2.length
        subst this
        rw [List.append_nil] at G
        exact fin_val (t := .tup k) G sr ra
    · cases e
  · rename_i k l
    obtain ⟨a1, vs, rfl, q1, l1⟩ := RepD.lst ra
    obtain ⟨b1, ws, rfl, q2, l2⟩ := RepD.lst rb
    split at e
    · rename_i hl
      simp only [Option.some.injEq] at e; subst e
      rw [line_eq, l1.length, l2.length] at hl
      exact op_cat pins s σ H _ _ v u Q I rx ry ⟨a1, b1, vs, ws, rfl, rfl, q1, q2, hl, fin_lst G sr (l1.append l2)⟩
    · cases e
  · rename_i i j
    cases RepD.int ra; cases RepD.int rb
    simp only [Option.some.injEq] at e; subst e
    exact op_sub pins s σ H _ _ v u Q I rx ry ⟨i, j, rfl, rfl, fin_val (t := .int _) G sr Rep.int_⟩
  · rename_i i j
    cases RepD.int ra; cases RepD.int rb
    split at e
    · rename_i hl
      simp only [Option.some.injEq] at e; subst e
      refine op_mul pins s σ H _ _ v u Q I rx ry ⟨i, j, rfl, rfl, ?_, fin_val (t := .int _) G sr Rep.int_⟩
      simpa [small64, CMul] using hl
    · cases e
  · rename_i l k
    obtain ⟨a1, vs, rfl, q1, l1⟩ := RepD.tup ra
    cases RepD.int rb
    split at e
    · rename_i hl
      simp only [Option.some.injEq] at e; subst e
      simp only [Bool.and_eq_true, decide_eq_true_eq, Bool.not_eq_true', List.isEmpty_eq_false_iff] at hl
      obtain ⟨⟨⟨h1, h2⟩, h3⟩, h4⟩ := hl
      rw [← hK] at q1
      refine op_repT pins s σ H _ _ v u Q I rx ry ⟨a1, k, vs, rfl, rfl, q1, ?_, h2, h3, by rw [← l1.length]; exact h4, ?_⟩
      · intro z; subst z
        have := l1.length
        simp at this
        exact h1 this
      · exact fin_tup G sr (l1.rep _)
    · cases e
  · rename_i i j
    cases RepD.int ra; cases RepD.int rb
    split at e
    · rename_i hl
      simp only [Option.some.injEq] at e; subst e
      refine op_fdiv pins s σ H _ _ v u Q I rx ry ⟨i, j, rfl, rfl, ?_, fin_val (t := .int _) G sr Rep.int_⟩
      simpa [CDiv] using hl
    · cases e
  · rename_i i j
    cases RepD.int ra; cases RepD.int rb
    split at e
    · rename_i hl
      simp only [Option.some.injEq] at e; subst e
      refine op_mod pins s σ H _ _ v u Q I rx ry ⟨i, j, rfl, rfl, ?_, fin_val (t := .int _) G sr Rep.int_⟩
      simpa using hl
    · cases e
  · rename_i i j
    cases RepD.int ra; cases RepD.int rb
    split at e
    · rename_i hl
      simp only [Option.some.injEq] at e; subst e
      refine op_pow pins s σ H _ _ v u Q I rx ry ⟨i, j, rfl, rfl, ?_, fin_val (t := .int _) G sr Rep.int_⟩
      simp only [Bool.and_eq_true, decide_eq_true_eq] at hl
      exact ⟨hl.1.1, hl.1.2, hl.2⟩
    · cases e
  · rename_i a k
    cases RepD.str ra; cases RepD.int rb
    split at e
    · rename_i hl
      simp only [Option.some.injEq] at e; subst e
      simp only [Bool.and_eq_true, decide_eq_true_eq] at hl
      obtain ⟨t1, rfl⟩ := rx
      obtain ⟨t2, rfl⟩ := ry
      exact PySem.W.KXi.mul rfl hl.2 (by omega) (by omega) fun t' k' _ _ => ⟨.str _, H, I.tok _, ⟨t', rfl⟩, fin_val (t := .str _) G sr Rep.str_⟩
    · cases e
  · rename_i p j
    cases RepD.bl ra; cases RepD.int rb
    simp only [Option.some.injEq] at e; subst e
    cases rx
    obtain ⟨u, rfl⟩ := ry
    exact IntBool.add_bool_int ⟨.int _, H, I.tok _, ⟨_, rfl⟩, fin_val (t := .int _) G sr Rep.int_⟩
  · rename_i p j
    cases RepD.bl ra; cases RepD.int rb
    simp only [Option.some.injEq] at e; subst e
    cases rx
    obtain ⟨u, rfl⟩ := ry
    exact IntBool.sub_bool_int ⟨.int _, H, I.tok _, ⟨_, rfl⟩, fin_val (t := .int _) G sr Rep.int_⟩
  · cases e

theorem slot_bool_neg : Slot "bool" "__neg__" "int.__neg__" :=
  .of (owner := "int") (n := "__neg__") (by rw [typeLookup_type, builtinLookup_eq_fast]; kernel_rfl) (by decide +kernel) (by decide +kernel) (by decide +kernel)
    (by first | exact .inl (by decide +kernel) | exact .inr (by decide +kernel)) (by rw [isSubtype_type]; kernel_rfl)
theorem neg_bool {prog : Program} {w : World} {A : Around} {E : Value → Shared → Prop} {s : Shared} {a : Bool} {Q : Value → Shared → Prop} (h : Q (.int (-(if a = true then (1 : Int) else 0)) s.toks) { s with toks := s.toks + 1 }) : wpAny (model prog w) A (unaryOp .USub (.bool a)) Q E s := by
  unfold unaryOp
  refine wpAny_holding ?_
  refine wpAny_bind (m := callSpecial? (.bool a) (Str.ofString "__neg__")) (wpAny_callSpecial?_slot (name := Str.ofString "__neg__") rfl slot_bool_neg
    (wpAny_call_entry slot_bool_neg rfl entry_int_neg ?_ (args_int_neg _)))
  show wpAny _ _ (do ret (← mkInt (-(if a = true then (1 : Int) else 0)))) _ _ s
  exact wpAny_ret_mkInt (wpAny_pure h)
/-- - of an int or a bool -/
theorem un_ng : UnR X (unaryOp .USub) (fun x H Q => ∃ y, (∃ i, x = .int i ∧ y = -i) ∧ Q (.int y) H ∨ (∃ p, x = .bl p ∧ y = -(if p = true then (1 : Int) else 0)) ∧ Q (.int y) H) := by
  intro pins s σ H x v Q I rx h
  obtain ⟨y, ⟨⟨i, rfl, rfl⟩, q⟩ | ⟨⟨p, rfl, rfl⟩, q⟩⟩ := h
  · obtain ⟨t, rfl⟩ := rx
    exact neg_int ⟨.int _, H, I.tok _, ⟨_, rfl⟩, q⟩
  · cases rx
    exact neg_bool ⟨.int _, H, I.tok _, ⟨_, rfl⟩, q⟩

/-! comparisons -/
def rCo (g : GW) (o : CmpOp) : R2 := fun x y H Q => ∃ W m σ S s t b, SRep g m H S ∧ Rep g m H s x ∧ Rep g m H t y ∧ cop S o s t = some b ∧ GoodE g W m σ H Q (.ok (.bl b) S)

theorem eq_reads {pins : List (Addr × Obj)} {σ : L2.St} {s : Shared} {m : List Addr} {H : Hp} (hK : X.K = g.K) (I : Inv X pins σ H s) {t : T} {v : V} {u : Value} {d : PyData} (r : RepD g m H t v) (rv : RelV v u) (e : toD t = some d) :
    ∃ as, Reads s.heap u d as := Dp.reads I d v u (by rw [hK]; exact rep_dp t r e) rv

theorem op_c (hK : X.K = g.K) (hp : X.prog = g.pr) (hw : X.w = g.wd) (hu : X.A.units + 64 < cLine) (o : CmpOp) : OpR X (compareOp o) (rCo g o) := by
  intro pins s σ H x y v u Q I rx ry h
  obtain ⟨W, m, σ', S, a, b, k, sr, ra, rb, e, G⟩ := h
  have q : Q (.bl k) H := fin_val G sr Rep.bl_
  have qe : EP X pins σ Q (.bool k) s := ⟨.bl k, H, I, rfl, q⟩
  have eqs : ∀ {k' : Bool}, eqT (drf S a) (drf S b) = some k' → ∃ da db as bs, Reads s.heap v da as ∧ Reads s.heap u db bs ∧ da.plain = true ∧ db.plain = true ∧ X.A.units + min da.depth db.depth < cLine ∧ PyData.eqv da db = k' := by
    intro k' e
    unfold eqT at e
    split at e
    · rename_i da e1
      split at e
      · rename_i db e2
        split at e
        · rename_i hs
          obtain ⟨as, r1⟩ := eq_reads hK I (RepD.drf sr ra) rx e1
          obtain ⟨bs, r2⟩ := eq_reads hK I (RepD.drf sr rb) ry e2
          refine ⟨da, db, as, bs, r1, r2, toD_plain _ e1, toD_plain _ e2, ?_, by simpa using e⟩
          have : min da.depth db.depth ≤ 60 := by simpa [shal] using hs
          omega
        · cases e
      · cases e
    · cases e
  have ins : ∀ {k' : Bool} {l : List T}, inT (drf S a) l = some k' → ∃ d ds as, Reads s.heap v d as ∧ toDs l = some ds ∧ d.plain = true ∧ PyData.plainAll ds = true ∧ X.A.units + 1 + min (PyData.depthAll ds) d.depth < cLine ∧ (ds.any fun z => PyData.eqv z d) = k' := by
    intro k' l e
    unfold inT at e
    split at e
    · rename_i d e1
      split at e
      · rename_i ds e2
        split at e
        · rename_i hs
          obtain ⟨as, r1⟩ := eq_reads hK I (RepD.drf sr ra) rx e1
          refine ⟨d, ds, as, r1, e2, toD_plain _ e1, toDs_plain _ e2, ?_, by simpa using e⟩
          have : d.depth ≤ 60 := by simpa using hs
          omega
        · cases e
      · cases e
    · cases e
  cases o with
  | Eq =>
    obtain ⟨da, db, as, bs, r1, r2, p1, p2, hd, ev⟩ := eqs e
    exact SeqAt.eq_plain r1 r2 p1 p2 hd (by rw [ev]; exact qe)
  | NotEq =>
    simp only [cop] at e
    split at e
    · rename_i k' e'
      obtain ⟨da, db, as, bs, r1, r2, p1, p2, hd, ev⟩ := eqs e'
      simp only [Option.some.injEq] at e
      exact SeqAt.ne_plain r1 r2 p1 p2 hd (by rw [ev, e]; exact qe)
    · cases e
  | Lt =>
    simp only [cop] at e
    split at e
    · rename_i i j
      cases RepD.int (RepD.of ra); cases RepD.int (RepD.of rb)
      simp only [Option.some.injEq] at e
      exact op_lt pins s σ H _ _ v u Q I rx ry ⟨i, j, rfl, rfl, by show Q (.bl (decide (i < j))) H; rw [e]; exact q⟩
    · cases e
  | LtE =>
    simp only [cop] at e
    split at e
    · rename_i i j
      cases RepD.int (RepD.of ra); cases RepD.int (RepD.of rb)
      simp only [Option.some.injEq] at e
      exact op_le pins s σ H _ _ v u Q I rx ry ⟨i, j, rfl, rfl, by show Q (.bl (decide (i ≤ j))) H; rw [e]; exact q⟩
    · cases e
  | Gt =>
    simp only [cop] at e
    split at e
    · rename_i i j
      cases RepD.int (RepD.of ra); cases RepD.int (RepD.of rb)
      simp only [Option.some.injEq] at e
      exact op_gt pins s σ H _ _ v u Q I rx ry ⟨i, j, rfl, rfl, by show Q (.bl (decide (j < i))) H; rw [e]; exact q⟩
    · cases e
  | GtE =>
    simp only [cop] at e
    split at e
    · rename_i i j
      cases RepD.int (RepD.of ra); cases RepD.int (RepD.of rb)
      simp only [Option.some.injEq] at e
      exact op_ge pins s σ H _ _ v u Q I rx ry ⟨i, j, rfl, rfl, by show Q (.bl (decide (j ≤ i))) H; rw [e]; exact q⟩
    · cases e
  | Is =>
    simp only [cop] at e
    split at e
    · have hy : y = .non := by simpa [Rep] using rb
      refine op_isN pins s σ H _ _ v u Q I rx ry ⟨hy, ?_⟩
      have : decide (x = V.non) = k := by
        rw [non_iff ra]
        cases a <;> simp at e ⊢ <;> exact e
      rw [this]; exact q
    · split at e
      · rename_i a0
        cases RepD.bl (RepD.of ra); cases RepD.bl (RepD.of rb)
        simp only [Option.some.injEq] at e
        refine op_isBl pins s σ H _ _ v u Q I rx ry ⟨_, _, rfl, rfl, ?_⟩
        rw [e]; exact q
      · cases e
    · cases e
  | IsNot =>
    simp only [cop] at e
    split at e
    · have hy : y = .non := by simpa [Rep] using rb
      refine op_notN pins s σ H _ _ v u Q I rx ry ⟨hy, ?_⟩
      have : (!decide (x = V.non)) = k := by
        rw [non_iff ra]
        cases a <;> simp at e ⊢ <;> exact e
      rw [this]; exact q
    · split at e
      · rename_i a0
        cases RepD.bl (RepD.of ra); cases RepD.bl (RepD.of rb)
        simp only [Option.some.injEq] at e
        refine op_notBl pins s σ H _ _ v u Q I rx ry ⟨_, _, rfl, rfl, ?_⟩
        rw [e]; exact q
      · cases e
    · cases e
  | In =>
    simp only [cop] at e
    have rb' := RepD.drf sr rb
    split at e
    · rename_i l hl
      rw [hl] at rb'
      obtain ⟨d, ds, as, r1, e2, p1, p2, hd, ev⟩ := ins e
      have e3 : toD (T.tup l) = some (.tuple ds) := by simp [toD, e2]
      obtain ⟨bs, r2⟩ := eq_reads hK I rb' ry e3
      exact SeqAt.in_tuple_data r2 r1 p2 p1 hd (by rw [ev]; exact qe)
    · rename_i l hl
      rw [hl] at rb'
      obtain ⟨d, ds, as, r1, e2, p1, p2, hd, ev⟩ := ins e
      have e3 : toD (T.lst l) = some (.list ds) := by simp [toD, e2]
      obtain ⟨bs, r2⟩ := eq_reads hK I rb' ry e3
      exact SeqAt.in_list_data r2 r1 p2 p1 hd (by rw [ev]; exact qe)
    · rename_i z hl
      rw [hl] at rb'
      split at e
      · rename_i z'
        cases RepD.str (RepD.of ra)
        cases RepD.str rb'
        simp only [Option.some.injEq] at e
        exact op_in_str pins s σ H _ _ v u Q I rx ry ⟨z', z, rfl, rfl, by rw [e]; exact q⟩
      · cases e
    · rename_i n hl
      split at e
      · rename_i p hp'
        simp only [Option.some.injEq] at e
        exact dkey_in hK hp hw hu I sr ra rx (drf_bx hl ▸ rb) ry hp' fun s' I' => ⟨.bl k, H, I', by rw [e]; exact rfl, q⟩
      · cases e
    · cases e
  | NotIn =>
    simp only [cop] at e
    have rb' := RepD.drf sr rb
    split at e
    · rename_i l hl
      rw [hl] at rb'
      split at e
      · rename_i k' e'
        obtain ⟨d, ds, as, r1, e2, p1, p2, hd, ev⟩ := ins e'
        have e3 : toD (T.tup l) = some (.tuple ds) := by simp [toD, e2]
        obtain ⟨bs, r2⟩ := eq_reads hK I rb' ry e3
        simp only [Option.some.injEq] at e
        exact SeqAt.notIn_tuple_data r2 r1 p2 p1 hd (by rw [ev, e]; exact qe)
      · cases e
    · rename_i l hl
      rw [hl] at rb'
      split at e
      · rename_i k' e'
        obtain ⟨d, ds, as, r1, e2, p1, p2, hd, ev⟩ := ins e'
        have e3 : toD (T.lst l) = some (.list ds) := by simp [toD, e2]
        obtain ⟨bs, r2⟩ := eq_reads hK I rb' ry e3
        simp only [Option.some.injEq] at e
        exact SeqAt.notIn_list_data r2 r1 p2 p1 hd (by rw [ev, e]; exact qe)
      · cases e
    · rename_i z hl
      rw [hl] at rb'
      split at e
      · rename_i z'
        cases RepD.str (RepD.of ra)
        cases RepD.str rb'
        simp only [Option.some.injEq] at e
        exact op_notIn_str pins s σ H _ _ v u Q I rx ry ⟨z', z, rfl, rfl, by rw [e]; exact q⟩
      · cases e
    · rename_i n hl
      split at e
      · rename_i p hp'
        simp only [Option.some.injEq] at e
        exact dkey_notIn hK hp hw hu I sr ra rx (drf_bx hl ▸ rb) ry hp' fun s' I' => ⟨.bl k, H, I', by rw [e]; exact rfl, q⟩
      · cases e
    · cases e

/-! subscripts -/
def rIxT (g : GW) : R2 := fun x y H Q => ∃ W m σ S s t u, SRep g m H S ∧ Rep g m H s x ∧ Rep g m H t y ∧ ixT S s t = some u ∧ GoodE g W m σ H Q (.ok u S)

theorem atI_rep {m : List Addr} {H : Hp} {l : List T} {vs : List V} {k : Int} {u : T} (r : RepL g m H l vs) (e : atI l k = some u) : ∃ v, atI vs k = some v ∧ Rep g m H u v := by
  unfold atI at e ⊢
  rw [← r.length]
  cases h : ixN l.length k with
  | none => rw [h] at e; cases e
  | some j =>
    rw [h] at e
    exact r.get e

theorem subT_of {prog : Program} {w : World} {A : Around} {E : Value → Shared → Prop} {s : Shared} {value slice : Expr} {T id : String} {o i : Value} {Q : Value → Shared → Prop}
    (hl : typeLookup (.type T) "__getitem__" = pure (some (.builtin id))) (hs : subscripted slice false o i = operate [o, i] (getItem o i)) (hT : s.TypeIs o T)
    (h : wpAny (model prog w) A (getItem o i) Q E s) : wpAny (model prog w) A (subscriptTail value slice o i) Q E s := by
  unfold subscriptTail
  refine wpAny_bind ?_
  rw [getitemInPython_of_ne hT.not_modules]
  refine wpAny_bind (wpAny_specialOf hT hl ?_)
  have fin : wpAny (model prog w) A (subscripted slice false o i) (fun r s₃ => wpAny (model prog w) A (letTemporaryGo value o r >>= fun _ => pure r) Q E s₃) E s := by
    rw [hs]
    exact wpAny_operating (wpAny_mono h (fun r s₃ h₃ => wpAny_bind (wpAny_letTemporaryGo (wpAny_pure h₃))) fun _ _ x => x)
  first
    | exact wpAny_pure (wpAny_bind fin)
    | exact wpAny_bind (wpAny_pure (wpAny_bind fin))
    | exact wpAny_bind fin
theorem ix_t (hK : X.K = g.K) (hp : X.prog = g.pr) (hw : X.w = g.wd) (hu : X.A.units + 64 < cLine) : IxR X (rIxT g) := by
  intro value slice pins s σ H x y v u Q I rx ry h hs
  obtain ⟨W, m, σ', S, a, b, r, sr, ra, rb, e, G⟩ := h
  have ra' := RepD.drf sr ra
  unfold ixT at e
  split at e
  · rename_i l k hl
    rw [hl] at ra'
    obtain ⟨p, vs, rfl, q1, l1⟩ := RepD.tup ra'
    cases RepD.int (RepD.of rb)
    obtain ⟨w, h1, h2⟩ := atI_rep l1 e
    rw [← hK] at q1
    refine ix_tup value slice pins s σ H _ _ v u Q I rx ry ⟨p, vs, k, w, rfl, rfl, q1, h1, fin_val G sr h2⟩ hs
  · rename_i l k hl
    rw [hl] at ra'
    obtain ⟨p, vs, rfl, q1, l1⟩ := RepD.lst ra'
    cases RepD.int (RepD.of rb)
    obtain ⟨w, h1, h2⟩ := atI_rep l1 e
    refine ix_list value slice pins s σ H _ _ v u Q I rx ry ⟨p, vs, k, w, rfl, rfl, SqL.of q1, h1, fin_val G sr h2⟩ hs
  · rename_i l k hl
    rw [hl] at ra'
    obtain ⟨p, rfl, q1⟩ := RepD.scr ra'
    cases RepD.int (RepD.of rb)
    split at e
    · rename_i z hz
      simp only [Option.some.injEq] at e; subst e
      rw [← hK] at q1
      refine ix_list value slice pins s σ H _ _ v u Q I rx ry ⟨p, _, k, .int z, rfl, rfl, q1, ?_, fin_val G sr Rep.int_⟩ hs
      unfold atI at hz ⊢
      rw [List.length_map]
      cases h : ixN l.length k with
      | none => rw [h] at hz; cases hz
      | some j =>
        rw [h] at hz
        have hz' : l[j]? = some z := hz
        show (l.map V.int)[j]? = some (.int z)
        simp [hz']
    · cases e
  · rename_i z k hl
    rw [hl] at ra'
    cases RepD.str ra'
    cases RepD.int (RepD.of rb)
    split at e
    · rename_i hz
      split at e
      · rename_i c hc
        simp only [Option.some.injEq] at e; subst e
        rw [line_eq] at hz
        refine ix_str value slice pins s σ H _ _ v u Q I rx ry ⟨z, k, c, rfl, rfl, hz, hc, fin_val G sr Rep.str_⟩ hs
      · cases e
    · cases e
  · rename_i n hl
    split at e
    · rename_i p hp'
      obtain ⟨hT, hz⟩ := dkey_get (Q := EP X pins σ Q) (E := X.xe) hK hp hw hu I sr rb ry (drf_bx hl ▸ ra) rx hp' e fun v' w' s' I' r' rv' => ⟨v', H, I', rv', fin_val G sr r'⟩
      exact subT_of PySem.F.slot_dict_getitem.lookup hs hT hz
    · cases e
  · cases e

/-! slices -/
theorem cutL_rep {m : List Addr} {H : Hp} {l : List T} {vs : List V} {lo hi : Option Int} (r : RepL g m H l vs) : RepL g m H (cutL l lo hi) (cutV vs lo hi) := by
  unfold cutL cutV
  rw [r.length]
  exact (r.drop _).take _
def rSlTT (g : GW) : V → Option Int → Option Int → Hp → VK → Prop := fun x lo hi H Q => ∃ W m σ S bx s u, SRep g m H S ∧ Rep g m H s x ∧ slT S s lo hi = some u ∧ GoodE g W m σ H Q (newL bx u S)
theorem sl_t (hK : X.K = g.K) : SlR X (rSlTT g) := by
  intro pins s σ H x v vl vu lo hi sl Q I rx hs pl pu h
  obtain ⟨W, m, σ', S, bx, a, r, sr, ra, e, G⟩ := h
  have ra' := RepD.drf sr ra
  unfold slT at e
  split at e
  · rename_i l hl
    rw [hl] at ra'
    obtain ⟨p, vs, ex, q1, l1⟩ := RepD.tup ra'
    simp only [Option.some.injEq] at e; subst e
    have q1' := q1
    rw [← hK] at q1
    refine sl_tupA pins s σ H x v vl vu lo hi sl Q I rx hs pl pu ⟨p, vs, ex, q1, fun hw => ?_, fun _ => fin_tup G sr (cutL_rep l1)⟩
    have hc : cutL l lo hi = l := by
      unfold cutL
      rw [l1.length, hw.1, hw.2, List.drop_zero, ← l1.length, Nat.sub_zero, List.take_length]
    rw [hc] at G
    subst ex
    exact fin_val (t := .tup l) G sr ra'
  · rename_i l hl
    rw [hl] at ra'
    obtain ⟨p, vs, ex, q1, l1⟩ := RepD.lst ra'
    simp only [Option.some.injEq] at e; subst e
    exact sl_list pins s σ H x v vl vu lo hi sl Q I rx hs pl pu ⟨p, vs, ex, SqL.of q1, fin_lst G sr (cutL_rep l1)⟩
  · rename_i z hl
    rw [hl] at ra'
    cases RepD.str ra'
    split at e
    · rename_i hz
      simp only [Option.some.injEq] at e; subst e
      rw [line_eq] at hz
      exact sl_str pins s σ H _ v vl vu lo hi sl Q I rx hs pl pu ⟨z, rfl, hz, fin_val (t := .str _) G sr Rep.str_⟩
    · cases e
  · cases e

/-! .. whatever lists are under way -/
def rBx (g : GW) (o : Operator) : R2 := fun x y H Q => ∃ fb, rB (g.w fb) o x y H Q
theorem op_bx (hK : X.K = g.K) (o : Operator) : OpR X (binaryOp o) (rBx g o) := fun pins s σ H x y v u Q I rx ry ⟨fb, h⟩ => op_b (g := g.w fb) hK o pins s σ H x y v u Q I rx ry h
def rCx (g : GW) (o : CmpOp) : R2 := fun x y H Q => ∃ fb, rCo (g.w fb) o x y H Q
theorem op_cx (hK : X.K = g.K) (hp : X.prog = g.pr) (hw : X.w = g.wd) (hu : X.A.units + 64 < cLine) (o : CmpOp) : OpR X (compareOp o) (rCx g o) := fun pins s σ H x y v u Q I rx ry ⟨fb, h⟩ => op_c (g := g.w fb) hK hp hw hu o pins s σ H x y v u Q I rx ry h
def rIx_ (g : GW) : R2 := fun x y H Q => ∃ fb, rIxT (g.w fb) x y H Q
theorem ix_x (hK : X.K = g.K) (hp : X.prog = g.pr) (hw : X.w = g.wd) (hu : X.A.units + 64 < cLine) : IxR X (rIx_ g) := fun a b pins s σ H x y v u Q I rx ry ⟨fb, h⟩ hs => ix_t (g := g.w fb) hK hp hw hu a b pins s σ H x y v u Q I rx ry h hs
def rSlx (g : GW) : V → Option Int → Option Int → Hp → VK → Prop := fun x lo hi H Q => ∃ fb, rSlTT (g.w fb) x lo hi H Q
theorem sl_x (hK : X.K = g.K) : SlR X (rSlx g) := fun pins s σ H x v vl vu lo hi sl Q I rx hs pl pu ⟨fb, h⟩ => sl_t (g := g.w fb) hK pins s σ H x v vl vu lo hi sl Q I rx hs pl pu h
end
end Fw

namespace Fw
open PySem L2 PyProof.Rows
section
variable {X : Cx}
/-- list(d), its keys tuples -/
theorem call_list_dX (hc : X.calm = true) : CallR X (.type "list") (fun xs H Q => ∃ (d : Addr) (P : Program) (w : World) (ks : List (NestedKey × Addr × Value)), xs = [V.ref d] ∧ Rd H d (DkO P w d ks) ∧ ks.length ≤ sizeLine ∧ (d == sysModules) = false ∧ ∀ p, H p = none → Q (.ref p) (upd H p (.lst (ks.map fun x => V.ref x.2.1)))) := by
  intro pins s σ H xs us Q I r h
  obtain ⟨d, P, w, ks, rfl, hd, z, hs, q⟩ := h
  obtain ⟨u, rfl, rx⟩ := r.one
  cases rx
  obtain ⟨o, es, ep, ho, hx, hdt, he⟩ := (show ObjOk X.prog X.w H s.heap d (DkO P w d ks) from hd.ok I.hok).1
  have l1 : es.size = ks.length := size_of_entries he
  refine PySem.W.kdl_call (kdl_raw hs hx hdt) (I.ok.hd hc) ho (by omega) fun h' tk acc' c' kp e it => ?_
  have ea : acc'.toList = ks.map fun x => Value.ref x.2.1 := by
    have hl : acc'.toList.length = ks.length := by rw [Array.length_toList, it.1]; exact l1
    apply List.ext_getElem?
    intro j
    rw [List.getElem?_map]
    cases hj : acc'.toList[j]? with
    | none =>
      have h1 := List.getElem?_eq_none_iff.mp hj
      rw [List.getElem?_eq_none (by omega)]
      all_goals rfl
    | some v =>
      obtain ⟨en, hen, hv⟩ := it.2 j v (by rw [← Array.getElem?_toList]; exact hj)
      have qe := entry_at he j
      rw [hen] at qe
      cases hb : ks[j]? with
      | none =>
        rw [hb] at qe
        exact nomatch (show some en = none from qe)
      | some b =>
        rw [hb] at qe
        have e2 : en = entryOfKey (nestedKind P w) b := Option.some.inj qe
        rw [hv, e2]
        all_goals rfl
  have eb : acc'.toList = (ks.map fun x => x.2.1).map Value.ref := by rw [ea, List.map_map]; all_goals rfl
  have rv : Vals (ks.map fun x => V.ref x.2.1) acc'.toList := by
    rw [eb]
    have := vals_refs (ks.map fun x => x.2.1)
    rw [List.map_map] at this
    exact this
  have hz : (ks.map fun x => V.ref x.2.1).length ≤ sizeLine := by rw [List.length_map]; exact z
  refine ⟨.ref s.heap.objs.size, _, I.laid (t' := tk) (o := .lst (ks.map fun x => V.ref x.2.1)) kp (Nat.le_refl _) ?_, rfl, q _ (I.hok.fresh (Nat.le_refl _))⟩
  exact ⟨hz, acc'.toList, c', rv, by rw [Array.toArray_toList]; exact e⟩
/-- len(d) -/
theorem call_len_dX : CallR X (.builtin "len") (fun xs H Q => ∃ (d : Addr) (P : Program) (w : World) (ks : List (NestedKey × Addr × Value)), xs = [V.ref d] ∧ Rd H d (DkO P w d ks) ∧ ks.length ≤ sizeLine ∧ (d == sysModules) = false ∧ Q (.int ks.length) H) := by
  intro pins s σ H xs us Q I r h
  obtain ⟨d, P, w, ks, rfl, hd, z, hs, q⟩ := h
  obtain ⟨u, rfl, rx⟩ := r.one
  cases rx
  obtain ⟨o, es, ep, ho, hx, hdt, he⟩ := (show ObjOk X.prog X.w H s.heap d (DkO P w d ks) from hd.ok I.hok).1
  have l1 : es.size = ks.length := size_of_entries he
  have raw : s.heap.DictRaw d es ep := ⟨o, ho, hx, hdt⟩
  have hz : (sizeLine : Nat) = 16777216 := rfl
  refine PyProof.Rows.call_len_slot raw.typeIs F.slot_dict_len (fun Q' q' => call_len_raw hs raw q') (by omega) (by omega) ?_
  refine ⟨.int ks.length, H, I.kept (t' := s.toks + 1 + 1) fun _ _ e => e, ?_, q⟩
  rw [l1]
  exact ⟨_, rfl⟩
/-- {}, its keys to be tuples | whole numbers or texts -/
theorem pe_dnewX {P : Program} {w : World} {pos : Pos} : PE X (.Dict [] [] pos) (fun _ H Q => ∀ p, H p = none → (p == sysModules) = false → Q (.ref p) (upd H p (DkO P w p []))) := ⟨fun pins s σ H Q I h =>
  wpAny_Dict_empty ⟨.ref s.heap.objs.size, _, I.laid (a := s.heap.objs.size) (o := DkO P w s.heap.objs.size []) (t' := s.toks) (fun _ _ q => Heap.get?_push_of_some _ q) (Nat.le_refl _)
    (dkO_ok ⟨_, #[], 0, Heap.get?_push_size _ rfl, ⟨rfl, rfl, rfl⟩, rfl, rfl⟩), rfl, h _ (I.hok.fresh (Nat.le_refl _)) (beq_eq_false_iff_ne.mpr (Ne.symm (Nat.ne_of_lt I.big)))⟩⟩

/-- dict of a list of pairs -/
theorem dMk_snoc : ∀ (l : List T) (acc r : List (T × T)), dMk l acc = some r → ∃ ps : List (T × T × NestedKey), l = ps.map (fun p => T.tup [p.1, p.2.1]) ∧ (∀ p ∈ ps, tkey p.1 = some p.2.2) ∧ r = ps.foldl (fun a p => dPut a p.1 p.2.2 p.2.1) acc
  | [], acc, r, h => by simp only [dMk, Option.some.injEq] at h; exact ⟨[], rfl, (fun _ z => nomatch z), h.symm⟩
  | t :: l, acc, r, h => by
    unfold dMk at h
    split at h
    · rename_i e; cases e
    · rename_i acc' k v r' e
      cases e
      split at h
      · rename_i q hq
        obtain ⟨ps, e1, e2, e3⟩ := dMk_snoc l _ r h
        refine ⟨(k, v, q) :: ps, by rw [e1]; rfl, fun p hp => ?_, e3⟩
        rcases List.mem_cons.mp hp with z | z
        · subst z; exact hq
        · exact e2 p z
      · cases h
    · cases h
end
end Fw

namespace Fw
open PySem L2 PyProof.Rows

theorem maxI_spec : ∀ (r : List Int) (a : Int), maxI a r ∈ a :: r ∧ ∀ y ∈ a :: r, y ≤ maxI a r
  | [], a => by simp [maxI]
  | b :: r, a => by
    obtain ⟨h1, h2⟩ := maxI_spec r (if b > a then b else a)
    show maxI (if b > a then b else a) r ∈ a :: b :: r ∧ ∀ y ∈ a :: b :: r, y ≤ maxI (if b > a then b else a) r
    have h3 := h2 _ List.mem_cons_self
    generalize maxI (if b > a then b else a) r = M at *
    refine ⟨?_, fun y hy => ?_⟩
    · rcases List.mem_cons.mp h1 with q | q
      · rw [q]; split <;> simp
      · exact List.mem_cons_of_mem _ (List.mem_cons_of_mem _ q)
    · rcases List.mem_cons.mp hy with q | q
      · subst q; split at h3 <;> omega
      · rcases List.mem_cons.mp q with q | q
        · subst q; split at h3 <;> omega
        · exact h2 y (List.mem_cons_of_mem _ q)
theorem minI_spec : ∀ (r : List Int) (a : Int), minI a r ∈ a :: r ∧ ∀ y ∈ a :: r, minI a r ≤ y
  | [], a => by simp [minI]
  | b :: r, a => by
    obtain ⟨h1, h2⟩ := minI_spec r (if b < a then b else a)
    show minI (if b < a then b else a) r ∈ a :: b :: r ∧ ∀ y ∈ a :: b :: r, minI (if b < a then b else a) r ≤ y
    have h3 := h2 _ List.mem_cons_self
    generalize minI (if b < a then b else a) r = M at *
    refine ⟨?_, fun y hy => ?_⟩
    · rcases List.mem_cons.mp h1 with q | q
      · rw [q]; split <;> simp
      · exact List.mem_cons_of_mem _ (List.mem_cons_of_mem _ q)
    · rcases List.mem_cons.mp hy with q | q
      · subst q; split at h3 <;> omega
      · rcases List.mem_cons.mp q with q | q
        · subst q; split at h3 <;> omega
        · exact h2 y (List.mem_cons_of_mem _ q)

section
variable {g : GW} {m : List Addr} {H : Hp}
theorem rep_ints : ∀ {l : List T} {ns : List Int} {vs : List V}, RepL g m H l vs → intsOf l = some ns → vs = ns.map V.int
  | [], ns, vs, r, e => by simp only [RepL] at r; subst r; simp [intsOf] at e; subst e; rfl
  | .int b :: l, ns, vs, r, e => by
    simp only [RepL, Rep] at r
    obtain ⟨v, w, rfl, rfl, h⟩ := r
    simp only [intsOf] at e
    split at e
    · rename_i k hk
      simp only [Option.some.injEq] at e; subst e
      rw [rep_ints h hk]; rfl
    · cases e
  | .non :: l, ns, vs, r, e => by simp [intsOf] at e
  | .bl _ :: l, ns, vs, r, e => by simp [intsOf] at e
  | .str _ :: l, ns, vs, r, e => by simp [intsOf] at e
  | .tup _ :: l, ns, vs, r, e => by simp [intsOf] at e
  | .lst _ :: l, ns, vs, r, e => by simp [intsOf] at e
  | .box _ :: l, ns, vs, r, e => by simp [intsOf] at e
  | .fn _ :: l, ns, vs, r, e => by simp [intsOf] at e
  | .scr _ :: l, ns, vs, r, e => by simp [intsOf] at e
  | .err _ _ _ :: l, ns, vs, r, e => by simp [intsOf] at e
theorem rep_bools : ∀ {l : List T} {ns : List Bool} {vs : List V}, RepL g m H l vs → boolsOf l = some ns → vs = ns.map V.bl
  | [], ns, vs, r, e => by simp only [RepL] at r; subst r; simp [boolsOf] at e; subst e; rfl
  | .bl b :: l, ns, vs, r, e => by
    simp only [RepL, Rep] at r
    obtain ⟨v, w, rfl, rfl, h⟩ := r
    simp only [boolsOf] at e
    split at e
    · rename_i k hk
      simp only [Option.some.injEq] at e; subst e
      rw [rep_bools h hk]; rfl
    · cases e
  | .non :: l, ns, vs, r, e => by simp [boolsOf] at e
  | .int _ :: l, ns, vs, r, e => by simp [boolsOf] at e
  | .str _ :: l, ns, vs, r, e => by simp [boolsOf] at e
  | .tup _ :: l, ns, vs, r, e => by simp [boolsOf] at e
  | .lst _ :: l, ns, vs, r, e => by simp [boolsOf] at e
  | .box _ :: l, ns, vs, r, e => by simp [boolsOf] at e
  | .fn _ :: l, ns, vs, r, e => by simp [boolsOf] at e
  | .scr _ :: l, ns, vs, r, e => by simp [boolsOf] at e
  | .err _ _ _ :: l, ns, vs, r, e => by simp [boolsOf] at e
theorem rep_strs : ∀ {l : List T} {ns : List Str} {vs : List V}, RepL g m H l vs → strsOf l = some ns → vs = ns.map V.str
  | [], ns, vs, r, e => by simp only [RepL] at r; subst r; simp [strsOf] at e; subst e; rfl
  | .str b :: l, ns, vs, r, e => by
    simp only [RepL, Rep] at r
    obtain ⟨v, w, rfl, rfl, h⟩ := r
    simp only [strsOf] at e
    split at e
    · rename_i k hk
      simp only [Option.some.injEq] at e; subst e
      rw [rep_strs h hk]; rfl
    · cases e
  | .non :: l, ns, vs, r, e => by simp [strsOf] at e
  | .int _ :: l, ns, vs, r, e => by simp [strsOf] at e
  | .bl _ :: l, ns, vs, r, e => by simp [strsOf] at e
  | .tup _ :: l, ns, vs, r, e => by simp [strsOf] at e
  | .lst _ :: l, ns, vs, r, e => by simp [strsOf] at e
  | .box _ :: l, ns, vs, r, e => by simp [strsOf] at e
  | .fn _ :: l, ns, vs, r, e => by simp [strsOf] at e
  | .scr _ :: l, ns, vs, r, e => by simp [strsOf] at e
  | .err _ _ _ :: l, ns, vs, r, e => by simp [strsOf] at e
theorem rep_of_strs : ∀ (l : List Str), RepL g m H (l.map T.str) (l.map V.str)
  | [] => RepL.nil
  | s :: l => RepL.cons Rep.str_ (rep_of_strs l)
theorem RepL.one {t : T} {vs : List V} (h : RepL g m H [t] vs) : ∃ v, vs = [v] ∧ Rep g m H t v := by
  simp only [RepL] at h
  obtain ⟨v, r, rfl, h1, rfl⟩ := h
  exact ⟨v, rfl, h1⟩
theorem RepL.two {t u : T} {vs : List V} (h : RepL g m H [t, u] vs) : ∃ v w, vs = [v, w] ∧ Rep g m H t v ∧ Rep g m H u w := by
  simp only [RepL] at h
  obtain ⟨v, r, rfl, h1, w, r', rfl, h2, rfl⟩ := h
  exact ⟨v, w, rfl, h1, h2⟩
end

def Bl.val : Bl → Value
  | .len => .builtin "len" | .abs => .builtin "abs" | .max => .builtin "max" | .min => .builtin "min" | .all => .builtin "all"
  | .int => .type "int" | .bool => .type "bool" | .str => .type "str" | .tuple => .type "tuple" | .list => .type "list"

def rBl (g : GW) (b : Bl) : List V → Hp → VK → Prop := fun xs H Q => ∃ W m σ S bx ts u, SRep g m H S ∧ RepL g m H ts xs ∧ bltT S b ts = some u ∧ GoodE g W m σ H Q (newL bx u S)

section
variable {X : Cx} {g : GW}
theorem KD.keys {m : List Addr} {H : Hp} : ∀ {l : List (T × T)} {xs : List (NestedKey × Addr × Value)}, KD g m H l xs → RepL g m H (l.map (·.1)) (xs.map fun x => V.ref x.2.1)
  | [], xs, h => by cases (show xs = [] from h); exact RepL.nil
  | p :: l, xs, h => by
    obtain ⟨x, r, rfl, ⟨_, h3, _⟩, h6⟩ := h
    exact RepL.cons h3 h6.keys
theorem KY.keys {m : List Addr} {H : Hp} : ∀ {l : List (T × T)} {xs : List (Key × V)}, KY g m H l xs → RepL g m H (l.map (·.1)) (xs.map fun kv => kV kv.1)
  | [], xs, h => by cases (show xs = [] from h); exact RepL.nil
  | p :: l, xs, h => by
    obtain ⟨x, r, rfl, ⟨h2, _⟩, h6⟩ := h
    refine RepL.cons ?_ h6.keys
    obtain ⟨t, u⟩ := p
    obtain ⟨k, v⟩ := x
    cases t <;> first | (cases h2; done) | skip
    · cases h2; exact Rep.int_
    · cases h2; exact Rep.str_
theorem call_blt (hK : X.K = g.K) (hc : X.calm = true) (b : Bl) : CallR X b.val (rBl g b) := by
  intro pins s σ H xs us Q I r h
  obtain ⟨W, m, σ', S, bx, ts, u, sr, rp, e, G⟩ := h
  unfold bltT at e
  split at e
  · -- len
    rename_i x
    obtain ⟨v, rfl, rv⟩ := rp.one
    have rd := RepD.drf sr rv
    split at e
    · rename_i l hl
      rw [hl] at rd
      obtain ⟨p, vs, rfl, q1, l1⟩ := RepD.tup rd
      simp only [Option.some.injEq] at e; subst e
      rw [← hK] at q1
      exact call_len_seq pins s σ H _ us Q I r ⟨p, vs, rfl, .inr q1, by rw [← l1.length]; exact fin_val (t := .int _) G sr Rep.int_⟩
    · rename_i l hl
      rw [hl] at rd
      obtain ⟨p, vs, rfl, q1, l1⟩ := RepD.lst rd
      simp only [Option.some.injEq] at e; subst e
      exact call_len_seq pins s σ H _ us Q I r ⟨p, vs, rfl, .inl (SqL.of q1), by rw [← l1.length]; exact fin_val (t := .int _) G sr Rep.int_⟩
    · rename_i l hl
      rw [hl] at rd
      obtain ⟨p, rfl, q1⟩ := RepD.scr rd
      simp only [Option.some.injEq] at e; subst e
      rw [← hK] at q1
      exact call_len_seq pins s σ H _ us Q I r ⟨p, _, rfl, .inl q1, by rw [List.length_map]; exact fin_val (t := .int _) G sr Rep.int_⟩
    · rename_i z hl
      rw [hl] at rd
      cases RepD.str rd
      split at e
      · rename_i hz
        simp only [Option.some.injEq] at e; subst e
        rw [line_eq] at hz
        exact call_len_str pins s σ H _ us Q I r ⟨z, rfl, hz, fin_val (t := .int _) G sr Rep.int_⟩
      · cases e
    · rename_i n hl
      have rb : Rep g m H (.box n) v := drf_bx hl ▸ rv
      simp only [Rep] at rb
      obtain ⟨a, hk, rfl⟩ := rb
      split at e
      · rename_i l hd
        simp only [Option.some.injEq] at e; subst e
        unfold dLen at hd
        split at hd
        · rename_i l' hS
          cases hd
          obtain ⟨xs, h1, z1, z2, kd, _⟩ := sr.at_ n _ a hS hk
          exact call_len_dX pins s σ H _ us Q I r ⟨a, _, _, xs, rfl, .inl h1, by rw [← kd.length]; exact z1, z2, by rw [← kd.length]; exact fin_val (t := .int _) G sr Rep.int_⟩
        · rename_i l' hS
          cases hd
          obtain ⟨xs, od, h1, z1, z2, kd, _⟩ := sr.at_ n _ a hS hk
          exact call_len_dX pins s σ H _ us Q I r ⟨a, _, _, xs, rfl, .inr ⟨od, h1⟩, by rw [← kd.length]; exact z1, z2, by rw [← kd.length]; exact fin_val (t := .int _) G sr Rep.int_⟩
        · rename_i l' hS
          cases hd
          obtain ⟨xs, h1, z1, ky, _⟩ := sr.at_ n _ a hS hk
          exact call_lenD pins s σ H _ us Q I r ⟨a, xs, rfl, h1, by rw [← ky.length]; exact fin_val (t := .int _) G sr Rep.int_⟩
        · cases hd
      · cases e
    · cases e
  · -- abs
    obtain ⟨v, rfl, rv⟩ := rp.one
    cases RepD.int (RepD.of rv)
    simp only [Option.some.injEq] at e; subst e
    exact call_abs pins s σ H _ us Q I r ⟨_, rfl, fin_val (t := .int _) G sr Rep.int_⟩
  · obtain ⟨v, rfl, rv⟩ := rp.one
    cases RepD.int (RepD.of rv)
    simp only [Option.some.injEq] at e; subst e
    exact call_int1 pins s σ H _ us Q I r (.inl ⟨_, rfl, fin_val (t := .int _) G sr Rep.int_⟩)
  · obtain ⟨v, rfl, rv⟩ := rp.one
    cases RepD.bl (RepD.of rv)
    simp only [Option.some.injEq] at e; subst e
    exact call_int1 pins s σ H _ us Q I r (.inr ⟨_, rfl, fin_val (t := .int _) G sr Rep.int_⟩)
  · -- int of a text
    rename_i a
    obtain ⟨v, rfl, rv⟩ := rp.one
    cases RepD.str (RepD.of rv)
    split at e
    · rename_i hz
      split at e
      · rename_i n hn
        simp only [Option.some.injEq] at e; subst e
        exact call_int_str pins s σ H _ us Q I r ⟨a, n, rfl, hn, hz, fin_val (t := .int _) G sr Rep.int_⟩
      · cases e
    · cases e
  · obtain ⟨v, rfl, rv⟩ := rp.one
    cases RepD.int (RepD.of rv)
    simp only [Option.some.injEq] at e; subst e
    exact call_bool1 pins s σ H _ us Q I r (.inl ⟨_, rfl, fin_val (t := .bl _) G sr Rep.bl_⟩)
  · obtain ⟨v, rfl, rv⟩ := rp.one
    cases RepD.bl (RepD.of rv)
    simp only [Option.some.injEq] at e; subst e
    exact call_bool1 pins s σ H _ us Q I r (.inr ⟨_, rfl, fin_val (t := .bl _) G sr Rep.bl_⟩)
  · -- str of an int
    rename_i i
    obtain ⟨v, rfl, rv⟩ := rp.one
    cases RepD.int (RepD.of rv)
    split at e
    · rename_i hz
      simp only [Option.some.injEq] at e; subst e
      exact call_str_int pins s σ H _ us Q I r ⟨_, rfl, hz, fin_val (t := .str _) G sr Rep.str_⟩
    · cases e
  · -- str of a text
    rename_i a
    obtain ⟨v, rfl, rv⟩ := rp.one
    cases RepD.str (RepD.of rv)
    simp only [Option.some.injEq] at e; subst e
    exact SkE.call_str_str pins s σ H _ us Q I r ⟨_, rfl, fin_val (t := .str _) G sr Rep.str_⟩
  · obtain ⟨v, w, rfl, rv, rw'⟩ := rp.two
    cases RepD.int (RepD.of rv)
    cases RepD.int (RepD.of rw')
    simp only [Option.some.injEq] at e; subst e
    exact call_max2 hc pins s σ H _ us Q I r ⟨_, _, rfl, fin_val (t := .int _) G sr Rep.int_⟩
  · obtain ⟨v, w, rfl, rv, rw'⟩ := rp.two
    cases RepD.int (RepD.of rv)
    cases RepD.int (RepD.of rw')
    simp only [Option.some.injEq] at e; subst e
    exact call_min2 hc pins s σ H _ us Q I r ⟨_, _, rfl, fin_val (t := .int _) G sr Rep.int_⟩
  · -- max of a list
    obtain ⟨v, rfl, rv⟩ := rp.one
    have rd := RepD.drf sr rv
    split at e
    · rename_i l hl
      rw [hl] at rd
      obtain ⟨p, vs, rfl, q1, l1⟩ := RepD.lst rd
      split at e
      · rename_i a r' hi
        simp only [Option.some.injEq] at e; subst e
        have := rep_ints l1 hi
        subst this
        refine cr_max hc pins s σ H _ us Q I r ⟨p, a :: r', rfl, SqL.of q1, by simp, fun M h1 h2 => ?_⟩
        obtain ⟨h3, h4⟩ := maxI_spec r' a
        have : M = maxI a r' := by
          have := h4 M h1
          have := h2 _ h3
          omega
        rw [this]
        exact fin_val (t := .int _) G sr Rep.int_
      · cases e
    · cases e
  · obtain ⟨v, rfl, rv⟩ := rp.one
    have rd := RepD.drf sr rv
    split at e
    · rename_i l hl
      rw [hl] at rd
      obtain ⟨p, vs, rfl, q1, l1⟩ := RepD.lst rd
      split at e
      · rename_i a r' hi
        simp only [Option.some.injEq] at e; subst e
        have := rep_ints l1 hi
        subst this
        refine cr_min hc pins s σ H _ us Q I r ⟨p, a :: r', rfl, SqL.of q1, by simp, fun M h1 h2 => ?_⟩
        obtain ⟨h3, h4⟩ := minI_spec r' a
        have : M = minI a r' := by
          have := h4 M h1
          have := h2 _ h3
          omega
        rw [this]
        exact fin_val (t := .int _) G sr Rep.int_
      · cases e
    · cases e
  · -- all
    obtain ⟨v, rfl, rv⟩ := rp.one
    have rd := RepD.drf sr rv
    split at e
    · rename_i l hl
      rw [hl] at rd
      obtain ⟨p, vs, rfl, q1, l1⟩ := RepD.lst rd
      split at e
      · rename_i bs hi
        simp only [Option.some.injEq] at e; subst e
        have := rep_bools l1 hi
        subst this
        exact cr_all hc pins s σ H _ us Q I r ⟨p, bs, rfl, SqL.of q1, fin_val (t := .bl _) G sr Rep.bl_⟩
      · cases e
    · cases e
  · -- tuple
    obtain ⟨v, rfl, rv⟩ := rp.one
    have rd := RepD.drf sr rv
    split at e
    · rename_i l hl
      rw [hl] at rd
      obtain ⟨p, vs, rfl, q1, l1⟩ := RepD.tup rd
      simp only [Option.some.injEq] at e; subst e
      rw [← hK] at q1
      exact call_tuple_of pins s σ H _ us Q I r ⟨p, vs, rfl, .inr ⟨q1, fin_val (t := .tup _) G sr rd⟩⟩
    · rename_i l hl
      rw [hl] at rd
      obtain ⟨p, vs, rfl, q1, l1⟩ := RepD.lst rd
      simp only [Option.some.injEq] at e; subst e
      exact call_tuple_of pins s σ H _ us Q I r ⟨p, vs, rfl, .inl ⟨SqL.of q1, fin_tup G sr l1⟩⟩
    · cases e
  · -- list
    obtain ⟨v, rfl, rv⟩ := rp.one
    have rd := RepD.drf sr rv
    split at e
    · rename_i l hl
      rw [hl] at rd
      obtain ⟨p, vs, rfl, q1, l1⟩ := RepD.tup rd
      simp only [Option.some.injEq] at e; subst e
      rw [← hK] at q1
      exact call_list_of pins s σ H _ us Q I r ⟨p, vs, rfl, .inr q1, fin_lst G sr l1⟩
    · rename_i l hl
      rw [hl] at rd
      obtain ⟨p, vs, rfl, q1, l1⟩ := RepD.lst rd
      simp only [Option.some.injEq] at e; subst e
      exact call_list_of pins s σ H _ us Q I r ⟨p, vs, rfl, .inl (SqL.of q1), fin_lst G sr l1⟩
    · rename_i n hl
      have rb : Rep g m H (.box n) v := drf_bx hl ▸ rv
      simp only [Rep] at rb
      obtain ⟨a, hk, rfl⟩ := rb
      split at e
      · rename_i l hd
        simp only [Option.some.injEq] at e; subst e
        unfold dLen at hd
        split at hd
        · rename_i l' hS
          cases hd
          obtain ⟨xs, h1, z1, z2, kd, _⟩ := sr.at_ n _ a hS hk
          exact call_list_dX hc pins s σ H _ us Q I r ⟨a, _, _, xs, rfl, .inl h1, by rw [← kd.length]; exact z1, z2, fin_lst G sr kd.keys⟩
        · rename_i l' hS
          cases hd
          obtain ⟨xs, od, h1, z1, z2, kd, _⟩ := sr.at_ n _ a hS hk
          exact call_list_dX hc pins s σ H _ us Q I r ⟨a, _, _, xs, rfl, .inr ⟨od, h1⟩, by rw [← kd.length]; exact z1, z2, fin_lst G sr kd.keys⟩
        · rename_i l' hS
          cases hd
          obtain ⟨xs, h1, z1, ky, _⟩ := sr.at_ n _ a hS hk
          exact call_listD hc pins s σ H _ us Q I r ⟨a, xs, rfl, .inl h1, fin_lst G sr ky.keys⟩
        · cases hd
      · cases e
    · cases e
  · cases e

def rBlx (g : GW) (b : Bl) : List V → Hp → VK → Prop := fun xs H Q => ∃ fb, rBl (g.w fb) b xs H Q
theorem call_bltx (hK : X.K = g.K) (hc : X.calm = true) (b : Bl) : CallR X b.val (rBlx g b) := fun pins s σ H xs us Q I r ⟨fb, h⟩ => call_blt (g := g.w fb) hK hc b pins s σ H xs us Q I r h

/-! isinstance with a built-in type -/
theorem ty_of {m : List Addr} {H : Hp} {S : Sto} {t : T} {v : V} {a : String} (hK : X.K = g.K) (sr : SRep g m H S) (r : Rep g m H t v) (e : tyT S t = some a) : TyX X.K H v (.type a) := by
  have tupK : ∀ {p : Addr} {vs : List V}, SqT g.K H p vs → TyX X.K H (.ref p) (.type "tuple") := fun {p vs} q => by
    rcases q with (q | ⟨o, q⟩) | ⟨o, its, n, h1, h2, _⟩
    · exact .base (.tup q)
    · exact .fTuple q
    · exact .kTuple (by rw [hK]; exact h1) h2
  cases t with
  | non => simp only [Rep] at r; subst r; simp [tyT] at e; subst e; exact .base .non
  | bl b => simp only [Rep] at r; subst r; simp [tyT] at e; subst e; exact .base (.bl b)
  | int b => simp only [Rep] at r; subst r; simp [tyT] at e; subst e; exact .base (.int b)
  | str b => simp only [Rep] at r; subst r; simp [tyT] at e; subst e; exact .base (.str b)
  | tup l => obtain ⟨p, vs, rfl, q1, l1⟩ := RepD.tup (RepD.of r); simp [tyT] at e; subst e; exact tupK q1
  | lst l => obtain ⟨p, vs, rfl, q1, l1⟩ := RepD.lst (RepD.of r); simp [tyT] at e; subst e; exact .base (.lst q1)
  | box n =>
    simp only [Rep] at r
    obtain ⟨p, h1, rfl⟩ := r
    simp only [tyT] at e
    split at e
    · rename_i l hl
      obtain ⟨vs, q1, _⟩ := sr.at_ n _ p hl h1
      simp only [Option.some.injEq] at e; subst e
      exact .base (.lst q1)
    · cases e
  | fn f => simp [tyT] at e
  | scr f => simp [tyT] at e
  | err c f l => simp [tyT] at e

theorem tys {S : Sto} {t : T} {a : String} (e : tyT S t = some a) : a ∈ ["NoneType", "bool", "int", "str", "tuple", "list"] := by
  unfold tyT at e
  split at e <;> (try (split at e)) <;> simp at e <;> subst e <;> simp
end
end Fw

namespace Fw
open PySem L2 PyProof.Rows

/-! ### dict(xs) of a list of pairs whose keys are tuples -/
section
variable {X : Cx} {g : GW} {W : WX} {pins : List (Addr × Obj)} {σ : L2.St} {s : Shared} {m : List Addr} {H : Hp} {S : Sto} {Q : VK}

theorem storedH_nodup {K : Type} [DecidableEq K] (k : K) (b : Addr) (u : Value) : ∀ xs : List (K × Addr × Value), (xs.map (·.1)).Nodup → ((storedH xs k b u).map (·.1)).Nodup ∧ ∀ j, j ∈ (storedH xs k b u).map (·.1) → j = k ∨ j ∈ xs.map (·.1)
  | [], _ => by
    rw [storedH_new (by rfl)]
    exact ⟨by simp, fun j hj => by simpa using hj⟩
  | x :: xs, h => by
    by_cases e : x.1 = k
    · rw [storedH_pos e h]
      exact ⟨h, fun j hj => .inr hj⟩
    · rw [storedH_neg e]
      rw [List.map_cons, List.nodup_cons] at h
      obtain ⟨i1, i2⟩ := storedH_nodup k b u xs h.2
      refine ⟨?_, fun j hj => ?_⟩
      · rw [List.map_cons, List.nodup_cons]
        refine ⟨fun z => ?_, i1⟩
        rcases i2 _ z with z | z
        · exact e z
        · exact h.1 z
      · rw [List.map_cons, List.mem_cons] at hj ⊢
        rcases hj with hj | hj
        · exact .inr (.inl hj)
        · rcases i2 _ hj with z | z
          · exact .inl z
          · exact .inr (.inr z)

/-- the pairs of the list, as they lie -/
theorem pairs_lie (hK : X.K = g.K) (I : Inv X pins σ H s) : ∀ (ps : List (T × T × NestedKey)) {vs : List V} {us : List Value}, RepL g m H (ps.map fun p => T.tup [p.1, p.2.1]) vs → Vals vs us → (∀ p ∈ ps, tkey p.1 = some p.2.2) →
    ∃ (Ts : List Addr) (xs : List (NestedKey × Addr × Value)), us = Ts.map Value.ref ∧ Ts.length = ps.length ∧ xs.length = ps.length ∧
      (∀ (j : Nat) (k : NestedKey) (a : Addr) (u : Value), xs[j]? = some (k, a, u) → ∃ b, Ts[j]? = some b ∧ PySem.PairAt s.heap b (.ref a) u) ∧ (∀ x ∈ xs, (nestedKind X.prog X.w).is s.heap x.1 x.2.1) ∧
      ∀ acc zs, KD g m H acc zs → (zs.map (·.1)).Nodup → KD g m H (ps.foldl (fun a p => dPut a p.1 p.2.2 p.2.1) acc) (storedAllH zs xs) ∧ ((storedAllH zs xs).map (·.1)).Nodup
  | [], vs, us, r, rv, _ => by
    simp only [List.map_nil, RepL] at r
    subst r
    cases rv
    exact ⟨[], [], rfl, rfl, rfl, fun j k a u e => by simp at e, fun x hx => by simp at hx, fun acc zs h hn => ⟨h, hn⟩⟩
  | p :: ps, vs, us, r, rv, hk => by
    simp only [List.map_cons, RepL] at r
    obtain ⟨v, vr, rfl, h1, h2⟩ := r
    cases rv with
    | cons hx hr =>
      obtain ⟨Ts, xs, e1, e2, e3, e4, e5, e6⟩ := pairs_lie hK I ps h2 hr fun q hq => hk q (List.mem_cons_of_mem _ hq)
      simp only [Rep] at h1
      obtain ⟨b, ws, rfl, h3, h4⟩ := h1
      simp only [RepL] at h4
      obtain ⟨kv, _, rfl, hkv, vv, _, rfl, hvv, rfl⟩ := h4
      cases hx
      obtain ⟨its, rl, tp, _⟩ := I.tuple (sqt_of hK h3)
      cases rl with
      | cons rk rt =>
        cases rt with
        | cons ru rn =>
          cases rn
          rename_i uk uv
          obtain ⟨a, ea, eb, ek⟩ := key_is hK I hkv rk (hk p List.mem_cons_self)
          subst ea
          subst eb
          refine ⟨b :: Ts, (p.2.2, a, uv) :: xs, by rw [e1]; rfl, by simp [e2], by simp [e3], fun j k a' u e => ?_, fun x hx => ?_, fun acc zs h hn => ?_⟩
          · cases j with
            | zero =>
              simp only [List.getElem?_cons_zero, Option.some.injEq, Prod.mk.injEq] at e
              obtain ⟨rfl, rfl, rfl⟩ := e
              exact ⟨b, rfl, .inl tp⟩
            | succ j => exact e4 j k a' u (by simpa using e)
          · rcases List.mem_cons.mp hx with z | z
            · subst z; exact ek
            · exact e5 x z
          · exact e6 _ _ (kd_put (hk p List.mem_cons_self) hkv hvv ru h hn) (storedH_nodup _ _ _ _ hn).1
theorem dPut_fold_len : ∀ (ps : List (T × T × NestedKey)) (acc : List (T × T)), (ps.foldl (fun a p => dPut a p.1 p.2.2 p.2.1) acc).length ≤ acc.length + ps.length
  | [], acc => by simp
  | p :: ps, acc => by
    have h1 := dPut_fold_len ps (dPut acc p.1 p.2.2 p.2.1)
    have h2 := dPut_len acc p.1 p.2.2 p.2.1
    simp only [List.foldl_cons, List.length_cons]
    omega
/-- dict(xs) -/
theorem call_dctX (hK : X.K = g.K) (hp : X.prog = g.pr) (hw : X.w = g.wd) (hc : X.calm = true) (hu : X.A.units + 64 < cLine) : CallR X (.type "dict") (fun xs H Q => ∃ fb m S l vs a d, xs = [V.ref a] ∧ H a = some (.lst vs) ∧ RepL (g.w fb) m H l vs ∧ SRep (g.w fb) m H S ∧ dMk l [] = some d ∧
    ∀ p m' H', H p = none → m' = m ++ [p] → Ext m H m' H' → SRep (g.w fb) m' H' (S ++ [.dct d]) → Q (.ref p) H') := by
  intro pins s σ H xs us Q I r h
  obtain ⟨fb, m, S, l, vs, a, d, rfl, ha, rl, sr, hd, q⟩ := h
  obtain ⟨u, rfl, rx⟩ := r.one
  cases rx
  obtain ⟨its, rv, ⟨o, n, ho, hoc, hod, hdat⟩, hz⟩ := I.list (SqL.of ha)
  obtain ⟨ps, rfl, hk, rfl⟩ := dMk_snoc l [] d hd
  obtain ⟨Ts, ys, e1, e2, e3, e4, e5, e6⟩ := pairs_lie (g := g.w fb) hK I ps rl rv hk
  have hlen : vs.length = ps.length := by have := rl.length; simpa using this.symm
  have hsz : ps.length ≤ sizeLine := by rw [← hlen]; exact hz
  have hn : s.heap.objs.size ∉ m := sr.fresh (I.hok.fresh (Nat.le_refl _))
  refine call_dict_pairsH (knd := nestedKind X.prog X.w) (ps := ys) (PairArg.list a its.toArray (fun j => Ts.getD j 0) (ys.map fun x => (Value.ref x.2.1, x.2.2))) (I.ok.hd hc)
    (show X.A.in1.in1.units + 8 < cLine by show X.A.units + 1 + 1 + 8 < cLine; omega) ⟨⟨o, n, ho, hoc, hod, hdat⟩, ?_, fun j k v e => ?_⟩ ⟨by simp, fun i key v e => ?_⟩ (fun h' hk' x hx => ?_) (by simpa [e3] using hsz) fun h' tk hd' kp => ?_
  · simp [e1, e2, e3]
  · simp only [List.getElem?_map, Option.map_eq_some_iff, Prod.mk.injEq] at e
    obtain ⟨x, hx, rfl, rfl⟩ := e
    obtain ⟨b, hb, hp2⟩ := e4 j x.1 x.2.1 x.2.2 hx
    have : Ts.getD j 0 = b := by rw [List.getD_eq_getElem?_getD, hb]; rfl
    show its.toArray[j]? = some (.ref (Ts.getD j 0)) ∧ PySem.PairAt s.heap (Ts.getD j 0) _ _
    rw [this]
    refine ⟨?_, hp2⟩
    rw [e1]
    simp [hb]
  · simp only [PairRel, List.getElem?_map, Option.map_eq_some_iff, Prod.mk.injEq] at e
    obtain ⟨x, hx, rfl, rfl⟩ := e
    exact ⟨x.1, x.2.1, hx, rfl⟩
  · refine nestedKind_stays.stays (fun b ob _ _ e _ => ?_) (e5 x hx)
    exact hk' b ob (Nat.ne_of_lt (Heap.lt_size e)) (fun z => nomatch z) e
  · have kd := e6 [] [] rfl (by simp)
    obtain ⟨o', es, ep, h1, h2, h3, h4, h5, h6⟩ := hd'
    have hm : (s.heap.objs.size == sysModules) = false := beq_eq_false_iff_ne.mpr (Nat.ne_of_gt I.big)
    have hfr : H s.heap.objs.size = none := I.hok.fresh (Nat.le_refl _)
    have x : Ext m H (m ++ [s.heap.objs.size]) (upd H s.heap.objs.size (DkO g.pr g.wd s.heap.objs.size (storedAllH [] ys))) := Ext.box hfr
    refine ⟨.ref s.heap.objs.size, _, I.laid (a := s.heap.objs.size) (o := DkO g.pr g.wd s.heap.objs.size (storedAllH [] ys)) (t' := tk) (fun b ob e => kp b ob (fun z => nomatch z) e) (Nat.le_refl _) (dkO_ok ⟨o', es, ep, h1, h2, h3, ?_⟩), rfl, q _ _ _ hfr rfl x (sr.boxO hfr ⟨_, upd_same, ?_, hm, KD.mono x kd.1, kd.2⟩)⟩
    · rw [h4, hp, hw]
    · have := dPut_fold_len ps []
      simp only [List.length_nil, Nat.zero_add] at this
      omega
end
end Fw

set_option maxHeartbeats 6400000
namespace Fw
open PySem L2 PyProof.Rows

/-! ### sorted(set(xs)), xs a list of whole numbers -/
section
variable {P : Program} {w : World} {A : Around} {E : Value → Shared → Prop} {s : Shared}
/-- set() as it begins -/
abbrev set0 (w : World) : Obj := { cls := .type "set", dict := none, data := .set #[] 0 (.fresh 0 0 (!w.params.followText "set-order")) }
/-- the new set is filled from the list at l -/
theorem fill_set {l : Addr} {items : Array Value} {ns : List Int} (hh : A.handled = none) (hl : s.heap.IsList l items) (hit : IntsAre items.toList ns) (hb : ns.length + 1 < scanBound) (n : items.size = ns.length)
    {s1 : Shared} (es : s1 = { s with heap := s.heap.push (set0 w) }) {R : Result → Shared → Prop}
    (hR : ∀ (h' : Heap) (tk c : Nat), SetR w h' s.heap.objs.size (fun j => decide (j ∈ ns)) c → c ≤ ns.length → (∀ b o, s.heap.get? b = some o → h'.get? b = some o) → R (.ok (.ret .none)) { s with heap := h', toks := tk }) :
    codeAny (model P w) A (.builtin "set.update.loop" ⟨[.ref s.heap.objs.size, .ref (s.heap.objs.size + 1)], []⟩) R { s1 with heap := s1.heap.push { cls := .type "list_iterator", data := .fields #[.ref l, .int 0 0] } } := by
  subst es
  have hz : (s.heap.push (set0 w)).objs.size = s.heap.objs.size + 1 := Heap.size_push ..
  obtain ⟨ol, hol, hcl, nl, hdl⟩ := hl
  have hlt := Heap.lt_size hol
  have old : ∀ b o, s.heap.get? b = some o → ((s.heap.push (set0 w)).push { cls := .type "list_iterator", data := .fields #[.ref l, .int 0 0] }).get? b = some o := fun b o e => Heap.get?_push_of_some _ (Heap.get?_push_of_some _ e)
  have W := (Walks.list (prog := P) (w := w) (A := A.in1) (by simp [hh]) (s.heap.objs.size + 1) l (Nat.ne_of_lt (Nat.lt_succ_of_lt hlt)) items).toS
  refine set_update_ints W s.heap.objs.size ?_ ns n hb (fun i v hv => ?_) (items.size - 0) 0 _ (by omega) (Nat.zero_le _) ⟨?_, ?_⟩ ⟨0, Nat.le_refl 0, setR_new_at ?_⟩ fun s' c hm hc hS => ?_
  · intro hm
    rcases List.mem_cons.mp hm with e | e
    · exact absurd e (Nat.ne_of_lt (Nat.lt_succ_self _))
    · exact absurd (List.mem_singleton.mp e) (Nat.ne_of_gt hlt)
  · have hi : i < ns.length := by rw [← n]; exact (Array.getElem?_eq_some_iff.mp hv).1
    obtain ⟨t, e⟩ := PyProof.Rows.IntsAre.int_at hit i v (by rw [Array.getElem?_toList]; exact hv)
    refine ⟨ns[i], t, List.getElem?_eq_getElem hi, ?_⟩
    rw [e, List.getD_eq_getElem?_getD, List.getElem?_eq_getElem hi] <;> rfl
  · show Heap.IsListIter _ _ _ _
    refine ⟨{ cls := .type "list_iterator", data := .fields #[.ref l, .int 0 0] }, ?_, rfl, rfl⟩
    have := Heap.get?_push_size (s.heap.push (set0 w)) (o := { cls := .type "list_iterator", data := .fields #[.ref l, .int 0 0] }) rfl
    rw [hz] at this
    exact this
  · exact ⟨ol, old _ _ hol, hcl, nl, hdl⟩
  · exact Heap.get?_push_of_some _ (Heap.get?_push_size _ rfl)
  · obtain ⟨h', g2, d', tk', os'⟩ := s'
    obtain ⟨eg, ed, eo⟩ : g2 = s.gens ∧ d' = s.drawn ∧ os' = s.os := ⟨hm.gens, hm.drawn, hm.os⟩
    subst eg; subst ed; subst eo
    refine hR h' tk' c hS (by omega) fun b o e => hm.heap b o ?_ (old b o e)
    have q := Heap.lt_size e
    intro hm
    rcases List.mem_cons.mp hm with e | e
    · exact absurd e (Nat.ne_of_lt q)
    · exact absurd (List.mem_singleton.mp e) (Nat.ne_of_lt (Nat.lt_succ_of_lt q))
/-- set(xs) -/
theorem set_of_list {l : Addr} {items : Array Value} {ns : List Int} {Q : Value → Shared → Prop} (hh : A.handled = none) (hl : s.heap.IsList l items) (hit : IntsAre items.toList ns) (hb : ns.length + 1 < scanBound)
    (h : ∀ (h' : Heap) (tk c : Nat), SetR w h' s.heap.objs.size (fun j => decide (j ∈ ns)) c → c ≤ ns.length → (∀ b o, s.heap.get? b = some o → h'.get? b = some o) → Q (.ref s.heap.objs.size) { s with heap := h', toks := tk }) :
    wpAny (model P w) A (call (.type "set") [.ref l]) Q E s := by
  have n : items.size = ns.length := by have q := IntsAre.length hit; rwa [Array.length_toList] at q
  obtain ⟨c0, tl, hmro⟩ := F.called_set.mro
  have f1 := F.called_set.made
  have f2 := F.called_set.sub
  have f3 := F.called_set.notType
  have f4 := F.called_set.canCreate
  have f5 := F.typeCall_set_1 (.ref l)
  refine wpAny_call (codeAny_of_tree ?_)
  show wpAny _ _ (callAny (.type "set") _) _ _ _
  refine wpAny_pure ⟨Code.quiet_builtin _ (by decide +kernel), codeAny_builtin F.entry_type_call ?_⟩
  rw [Around.under_plain (weight_type_call_type "set" [.ref l] []) rfl]
  repeat (any_goals (first | assumption | wp_step))
  refine codeAny_mono (code_set_led1 (.ref l) (E := E) (Q₁ := fun obj s₁ => obj = .ref s.heap.objs.size ∧ s₁ = { s with heap := s.heap.push (set0 w) }) ⟨rfl, rfl⟩) fun r s₁ hr => ?_
  rcases r with e | fl
  · exact hr
  cases fl <;> first | exact hr.elim | skip
  obtain ⟨rfl, rfl⟩ := hr
  have hS : (s.heap.push (set0 w)).get? s.heap.objs.size = some (set0 w) := Heap.get?_push_size _ rfl
  have hT : Shared.TypeIs { s with heap := s.heap.push (set0 w) } (.ref s.heap.objs.size) "set" := ⟨_, hS, rfl⟩
  have f6 := F.called_set.init.lookup
  have f7 := F.called_set.init.bind (.ref s.heap.objs.size)
  repeat (any_goals (first | assumption | wp_step))
  refine codeAny_mono (codeAny_call_builtin (R := wants (fun r s₂ => r = .none ∧ ∃ h' tk c, s₂ = { s with heap := h', toks := tk } ∧ SetR w h' s.heap.objs.size (fun j => decide (j ∈ ns)) c ∧ c ≤ ns.length ∧
      (∀ b o, s.heap.get? b = some o → h'.get? b = some o)) E) F.called_set.init.plain F.entry_set_init (check_set_init_1 hT ?_)) fun r₂ s₂ hr₂ => ?_
  · have hl0 := hl
    obtain ⟨⟨ocls, odict, odata, osl⟩, hol, hcl, nl, hdl⟩ := hl
    simp only at hcl hdl
    subst hcl; subst hdl
    have g1 : (s.heap.push (set0 w)).get? l = some { cls := .type "list", dict := odict, data := .seq items nl, slots := osl } := Heap.get?_push_of_some _ hol
    have g2 : (s.heap.push (set0 w)).IsList l items := ⟨_, g1, rfl, nl, rfl⟩
    have g3 := F.sub_list_set
    have g4 := F.sub_list_frozenset
    have g5 : (Value.type "list" == Value.type "dict") = false := by decide
    unfold Builtin.«set.__init__» noKeywords Builtin.Frozenset.updateFrom
    generalize hPI : pyIter = PI
    wp_walk
    subst hPI
    refine wpAny_pyIter_list g2 ?_
    refine wpAny_bind (wpAny_runValue ?_)
    have hz : (s.heap.push (set0 w)).objs.size = s.heap.objs.size + 1 := Heap.size_push ..
    rw [hz]
    refine fill_set (A := _) (by simp [hh]) hl0 hit hb n rfl fun h' tk c q1 q2 q3 => ?_
    show wpAny _ _ _ _ _ _
    refine wpAny_pure ?_
    show wpAny _ _ (ret Value.none) _ _ _
    exact wpAny_pure ⟨rfl, h', tk, c, rfl, q1, q2, q3⟩
  · rcases r₂ with e | fl
    · exact hr₂
    cases fl <;> first | exact hr₂.elim | skip
    obtain ⟨rfl, h', tk, c', rfl, q1, q2, q3⟩ := hr₂
    repeat (any_goals (first | assumption | wp_step))
    exact h _ _ _ q1 q2 q3
end

section
variable {X : Cx}
/-- set(xs) -/
theorem cr_setL (hc : X.calm = true) : CallR X (.type "set") (fun xs H Q => ∃ (l : Addr) (ns : List Int), xs = [V.ref l] ∧ SqL X.K H l (ns.map V.int) ∧ ns.length + 1 < scanBound ∧
    ∀ (p : Addr) (c : Nat), H p = none → c ≤ ns.length → Q (.ref p) (upd H p (SetO X.w p (fun j => decide (j ∈ ns)) c))) := by
  intro pins s σ H xs us Q I r h
  obtain ⟨l, ns, rfl, hl, hb, q⟩ := h
  obtain ⟨u, rfl, rx⟩ := r.one
  cases rx
  obtain ⟨its, rv, ⟨o, n, ho, hoc, _, hdat⟩, _⟩ := I.list hl
  refine set_of_list (I.ok.hd hc) ⟨o, ho, hoc, n, hdat⟩ (by simpa using ints_of_vals rv) hb fun h' tk c hS hle k => ?_
  exact ⟨.ref s.heap.objs.size, _, I.laid (t' := tk) k (Nat.le_refl _) (setO_new hS), rfl, q _ c (I.hok.fresh (Nat.le_refl _)) hle⟩
end

theorem insI_mem (k : Int) : ∀ (l : List Int) (j : Int), j ∈ insI k l ↔ j = k ∨ j ∈ l
  | [], j => by simp [insI]
  | x :: r, j => by
    unfold insI
    split
    · simp
    · split
      · rename_i h; subst h; simp
      · simp only [List.mem_cons, insI_mem k r j]
        constructor
        · rintro (h | h | h) <;> simp [h]
        · rintro (h | h | h) <;> simp [h]
theorem insI_lt (k : Int) : ∀ (l : List Int), l.Pairwise (· < ·) → (insI k l).Pairwise (· < ·)
  | [], _ => by simp [insI]
  | x :: r, h => by
    obtain ⟨h1, h2⟩ := List.pairwise_cons.mp h
    unfold insI
    split
    · rename_i hk
      refine List.pairwise_cons.mpr ⟨fun y hy => ?_, h⟩
      rcases List.mem_cons.mp hy with e | e
      · omega
      · have := h1 y e; omega
    · split
      · exact h
      · refine List.pairwise_cons.mpr ⟨fun y hy => ?_, insI_lt k r h2⟩
        rcases (insI_mem k r y).mp hy with e | e
        · omega
        · exact h1 y e
theorem sset_ok (ns : List Int) : (sset ns).Pairwise (· < ·) ∧ ∀ j, j ∈ sset ns ↔ j ∈ ns := by
  have key : ∀ (ns acc : List Int), acc.Pairwise (· < ·) → (ns.foldl (fun a k => insI k a) acc).Pairwise (· < ·) ∧ ∀ j, j ∈ ns.foldl (fun a k => insI k a) acc ↔ j ∈ acc ∨ j ∈ ns := by
    intro ns
    induction ns with
    | nil => intro acc h; exact ⟨h, by simp⟩
    | cons k ns ih =>
      intro acc h
      obtain ⟨i1, i2⟩ := ih (insI k acc) (insI_lt k acc h)
      refine ⟨i1, fun j => ?_⟩
      rw [List.foldl_cons, i2 j, insI_mem, List.mem_cons]
      constructor
      · rintro ((h | h) | h) <;> simp [h]
      · rintro (h | h | h) <;> simp [h]
  obtain ⟨k1, k2⟩ := key ns [] List.Pairwise.nil
  exact ⟨k1, fun j => by rw [sset, k2 j]; simp⟩
theorem lt_one : ∀ {a b : List Int}, a.Pairwise (· < ·) → b.Pairwise (· < ·) → (∀ j, j ∈ a ↔ j ∈ b) → a = b
  | [], [], _, _, _ => rfl
  | [], y :: b, _, _, h => by have := (h y).mpr (by simp); simp at this
  | x :: a, [], _, _, h => by have := (h x).mp (by simp); simp at this
  | x :: a, y :: b, ha, hb, h => by
    obtain ⟨a1, a2⟩ := List.pairwise_cons.mp ha
    obtain ⟨b1, b2⟩ := List.pairwise_cons.mp hb
    have hxy : x = y := by
      rcases List.mem_cons.mp ((h x).mp (by simp)) with e | e
      · exact e
      · rcases List.mem_cons.mp ((h y).mpr (by simp)) with e' | e'
        · exact e'.symm
        · have := a1 y e'; have := b1 x e; omega
    subst hxy
    rw [lt_one a2 b2 fun j => ?_]
    have hj := h j
    simp only [List.mem_cons] at hj
    constructor
    · intro z
      rcases hj.mp (.inr z) with e | e
      · have := a1 j z; omega
      · exact e
    · intro z
      rcases hj.mpr (.inr z) with e | e
      · have := b1 j z; omega
      · exact e
end Fw

namespace Fw
open PySem L2 PyProof.Rows

/-! ### loops over a dict whose keys are tuples, locked -/
section
variable {X : Cx} {pins : List (Addr × Obj)} {σ : L2.St} {H : Hp} {s : Shared} {d : Addr} {o : Obj}
theorem frzX {P : Program} {w : World} {xs : List (NestedKey × Addr × Value)} (I : Inv X pins σ H s) (h : H d = some (.frz o (DkO P w d xs))) :
    ∃ (es : Array DictEntry) (ep : Nat), o.data = .dict es ep ∧ s.heap.DictRaw d es ep ∧ es.toList = xs.map (entryOfKey (nestedKind P w)) := by
  obtain ⟨hd, z⟩ := I.hok d _ h
  obtain ⟨o', es, ep, h1, h2, h3, h4⟩ := z.1
  rw [hd] at h1
  cases h1
  exact ⟨es, ep, h3, ⟨o, hd, h2, h3⟩, h4⟩
theorem ent_at {P : Program} {w : World} {es : Array DictEntry} {xs : List (NestedKey × Addr × Value)} (h : es.toList = xs.map (entryOfKey (nestedKind P w))) {i : Nat} (hi : i < es.size) : ∃ y, xs[i]? = some y ∧ es[i].key = .ref y.2.1 ∧ es[i].val = y.2.2 := by
  have hs := size_of_entries h
  have hx : i < xs.length := hs ▸ hi
  have e := entry_at h i
  rw [Array.getElem?_eq_getElem hi, List.getElem?_eq_getElem hx, Option.map_some] at e
  have e' := Option.some.inj e
  exact ⟨xs[i], List.getElem?_eq_getElem hx, by rw [e']; rfl, by rw [e']; rfl⟩
end
/-- the keys, in their order -/
def JK (P : Program) (w : World) (d : Addr) (o : Obj) (xs : List (NestedKey × Addr × Value)) : It :=
  ⟨fun i H => H d = some (.frz o (DkO P w d xs)) ∧ i < xs.length, fun i H x H' => H' = H ∧ ∃ y, xs[i]? = some y ∧ x = .ref y.2.1, fun i H => H d = some (.frz o (DkO P w d xs)) ∧ xs.length ≤ i⟩
/-- the values; vs tells them -/
def JV (P : Program) (w : World) (d : Addr) (o : Obj) (xs : List (NestedKey × Addr × Value)) (vs : List V) : It :=
  ⟨fun i H => H d = some (.frz o (DkO P w d xs)) ∧ i < xs.length, fun i H x H' => H' = H ∧ vs[i]? = some x, fun i H => H d = some (.frz o (DkO P w d xs)) ∧ xs.length ≤ i⟩
/-- the pairs, each a new tuple -/
def JI (P : Program) (w : World) (d : Addr) (o : Obj) (xs : List (NestedKey × Addr × Value)) (vs : List V) : It :=
  ⟨fun i H => H d = some (.frz o (DkO P w d xs)) ∧ i < xs.length, fun i H x H' => ∃ T y v, xs[i]? = some y ∧ vs[i]? = some v ∧ x = .ref T ∧ H T = none ∧ H' = upd H T (.tup [.ref y.2.1, v]), fun i H => H d = some (.frz o (DkO P w d xs)) ∧ xs.length ≤ i⟩
section
variable {P P' : Program} {w w' : World} {K : PySem.W.Frag} {tg : Expr} {d : Addr} {o : Obj} {es : Array DictEntry} {ep : Nat} {xs : List (NestedKey × Addr × Value)} {vs : List V}
theorem dict_one {o : Obj} {es es' : Array DictEntry} {ep ep' : Nat} (h : o.data = .dict es ep) (h' : o.data = .dict es' ep') : es' = es ∧ ep' = ep := by
  rw [h] at h'
  cases h'
  exact ⟨rfl, rfl⟩
theorem turn_JK (it : Addr) (hod : o.data = .dict es ep) : Turn P' w' K tg (JK P w d o xs) [it] it (fun i h => h.IsKeyIter it d i es.size ep) where
  mem := by simp
  obj := fun i h st b hb => by
    have e : b = it := by simpa using hb
    subst e
    obtain ⟨oi, e, c, dd⟩ := st
    exact ⟨oi, e, fun v z => by rw [dd] at z; cases z⟩
  keep := fun i h h' st k => st.at fun oi e => k it (by simp) oi e
  item := by
    intro X hP hw hK hc i pins s σ H E I hf st hg
    subst hP hw hK
    obtain ⟨hd, hi⟩ := hg
    obtain ⟨f0, f1, f2, f3, f4, f5⟩ := hf it (by simp)
    obtain ⟨es', ep', hdt, raw, he⟩ := frzX I hd
    obtain ⟨rfl, rfl⟩ := dict_one hod hdt
    have hsz := size_of_entries he
    obtain ⟨y, y1, y2, y3⟩ := ent_at he (show i < es'.size by omega)
    refine wpAny_pyNext_keys_item_raw st raw (by omega) fun h' st' sb => ?_
    have I1 : Inv X pins σ H { s with heap := h' } := I.turned (t' := s.toks) (fun b ob hb e => (sb.2 b hb).trans e) f0 f1 f3 f4 f5
    obtain ⟨oi, e, c, dd⟩ := id st'
    exact ⟨_, rfl, go_of (s := { s with heap := h' }) e c dd (by decide) ⟨.ref y.2.1, H, I1, y2, ⟨rfl, y, y1, rfl⟩, st', fun b hb => (hf b hb).1⟩⟩
  done := by
    intro X hP hw hK hc i pins s σ H E I hf st hg
    subst hP hw hK
    obtain ⟨hd, hi⟩ := hg
    obtain ⟨f0, f1, f2, f3, f4, f5⟩ := hf it (by simp)
    obtain ⟨es', ep', hdt, raw, he⟩ := frzX I hd
    obtain ⟨rfl, rfl⟩ := dict_one hod hdt
    have hsz := size_of_entries he
    exact wpAny_pyNext_keys_end_raw (I.ok.hd hc) st raw (by omega) fun h' eb => ⟨rfl, I.turned (t' := s.toks) (fun b ob hb e => eb b ob hb e) f0 f1 f3 f4 f5⟩
  self := fun A i s Q E st h => wpAny_pyIter_keyiter st h
theorem turn_JV (it : Addr) (hod : o.data = .dict es ep) (hv : ∀ (i : Nat) (y : NestedKey × Addr × Value), xs[i]? = some y → ∃ v, vs[i]? = some v ∧ RelV v y.2.2) : Turn P' w' K tg (JV P w d o xs vs) [it] it (fun i h => h.IsValIter it d i es.size ep) where
  mem := by simp
  obj := fun i h st b hb => by
    have e : b = it := by simpa using hb
    subst e
    obtain ⟨oi, e, c, dd⟩ := st
    exact ⟨oi, e, fun v z => by rw [dd] at z; cases z⟩
  keep := fun i h h' st k => st.at fun oi e => k it (by simp) oi e
  item := by
    intro X hP hw hK hc i pins s σ H E I hf st hg
    subst hP hw hK
    obtain ⟨hd, hi⟩ := hg
    obtain ⟨f0, f1, f2, f3, f4, f5⟩ := hf it (by simp)
    obtain ⟨es', ep', hdt, raw, he⟩ := frzX I hd
    obtain ⟨rfl, rfl⟩ := dict_one hod hdt
    have hsz := size_of_entries he
    obtain ⟨y, y1, y2, y3⟩ := ent_at he (show i < es'.size by omega)
    obtain ⟨v, v1, v2⟩ := hv i y y1
    refine wpAny_pyNext_values_item_raw st raw (by omega) fun h' st' sb => ?_
    have I1 : Inv X pins σ H { s with heap := h' } := I.turned (t' := s.toks) (fun b ob hb e => (sb.2 b hb).trans e) f0 f1 f3 f4 f5
    obtain ⟨oi, e, c, dd⟩ := id st'
    exact ⟨_, rfl, go_of (s := { s with heap := h' }) e c dd (by decide) ⟨v, H, I1, by rw [y3]; exact v2, ⟨rfl, v1⟩, st', fun b hb => (hf b hb).1⟩⟩
  done := by
    intro X hP hw hK hc i pins s σ H E I hf st hg
    subst hP hw hK
    obtain ⟨hd, hi⟩ := hg
    obtain ⟨f0, f1, f2, f3, f4, f5⟩ := hf it (by simp)
    obtain ⟨es', ep', hdt, raw, he⟩ := frzX I hd
    obtain ⟨rfl, rfl⟩ := dict_one hod hdt
    have hsz := size_of_entries he
    exact wpAny_pyNext_values_end_raw (I.ok.hd hc) st raw (by omega) fun h' eb => ⟨rfl, I.turned (t' := s.toks) (fun b ob hb e => eb b ob hb e) f0 f1 f3 f4 f5⟩
  self := fun A i s Q E st h => wpAny_pyIter_valiter st h
theorem turn_JI {elts : List Expr} {kk : Nat} {tpos : Pos} (it : Addr) (hod : o.data = .dict es ep) (hv : ∀ (i : Nat) (y : NestedKey × Addr × Value), xs[i]? = some y → ∃ v, vs[i]? = some v ∧ RelV v y.2.2) :
    Turn P' w' K (.Tuple elts kk tpos) (JI P w d o xs vs) [it] it (fun i h => ∃ ok ov, IsItemIter h it d i es.size ep ok ov) where
  mem := by simp
  obj := fun i h st b hb => by
    have e : b = it := by simpa using hb
    subst e
    obtain ⟨ok, ov, e⟩ := st
    exact ⟨_, e, fun v z => nomatch z⟩
  keep := fun i h h' st k => let ⟨ok, ov, e⟩ := st; ⟨ok, ov, k it (by simp) _ e⟩
  item := by
    intro X hP hw hK hc i pins s σ H E I hf st hg
    subst hP hw hK
    obtain ⟨hd, hi⟩ := hg
    obtain ⟨f0, f1, f2, f3, f4, f5⟩ := hf it (by simp)
    obtain ⟨es', ep', hdt, raw, he⟩ := frzX I hd
    obtain ⟨rfl, rfl⟩ := dict_one hod hdt
    have hsz := size_of_entries he
    obtain ⟨y, y1, y2, y3⟩ := ent_at he (show i < es'.size by omega)
    obtain ⟨v, v1, v2⟩ := hv i y y1
    obtain ⟨ok, ov, st⟩ := st
    have hlt : it < s.heap.objs.size := Heap.lt_size st
    refine wpAny_pyNext_items_item_raw st raw (by omega) fun h' ho hT hz hk => ?_
    refine ⟨_, rfl, wpAny_letOwnedTupleGo_items (s := { s with heap := h' }) ho fun h'' he' sb => ?_⟩
    have hT2 : h''.get? s.heap.objs.size = some { cls := .type "tuple", data := .seq #[es'[i].key, es'[i].val] } := (sb.2 _ (Nat.ne_of_gt hlt)).trans hT
    have new : ObjOk X.prog X.w (upd H s.heap.objs.size (.tup [.ref y.2.1, v])) h'' s.heap.objs.size (.tup [.ref y.2.1, v]) :=
      ⟨by show 2 ≤ sizeLine; decide, [es'[i].key, es'[i].val], .cons y2 (.cons (by rw [y3]; exact v2) .nil), ⟨_, hT2, rfl, _, rfl⟩⟩
    have I1 : Inv X pins σ (upd H s.heap.objs.size (.tup [.ref y.2.1, v])) { s with heap := h'' } :=
      I.turnedNew (t' := s.toks) (ch := [it]) (fun b ob hb e => (sb.2 b (by simpa using hb)).trans (hk b ob (by simpa using hb) e)) hf (Nat.le_refl _) new
    refine ⟨.ref s.heap.objs.size, _, I1, rfl, ⟨_, y, v, y1, v1, rfl, I.hok.fresh (Nat.le_refl _), rfl⟩, ⟨es'[i].key, es'[i].val, he'⟩, fun b hb => ?_⟩
    have e : b = it := by simpa using hb
    rw [e, upd_ne (Nat.ne_of_lt hlt)]
    exact (hf it (by simp)).1
  done := by
    intro X hP hw hK hc i pins s σ H E I hf st hg
    subst hP hw hK
    obtain ⟨hd, hi⟩ := hg
    obtain ⟨f0, f1, f2, f3, f4, f5⟩ := hf it (by simp)
    obtain ⟨es', ep', hdt, raw, he⟩ := frzX I hd
    obtain ⟨rfl, rfl⟩ := dict_one hod hdt
    have hsz := size_of_entries he
    obtain ⟨ok, ov, st⟩ := st
    exact wpAny_pyNext_items_end_raw (I.ok.hd hc) st raw (by omega) fun h' eb => ⟨rfl, I.turned (t' := s.toks) (fun b ob hb e => eb b ob hb e) f0 f1 f3 f4 f5⟩
  self := fun A i s Q E st h => let ⟨_, _, e⟩ := st; PySem.W.kcp_self e h
/-- what stands behind a locked dict: its sources for loops -/
def LkX (g : GW) (H : Hp) (x : V) (R : Addr → Obj → List (NestedKey × Addr × Value) → List V → Prop) : Prop :=
  ∃ d o xs vs, x = .ref d ∧ H d = some (.frz o (DkO g.pr g.wd d xs)) ∧ (d == sysModules) = false ∧ (∀ (i : Nat) (y : NestedKey × Addr × Value), xs[i]? = some y → ∃ v, vs[i]? = some v ∧ RelV v y.2.2) ∧ R d o xs vs
def iJK (g : GW) (td : TE) : TI := fun σ H R => td σ H fun x H1 => LkX g H1 x fun d o xs vs => R (JK g.pr g.wd d o xs) H1
def iJV (g : GW) (td : TE) : TI := fun σ H R => td σ H fun x H1 => LkX g H1 x fun d o xs vs => R (JV g.pr g.wd d o xs vs) H1
def iJI (g : GW) (td : TE) : TI := fun σ H R => td σ H fun x H1 => LkX g H1 x fun d o xs vs => R (JI g.pr g.wd d o xs vs) H1
end
section
variable {X : Cx} {g : GW} {tg e : Expr} {td : TE} {apos cpos : Pos}
theorem pi_JK (he : PE X e td) : PI X tg e (iJK g td) := by
  refine ⟨fun pins s σ H R I h => ?_⟩
  refine thn (he.run pins s σ H _ I h) fun u s1 ⟨x, H1, I1, rx, d, o, xs, vs, ex, hd, hs, hv, q⟩ => ?_
  subst ex
  obtain rfl : u = Value.ref d := rx
  obtain ⟨es, ep, hdt, raw, hx⟩ := frzX I1 hd
  exact wpAny_pyIter_dict_raw hs raw (pi_one (tk := s1.toks) I1 _ (turn_JK _ hdt) ⟨_, Heap.get?_push_size _ rfl, rfl, rfl⟩ q)
theorem pi_JV (he : PE X e td) (hbase : attributeBase e "values" X.env (eval e X.env) = eval e X.env := by rfl) (hline : (apos.endLine == cpos.line) = true := by rfl) : PI X tg (.Call (.Attribute e "values" apos) [] [] cpos) (iJV g td) := by
  refine ⟨fun pins s σ H R I h => ?_⟩
  refine wpAny_Call_method (T := "dict") (id := "dict.values") hbase rfl hline F.plainAttrs_dict F.slot_dict_values F.type_dict_values (thn (he.run pins s σ H _ I h) fun u s1 ⟨x, H1, I1, rx, d, o, xs, vs, ex, hd, hs, hv, q⟩ => ?_)
  subst ex
  obtain rfl : u = Value.ref d := rx
  obtain ⟨es, ep, hdt, raw, hx⟩ := frzX I1 hd
  have raw' := raw
  obtain ⟨od, r1, r2, r3⟩ := raw'
  refine ⟨raw.typeIs, fun a ea => by cases ea; exact ⟨od, r1, r2.2.1⟩, ?_⟩
  have I2 : Inv X pins σ H1 { s1 with heap := s1.heap.push { cls := .type "dict_values", data := .fields #[.ref d] } } := I1.kept (t' := s1.toks) fun b ob q => Heap.get?_push_of_some _ q
  have fin : wpAny (model X.prog X.w) X.A (pyIter (.ref s1.heap.objs.size)) (PIE X pins σ tg R) X.xe { s1 with heap := s1.heap.push { cls := .type "dict_values", data := .fields #[.ref d] } } :=
    wpAny_pyIter_values_raw (d := d) ⟨_, Heap.get?_push_size _ rfl, rfl, rfl⟩ (raw.at fun o e => Heap.get?_push_of_some _ e) (pi_one (tk := s1.toks) I2 _ (turn_JV _ hdt hv) ⟨_, Heap.get?_push_size _ rfl, rfl, rfl⟩ q)
  show wpAny _ _ (callWith cpos (.builtin "dict.values") [.ref d] [] []) _ X.xe s1
  exact method_meetsIn F.slot_dict_values F.entry_dict_values rfl (PySem.evalArgs_none ⟨rfl, raw.typeIs, F.args_dict_values_1 _, _, meets_dict_values_raw d hs, ⟨es, ep, raw⟩, fin⟩)
theorem pi_JI {elts : List Expr} {kk : Nat} {tpos : Pos} (he : PE X e td) (hbase : attributeBase e "items" X.env (eval e X.env) = eval e X.env := by rfl) (hline : (apos.endLine == cpos.line) = true := by rfl) :
    PI X (.Tuple elts kk tpos) (.Call (.Attribute e "items" apos) [] [] cpos) (iJI g td) := by
  refine ⟨fun pins s σ H R I h => ?_⟩
  refine wpAny_Call_method (T := "dict") (id := "dict.items") hbase rfl hline F.plainAttrs_dict F.slot_dict_items F.type_dict_items (thn (he.run pins s σ H _ I h) fun u s1 ⟨x, H1, I1, rx, d, o, xs, vs, ex, hd, hs, hv, q⟩ => ?_)
  subst ex
  obtain rfl : u = Value.ref d := rx
  obtain ⟨es, ep, hdt, raw, hx⟩ := frzX I1 hd
  have raw' := raw
  obtain ⟨od, r1, r2, r3⟩ := raw'
  refine ⟨raw.typeIs, fun a ea => by cases ea; exact ⟨od, r1, r2.2.1⟩, ?_⟩
  have I2 : Inv X pins σ H1 { s1 with heap := s1.heap.push { cls := .type "dict_items", data := .fields #[.ref d] } } := I1.kept (t' := s1.toks) fun b ob q => Heap.get?_push_of_some _ q
  have fin : wpAny (model X.prog X.w) X.A (pyIter (.ref s1.heap.objs.size)) (PIE X pins σ (.Tuple elts kk tpos) R) X.xe { s1 with heap := s1.heap.push { cls := .type "dict_items", data := .fields #[.ref d] } } :=
    wpAny_pyIter_items_raw (d := d) ⟨_, Heap.get?_push_size _ rfl, rfl, rfl⟩ (raw.at fun o e => Heap.get?_push_of_some _ e) (pi_one (tk := s1.toks) I2 _ (turn_JI _ hdt hv) ⟨.none, .none, Heap.get?_push_size _ rfl⟩ q)
  show wpAny _ _ (callWith cpos (.builtin "dict.items") [.ref d] [] []) _ X.xe s1
  exact method_meetsIn F.slot_dict_items F.entry_dict_items rfl (PySem.evalArgs_none ⟨rfl, raw.typeIs, F.args_dict_items_1 _, _, meets_dict_items_raw d hs, ⟨es, ep, raw⟩, fin⟩)
end
/-! ### locked behind an expression, free again behind the statement -/
def tLk (H0 : Hp) (td : TE) : TE := fun σ H Q => td σ H fun x H1 => ∃ d u, x = .ref d ∧ H1 d = some u ∧ Mut (some u) ∧ ∀ od, (∀ o' u', H0 d ≠ some (.frz o' u')) → Q x (upd H1 d (.frz od u))
def tUnl (H0 : Hp) (t : TS) : TS := fun D σ H => t ⟨fun σ' H' => ∃ d od u, H' d = some (.frz od u) ∧ (∀ o' u', H0 d ≠ some (.frz o' u')) ∧ D.nx σ' (upd H' d u), fun v H' => ∃ d od u, H' d = some (.frz od u) ∧ (∀ o' u', H0 d ≠ some (.frz o' u')) ∧ D.rt v (upd H' d u),
  fun σ' H' => ∃ d od u, H' d = some (.frz od u) ∧ (∀ o' u', H0 d ≠ some (.frz o' u')) ∧ D.bk σ' (upd H' d u), fun σ' H' => ∃ d od u, H' d = some (.frz od u) ∧ (∀ o' u', H0 d ≠ some (.frz o' u')) ∧ D.ct σ' (upd H' d u)⟩ σ H
def tUnlE (H0 : Hp) (t : TE) : TE := fun σ H Q => t σ H fun v H' => ∃ d od u, H' d = some (.frz od u) ∧ (∀ o' u', H0 d ≠ some (.frz o' u')) ∧ Q v (upd H' d u)
section
variable {X : Cx}
theorem pe_lk {e : Expr} {td : TE} (he : PE X e td) : PE X e (tLk X.H_0 td) := by
  refine ⟨fun pins s σ H Q I h => ?_⟩
  refine thn (he.run pins s σ H _ I h) fun v s1 ⟨x, H1, I1, rx, d, u, ex, hd, mu, q⟩ => ?_
  obtain ⟨od, I2⟩ := I1.lock hd mu
  exact ⟨x, _, I2, rx, q od (I1.nofrz hd mu)⟩
theorem ps_unl {st : Stmt} {t : TS} (h : PS X st t) : PS X st (tUnl X.H_0 t) := by
  refine ⟨fun pins s σ H D I hw => ?_⟩
  refine thn (h.run pins s σ _ _ I hw) fun f s1 q => ?_
  cases f with
  | next => obtain ⟨σ', H', I2, d, od, u, e, hn, q⟩ := q; exact ⟨σ', _, I2.unlock e hn, q⟩
  | brk => obtain ⟨σ', H', I2, d, od, u, e, hn, q⟩ := q; exact ⟨σ', _, I2.unlock e hn, q⟩
  | cont => obtain ⟨σ', H', I2, d, od, u, e, hn, q⟩ := q; exact ⟨σ', _, I2.unlock e hn, q⟩
  | ret v => obtain ⟨x, σ', H', I2, r, d, od, u, e, hn, q⟩ := q; exact ⟨x, σ', _, I2.unlock e hn, r, q⟩
theorem pe_unl {e : Expr} {t : TE} (h : PE X e t) : PE X e (tUnlE X.H_0 t) := by
  refine ⟨fun pins s σ H Q I hw => ?_⟩
  refine thn (h.run pins s σ _ _ I hw) fun v s1 ⟨x, H1, I2, r, d, od, u, e2, hn, q⟩ => ?_
  exact ⟨x, _, I2.unlock e2 hn, r, q⟩
end
end Fw

namespace Fw
open PySem L2 PyProof.Rows

/-! ### d.values(), d.items() as lists -/
section
variable {X : Cx} {pins : List (Addr × Obj)} {σ : L2.St} {H : Hp} {s : Shared}
/-- many new objects at once -/
theorem inv_many {H' : Hp} {h' : Heap} {tk : Nat} (I : Inv X pins σ H s) (kp : ∀ (b : Addr) (u : Obj), s.heap.get? b = some u → h'.get? b = some u)
    (up : ∀ b o, H b = some o → H' b = some o) (nw : ∀ a o, H' a = some o → H a = none → s.heap.get? a = none ∧ ObjOk X.prog X.w H' h' a o) :
    Inv X pins σ H' { heap := h', gens := s.gens, drawn := s.drawn, toks := tk, os := s.os } := by
  have free : ∀ b o, s.heap.get? b = some o → H b = none → H' b = none := fun b o e n => by
    cases q : H' b with
    | none => rfl
    | some u =>
      have := (nw b u q n).1
      rw [e] at this; cases this
  refine I.un (t' := tk) ⟨fun b o e n _ _ => kp b o e, fun b o e n _ _ => ⟨o.slots, kp b o e⟩, fun b o e n _ => free b o e n, fun b o e _ => ⟨o, kp b o e⟩, fun b xs e => up b _ e, fun b o u e => up b _ e, fun b ps e => ⟨#[], by rw [Array.append_empty]; exact up b _ e⟩⟩ fun a o e => ?_
  cases q : H a with
  | none => exact (nw a o e q).2
  | some u =>
    have := up a u q
    rw [e] at this
    cases this
    exact (I.hok a _ q).stay (fun b v _ e => kp b v e) (fun b e => up b _ e) fun b xs e => up b _ e
/-- a view -/
def VwO (T : String) (p d : Addr) : HO := .ext fun h => ∃ o, h.get? p = some o ∧ o.cls = .type T ∧ o.data = .fields #[.ref d]
theorem vwO_ok {T : String} {P : Program} {w : World} {H : Hp} {h : Heap} {p d : Addr} (z : ∃ o, h.get? p = some o ∧ o.cls = .type T ∧ o.data = .fields #[.ref d]) : ObjOk P w H h p (VwO T p d) :=
  ⟨z, (let ⟨o, h, _⟩ := z; ⟨o, h⟩), fun h1 h2 ⟨o, e, r⟩ k => ⟨o, k o e, r⟩⟩
/-- how a dict with tuples as keys is viewed -/
def tVw (T : String) (g : GW) (td : TE) : TE := fun σ H Q => td σ H fun x H1 => ∃ (d : Addr) (xs : List (NestedKey × Addr × Value)), x = .ref d ∧ Rd H1 d (DkO g.pr g.wd d xs) ∧ (d == sysModules) = false ∧ ∀ p, H1 p = none → Q (.ref p) (upd H1 p (VwO T p d))
theorem dkO_raw {P : Program} {w : World} {d : Addr} {xs : List (NestedKey × Addr × Value)} (I : Inv X pins σ H s) (h : Rd H d (DkO P w d xs)) :
    ∃ (es : Array DictEntry) (ep : Nat), s.heap.DictRaw d es ep ∧ es.toList = xs.map (entryOfKey (nestedKind P w)) := by
  obtain ⟨o, es, ep, ho, hx, hdt, he⟩ := (show ObjOk X.prog X.w H s.heap d (DkO P w d xs) from h.ok I.hok).1
  exact ⟨es, ep, ⟨o, ho, hx, hdt⟩, he⟩
variable {g : GW} {e : Expr} {td : TE} {apos cpos : Pos}
theorem pe_vals (he : PE X e td) (hbase : attributeBase e "values" X.env (eval e X.env) = eval e X.env := by rfl) (hline : (apos.endLine == cpos.line) = true := by rfl) : PE X (.Call (.Attribute e "values" apos) [] [] cpos) (tVw "dict_values" g td) := by
  refine ⟨fun pins s σ H Q I h => ?_⟩
  refine wpAny_Call_method (T := "dict") (id := "dict.values") hbase rfl hline F.plainAttrs_dict F.slot_dict_values F.type_dict_values (thn (he.run pins s σ H _ I h) fun u s1 ⟨x, H1, I1, rx, d, xs, ex, hd, hs, q⟩ => ?_)
  subst ex
  obtain rfl : u = Value.ref d := rx
  obtain ⟨es, ep, raw, hx⟩ := dkO_raw I1 hd
  have raw' := raw
  obtain ⟨od, r1, r2, r3⟩ := raw'
  refine ⟨raw.typeIs, fun a ea => by cases ea; exact ⟨od, r1, r2.2.1⟩, ?_⟩
  have fin : EP X pins σ Q (.ref s1.heap.objs.size) { s1 with heap := s1.heap.push { cls := .type "dict_values", data := .fields #[.ref d] } } :=
    ⟨.ref s1.heap.objs.size, _, I1.laid (a := s1.heap.objs.size) (o := VwO "dict_values" s1.heap.objs.size d) (t' := s1.toks) (fun _ _ q => Heap.get?_push_of_some _ q) (Nat.le_refl _) (vwO_ok ⟨_, Heap.get?_push_size _ rfl, rfl, rfl⟩), rfl, q _ (I1.hok.fresh (Nat.le_refl _))⟩
  show wpAny _ _ (callWith cpos (.builtin "dict.values") [.ref d] [] []) _ X.xe s1
  exact method_meetsIn F.slot_dict_values F.entry_dict_values rfl (PySem.evalArgs_none ⟨rfl, raw.typeIs, F.args_dict_values_1 _, _, meets_dict_values_raw d hs, ⟨es, ep, raw⟩, fin⟩)
theorem pe_itms (he : PE X e td) (hbase : attributeBase e "items" X.env (eval e X.env) = eval e X.env := by rfl) (hline : (apos.endLine == cpos.line) = true := by rfl) : PE X (.Call (.Attribute e "items" apos) [] [] cpos) (tVw "dict_items" g td) := by
  refine ⟨fun pins s σ H Q I h => ?_⟩
  refine wpAny_Call_method (T := "dict") (id := "dict.items") hbase rfl hline F.plainAttrs_dict F.slot_dict_items F.type_dict_items (thn (he.run pins s σ H _ I h) fun u s1 ⟨x, H1, I1, rx, d, xs, ex, hd, hs, q⟩ => ?_)
  subst ex
  obtain rfl : u = Value.ref d := rx
  obtain ⟨es, ep, raw, hx⟩ := dkO_raw I1 hd
  have raw' := raw
  obtain ⟨od, r1, r2, r3⟩ := raw'
  refine ⟨raw.typeIs, fun a ea => by cases ea; exact ⟨od, r1, r2.2.1⟩, ?_⟩
  have fin : EP X pins σ Q (.ref s1.heap.objs.size) { s1 with heap := s1.heap.push { cls := .type "dict_items", data := .fields #[.ref d] } } :=
    ⟨.ref s1.heap.objs.size, _, I1.laid (a := s1.heap.objs.size) (o := VwO "dict_items" s1.heap.objs.size d) (t' := s1.toks) (fun _ _ q => Heap.get?_push_of_some _ q) (Nat.le_refl _) (vwO_ok ⟨_, Heap.get?_push_size _ rfl, rfl, rfl⟩), rfl, q _ (I1.hok.fresh (Nat.le_refl _))⟩
  show wpAny _ _ (callWith cpos (.builtin "dict.items") [.ref d] [] []) _ X.xe s1
  exact method_meetsIn F.slot_dict_items F.entry_dict_items rfl (PySem.evalArgs_none ⟨rfl, raw.typeIs, F.args_dict_items_1 _, _, meets_dict_items_raw d hs, ⟨es, ep, raw⟩, fin⟩)
/-- list(d.values()) -/
theorem call_list_vals (hc : X.calm = true) : CallR X (.type "list") (fun us H Q => ∃ (p d : Addr) (xs : List (NestedKey × Addr × Value)) (vs : List V), us = [V.ref p] ∧ H p = some (VwO "dict_values" p d) ∧ Rd H d (DkO g.pr g.wd d xs) ∧ xs.length ≤ sizeLine ∧ vs.length = xs.length ∧
    (∀ (i : Nat) (y : NestedKey × Addr × Value), xs[i]? = some y → ∃ v, vs[i]? = some v ∧ RelV v y.2.2) ∧ ∀ q, H q = none → Q (.ref q) (upd H q (.lst vs))) := by
  intro pins s σ H us ws Q I r h
  obtain ⟨p, d, xs, vs, rfl, hp, hd, z, hl, hv, q⟩ := h
  obtain ⟨u, rfl, rx⟩ := r.one
  cases rx
  obtain ⟨es, ep, raw, he⟩ := dkO_raw I hd
  have l1 : es.size = xs.length := size_of_entries he
  have vw := (show ObjOk X.prog X.w H s.heap p (VwO "dict_values" p d) from I.hok p _ hp).1
  refine PySem.W.kdl_call (PySem.KdlSrc.rawValues (d := d) (r := p) (es := es) (ep := ep)) (I.ok.hd hc) ⟨vw, raw⟩ (by omega) fun h' tk acc' c' kp e it => ?_
  have rv : Vals vs acc'.toList := by
    have hlen : acc'.toList.length = vs.length := by rw [Array.length_toList, it.1]; omega
    have key : ∀ (vs : List V) (us : List Value), us.length = vs.length → (∀ (i : Nat) (u : Value), us[i]? = some u → ∃ v, vs[i]? = some v ∧ RelV v u) → Vals vs us := by
      intro vs
      induction vs with
      | nil => intro us h1 _; cases us with
        | nil => exact .nil
        | cons _ _ => simp at h1
      | cons v vs ih =>
        intro us h1 h2
        cases us with
        | nil => simp at h1
        | cons u us =>
          obtain ⟨v', e1, e2⟩ := h2 0 u rfl
          simp only [List.getElem?_cons_zero, Option.some.injEq] at e1
          subst e1
          exact .cons e2 (ih us (by simpa using h1) fun i w hw => by
            have := h2 (i + 1) w (by simpa using hw)
            simpa using this)
    refine key vs acc'.toList hlen fun i u hu => ?_
    obtain ⟨hi, en⟩ := it.2 i u (by rw [← Array.getElem?_toList]; exact hu)
    obtain ⟨y, y1, y2, y3⟩ := ent_at he hi
    obtain ⟨v, v1, v2⟩ := hv i y y1
    exact ⟨v, v1, by rw [en, y3]; exact v2⟩
  refine ⟨.ref s.heap.objs.size, _, I.laid (t' := tk) (o := .lst vs) kp (Nat.le_refl _) ?_, rfl, q _ (I.hok.fresh (Nat.le_refl _))⟩
  exact ⟨by omega, acc'.toList, c', rv, by rw [Array.toArray_toList]; exact e⟩
/-- list(d.items()) -/
theorem call_list_itms (hc : X.calm = true) : CallR X (.type "list") (fun us H Q => ∃ (p d : Addr) (xs : List (NestedKey × Addr × Value)) (vs : List V), us = [V.ref p] ∧ H p = some (VwO "dict_items" p d) ∧ Rd H d (DkO g.pr g.wd d xs) ∧ xs.length ≤ sizeLine ∧ vs.length = xs.length ∧
    (∀ (i : Nat) (y : NestedKey × Addr × Value), xs[i]? = some y → ∃ v, vs[i]? = some v ∧ RelV v y.2.2) ∧
    ∀ (H' : Hp) (l : Addr) (ts : List Addr), (∀ b o, H b = some o → H' b = some o) → H l = none → (∀ t ∈ ts, H t = none) → l ∉ ts → H' l = some (.lst (ts.map V.ref)) → ts.length = xs.length → ts.Nodup → (∀ b, b ≠ l → b ∉ ts → H' b = H b) →
      (∀ (i : Nat) (t : Addr) (y : NestedKey × Addr × Value) (v : V), ts[i]? = some t → xs[i]? = some y → vs[i]? = some v → H' t = some (.tup [.ref y.2.1, v])) → Q (.ref l) H') := by
  intro pins s σ H us ws Q I r h
  obtain ⟨p, d, xs, vs, rfl, hp, hd, z, hl, hv, q⟩ := h
  obtain ⟨u, rfl, rx⟩ := r.one
  cases rx
  obtain ⟨es, ep, raw, he⟩ := dkO_raw I hd
  have l1 : es.size = xs.length := size_of_entries he
  have vw := (show ObjOk X.prog X.w H s.heap p (VwO "dict_items" p d) from I.hok p _ hp).1
  refine PySem.W.dil_call (I.ok.hd hc) vw raw (by omega) fun h' tk acc c as kp e la G ea => ?_
  have hnd : as.Nodup := G.rise.imp fun h => Nat.ne_of_lt h
  have hno : s.heap.objs.size ∉ as := fun z => Nat.lt_irrefl _ (G.above _ z)
  -- the new objects
  let H' : Hp := fun b => if b = s.heap.objs.size then some (.lst (as.map V.ref)) else match as.idxOf? b with
    | some i => (match xs[i]?, vs[i]? with | some y, some v => some (.tup [.ref y.2.1, v]) | _, _ => H b)
    | none => H b
  have fr : ∀ b, s.heap.objs.size ≤ b → H b = none := fun b hb => I.hok.fresh hb
  have ix : ∀ (i : Nat) (t : Addr), as[i]? = some t → as.idxOf? t = some i := fun i t ht => by
    rw [List.idxOf?, List.findIdx?_eq_some_iff_getElem]
    obtain ⟨hi, et⟩ := List.getElem?_eq_some_iff.mp ht
    refine ⟨hi, by simp [et], fun j hj => ?_⟩
    simp only [beq_iff_eq, Bool.not_eq_true, beq_eq_false_iff_ne, ne_eq]
    intro z
    have := nd_ix hnd (i := j) (j := i) (x := t) (by rw [List.getElem?_eq_getElem (Nat.lt_trans hj hi), z]) ht
    omega
  have ixn : ∀ b, b ∉ as → as.idxOf? b = none := fun b hb => by
    rw [List.idxOf?, List.findIdx?_eq_none_iff]
    intro x hx
    simp only [beq_eq_false_iff_ne, ne_eq]
    exact fun z => hb (z ▸ hx)
  have atl : H' s.heap.objs.size = some (.lst (as.map V.ref)) := by simp [H']
  have att : ∀ (i : Nat) (t : Addr) (y : NestedKey × Addr × Value) (v : V), as[i]? = some t → xs[i]? = some y → vs[i]? = some v → H' t = some (.tup [.ref y.2.1, v]) := fun i t y v ht hy hv' => by
    have hne : t ≠ s.heap.objs.size := fun z => hno (z ▸ List.mem_of_getElem? ht)
    simp only [H', if_neg hne, ix i t ht, hy, hv']
  have off : ∀ b, b ≠ s.heap.objs.size → b ∉ as → H' b = H b := fun b hb hn => by
    simp only [H', if_neg hb, ixn b hn]
  have up : ∀ b o, H b = some o → H' b = some o := fun b o eb => by
    have hb : b < s.heap.objs.size := by
      rcases Nat.lt_or_ge b s.heap.objs.size with z | z
      · exact z
      · rw [fr b z] at eb; cases eb
    rw [off b (Nat.ne_of_lt hb) fun z => Nat.lt_irrefl _ (Nat.lt_trans hb (G.above _ z))]
    exact eb
  have I' : Inv X pins σ H' { heap := h', gens := s.gens, drawn := s.drawn, toks := tk, os := s.os } := by
    refine inv_many I kp up fun a o ea' hn => ?_
    by_cases h1 : a = s.heap.objs.size
    · subst h1
      rw [atl] at ea'
      cases ea'
      refine ⟨?_, ?_⟩
      · cases q' : s.heap.get? s.heap.objs.size with
        | none => rfl
        | some o => exact absurd (Heap.lt_size q') (Nat.lt_irrefl _)
      · have := vals_refs as
        refine ⟨by rw [List.length_map]; omega, as.map Value.ref, c, this, ?_⟩
        rw [← ea, Array.toArray_toList]; exact e
    · by_cases h2 : a ∈ as
      · obtain ⟨i, hi, et⟩ := List.mem_iff_getElem.mp h2
        have ht : as[i]? = some a := by rw [List.getElem?_eq_getElem hi, et]
        obtain ⟨hj, gt⟩ := G.pairs i a ht
        obtain ⟨y, y1, y2, y3⟩ := ent_at he hj
        obtain ⟨v, v1, v2⟩ := hv i y y1
        rw [att i a y v ht y1 v1] at ea'
        cases ea'
        refine ⟨?_, show 2 ≤ sizeLine by decide, [es[i].key, es[i].val], .cons y2 (.cons (by rw [y3]; exact v2) .nil), ⟨_, gt, rfl, _, rfl⟩⟩
        cases q' : s.heap.get? a with
        | none => rfl
        | some o => exact absurd (Nat.lt_trans (G.above a h2) (Heap.lt_size q')) (Nat.lt_irrefl _)
      · rw [off a h1 h2, hn] at ea'
        cases ea'
  exact ⟨.ref s.heap.objs.size, H', I', rfl, q H' s.heap.objs.size as up (fr _ (Nat.le_refl _)) (fun t ht => fr t (Nat.le_of_lt (G.above t ht))) hno atl (by omega) hnd off att⟩
end
end Fw

namespace Fw
open PySem L2 PyProof.Rows

/-! ### enumerate over a tuple -/
theorem newClass_enum (v : Value) : Builtin.SmallTypes.newClass "enumerate" { pos := [.type "enumerate", v] } = pure (.type "enumerate", [v]) := by
  unfold Builtin.SmallTypes.newClass
  rfl
theorem wp_ite {M : Model} {A : Around} {α : Type} {E : Value → Shared → Prop} {s : Shared} {Q : α → Shared → Prop} {c : Prop} [Decidable c] {x y : Sem α} (h1 : wpAny M A x Q E s) (h2 : wpAny M A y Q E s) : wpAny M A (if c then x else y) Q E s := by
  split
  · exact h1
  · exact h2
theorem meets_enumT (l : Addr) (items : Array Value) : Meets (Builtin.«enumerate.__new__» { pos := [.type "enumerate", .ref l] }) fun x R s => s.heap.IsTuple l items ∧ R (.ok (.ret (.ref (s.heap.push { cls := .type "tuple_iterator", data := .fields #[.ref l, .int 0 0] }).objs.size)))
    { s with heap := (s.heap.push { cls := .type "tuple_iterator", data := .fields #[.ref l, .int 0 0] }).push { cls := .type "enumerate", data := .fields #[.none, .bool false, .ref s.heap.objs.size, rawInt 0, .none, .none] } } := by
  intro prog w A R s ⟨ht, hR⟩
  unfold Builtin.«enumerate.__new__»
  rw [newClass_enum]
  refine wpAny_bind (wpAny_pure ?_)
  simp only [beq_self_eq_true, if_true]
  refine wpAny_bind ?_
  unfold Builtin.SmallTypes.calledThroughType
  refine wpAny_bind (wpAny_stack_any ?_)
  intro st
  refine wpAny_pure (wp_ite ?_ ?_)
  · refine wpAny_bind (wpAny_pure (a := (Value.ref l, none)) ?_)
    simp only []
    refine wpAny_bind (wpAny_pyIter_tuple ht ?_)
    refine wpAny_bind (wpAny_newObj_type (data := .fields #[.none, .bool false, .ref s.heap.objs.size, rawInt 0, .none, .none]) ?_)
    exact wpAny_pure hR
  · refine wpAny_bind (wpAny_pure (a := (Value.ref l, none)) ?_)
    simp only []
    refine wpAny_bind (wpAny_pyIter_tuple ht ?_)
    refine wpAny_bind (wpAny_newObj_type (data := .fields #[.none, .bool false, .ref s.heap.objs.size, rawInt 0, .none, .none]) ?_)
    exact wpAny_pure hR
theorem call_enumT {prog : Program} {w : World} {A : Around} {E : Value → Shared → Prop} {s : Shared} {l : Addr} {items : Array Value} {Q : Value → Shared → Prop} (ht : s.heap.IsTuple l items)
    (h : ∀ h' : Heap, IsEnum h' (s.heap.objs.size + 1) s.heap.objs.size 0 .none → h'.IsTupleIter s.heap.objs.size l 0 → h'.objs.size = s.heap.objs.size + 2 → (∀ (b : Addr) (o : Obj), s.heap.get? b = some o → h'.get? b = some o) → Q (.ref (s.heap.objs.size + 1)) { s with heap := h' }) :
    wpAny (model prog w) A (call (.type "enumerate") [.ref l]) Q E s := by
  refine callType_new F.called_enumerate (by decide) rfl (F.newCall_enumerate_1 _) (fun obj => F.args_object_init_2 obj _) F.entry_enumerate_new (meets_enumT l items) ⟨ht, ?_⟩
  have sz : (s.heap.push { cls := .type "tuple_iterator", data := .fields #[.ref l, .int 0 0] }).objs.size = s.heap.objs.size + 1 := Heap.size_push ..
  have g2 : ((s.heap.push { cls := .type "tuple_iterator", data := .fields #[.ref l, .int 0 0] }).push { cls := .type "enumerate", data := .fields #[.none, .bool false, .ref s.heap.objs.size, rawInt 0, .none, .none] }).get? (s.heap.objs.size + 1) = some { cls := .type "enumerate", data := .fields #[.none, .bool false, .ref s.heap.objs.size, rawInt 0, .none, .none] } := by
    rw [← sz]; exact Heap.get?_push_size _ rfl
  show wants _ E (.ok (.ret (.ref _))) _
  rw [sz]
  refine ⟨⟨_, g2, rfl⟩, h _ g2 ⟨_, Heap.get?_push_of_some _ (Heap.get?_push_size _ rfl), rfl, rfl⟩ ?_ fun b o e => Heap.get?_push_of_some _ (Heap.get?_push_of_some _ e)⟩
  rw [Heap.size_push, sz]
theorem draws_tup {prog : Program} {w : World} {A : Around} (hA : A.handled = none) (it l : Addr) (hne : l ≠ it) (items : Array Value) : Draws prog w A it [it, l] items.size (fun i v => items[i]? = some v) fun i h => h.IsTupleIter it l i ∧ h.IsTuple l items where
  live := fun i h st => let ⟨o, e, _⟩ := st.1; ⟨o, e⟩
  frame := fun i h h' st k => ⟨st.1.at fun o e => k it (by simp) o e, st.2.at fun o e => k l (by simp) o e⟩
  item := fun i s Q E hi st k => by
    refine RZ.nextOf_tuple_item st.1 st.2 (Array.getElem?_eq_getElem hi) fun h' st' sb => ?_
    refine k _ h' s.toks (Array.getElem?_eq_getElem hi) ⟨st', st.2.at fun o e => ?_⟩ sb
    rw [sb.2 l hne]; exact e
  done := fun s Q E st k => RZ.nextOf_tuple_end hA st.1 st.2 (Array.getElem?_eq_none (Nat.le_refl _)) fun h' e eb ee => k h' e eb ee
/-- the turns -/
def IteT (K : PySem.W.Frag) (a : Addr) : It :=
  ⟨fun i H => ∃ xs x, SqT K H a xs ∧ xs[i]? = some x, fun i H v H' => ∃ T x, v = V.ref T ∧ H T = none ∧ H' = upd H T (.tup [V.int (i : Nat), x]) ∧ ∀ xs : List V, SqT K H a xs → xs[i]? = some x, fun i H => ∃ xs, SqT K H a xs ∧ xs.length ≤ i⟩
theorem turn_enumT {P : Program} {w : World} {K : PySem.W.Frag} {elts : List Expr} {kk : Nat} {tpos : Pos} (a e it : Addr) : Turn P w K (.Tuple elts kk tpos) (IteT K a) [e, it] e (fun i h => (∃ old, IsEnum h e it (i : Nat) old) ∧ h.IsTupleIter it a i ∧ e ≠ it) where
  mem := by simp
  obj := fun i h st b hb => by
    simp only [List.mem_cons, List.not_mem_nil, or_false] at hb
    rcases hb with rfl | rfl
    · obtain ⟨⟨old, z⟩, _⟩ := st
      exact ⟨_, z, fun v z => nomatch z⟩
    · obtain ⟨_, ⟨o, e, c, dd⟩, _⟩ := st
      exact ⟨o, e, fun v z => by rw [dd] at z; cases z⟩
  keep := fun i h h' st k => ⟨let ⟨old, z⟩ := st.1; ⟨old, k e (by simp) _ z⟩, st.2.1.at fun o z => k it (by simp) o z, st.2.2⟩
  item := by
    intro X hP hw hK hc i pins s σ H E I hf st hg
    subst hP hw hK
    obtain ⟨⟨old, z⟩, ti, hne⟩ := st
    obtain ⟨xs, x, hs, hx⟩ := hg
    obtain ⟨its, rv, p, hz⟩ := I.tuple hs
    have hi : i < its.toArray.size := by
      have := (List.getElem?_eq_some_iff.mp hx).1
      have := rv.length
      simp only [List.size_toArray]
      omega
    have fe := hf e (by simp)
    have fi := hf it (by simp)
    have hle : e < s.heap.objs.size := Heap.lt_size z
    have hli : it < s.heap.objs.size := let ⟨_, q, _⟩ := ti; Heap.lt_size q
    have hax : a ≠ it := fun q => by
      subst q
      obtain ⟨o1, q1, q2, _⟩ := p
      obtain ⟨o2, q3, q4, _⟩ := ti
      rw [q1] at q3; cases q3
      rw [q2] at q4; simp at q4
    have hae : a ≠ e := fun q => by
      subst q
      obtain ⟨o1, q1, q2, _⟩ := p
      rw [z] at q1; cases q1
      simp at q2
    refine wpAny_pyNext_enum_itemD (draws_tup (by simpa using I.ok.hd hc) it a hax its.toArray) z ⟨ti, p⟩ hi hne (by simp [Ne.symm hae, hne]) fun u h' tk hu ho st' hT hsz kp => ?_
    refine ⟨_, rfl, wpAny_letOwnedTupleGo_enum (s := { s with heap := h', toks := tk + 1 }) ho fun h'' he' sb => ?_⟩
    obtain ⟨v, hv1, hv2⟩ : ∃ v, xs[i]? = some v ∧ RelV v u := by
      obtain ⟨u', q1, q2⟩ := Vals.get rv hx
      have q3 : its[i]? = some u := by simpa using hu
      rw [q1] at q3; cases q3
      exact ⟨x, hx, q2⟩
    rw [hx] at hv1; cases hv1
    have hTne : s.heap.objs.size ≠ e := Nat.ne_of_gt hle
    have hT2 : h''.get? s.heap.objs.size = some { cls := .type "tuple", data := .seq #[.int (i : Nat) tk, u] } := (sb.2 _ hTne).trans hT
    have new : ObjOk X.prog X.w (upd H s.heap.objs.size (.tup [.int (i : Nat), x])) h'' s.heap.objs.size (.tup [.int (i : Nat), x]) :=
      ⟨by show 2 ≤ sizeLine; decide, [.int (i : Nat) tk, u], .cons ⟨_, rfl⟩ (.cons hv2 .nil), ⟨_, hT2, rfl, _, rfl⟩⟩
    have I1 : Inv X pins σ (upd H s.heap.objs.size (.tup [.int (i : Nat), x])) { s with heap := h'', toks := tk + 1 } :=
      I.turnedNew (t' := tk + 1) (ch := [e, it]) (fun b ob hb q => by
        simp only [List.mem_cons, List.not_mem_nil, or_false, not_or] at hb
        exact (sb.2 b hb.1).trans (kp b ob hb.1 hb.2 q)) hf (Nat.le_refl _) new
    refine ⟨.ref s.heap.objs.size, _, I1, rfl, ⟨_, x, rfl, I.hok.fresh (Nat.le_refl _), rfl, fun ys hys => ?_⟩, ⟨⟨_, by simpa using he'⟩, st'.1.at fun o q => (sb.2 it (Ne.symm hne)).trans q, hne⟩, fun b hb => ?_⟩
    · rw [I.tuple_inj hys hs]; exact hx
    · simp only [List.mem_cons, List.not_mem_nil, or_false] at hb
      rcases hb with rfl | rfl
      · rw [upd_ne (Nat.ne_of_lt hle)]; exact fe.1
      · rw [upd_ne (Nat.ne_of_lt hli)]; exact fi.1
  done := by
    intro X hP hw hK hc i pins s σ H E I hf st hg
    subst hP hw hK
    obtain ⟨⟨old, z⟩, ti, hne⟩ := st
    obtain ⟨xs, hs, hx⟩ := hg
    obtain ⟨its, rv, p, hz⟩ := I.tuple hs
    have hlen : its.toArray.size ≤ i := by
      have := rv.length
      simp only [List.size_toArray]
      omega
    have fi := hf it (by simp)
    have hA : X.A.in1.handled = none := by simpa using I.ok.hd hc
    have D : Draws X.prog X.w X.A.in1 it [it, a] i (fun j v => its.toArray[j]? = some v) fun j h => j = i ∧ h.IsTupleIter it a i ∧ h.IsTuple a its.toArray := ⟨fun j h st => let ⟨o, e, _⟩ := st.2.1; ⟨o, e⟩,
      fun j h h' st k => ⟨st.1, st.2.1.at fun o e => k it (by simp) o e, st.2.2.at fun o e => k a (by simp) o e⟩, fun j s Q E hj st => absurd st.1 (Nat.ne_of_lt hj),
      fun s Q E st k => RZ.nextOf_tuple_end hA st.2.1 st.2.2 (Array.getElem?_eq_none hlen) fun h' e eb ee => k h' e eb ee⟩
    refine wpAny_pyNext_enum_endD D z ⟨rfl, ti, p⟩ fun h' eb => ⟨rfl, I.turned (t' := s.toks) (fun b o hb q => eb b o hb q) fi.1 fi.2.1 fi.2.2.2.1 fi.2.2.2.2.1 fi.2.2.2.2.2⟩
  self := fun A i s Q E st h => let ⟨old, z⟩ := st.1; wpAny_pyIter_enum z h
/-- a list or a tuple, counted -/
def iEnumA (K : PySem.W.Frag) (ta : TA) : TI := fun σ H R => ta σ H fun vs H1 => (∃ a xs, vs = [V.ref a] ∧ SqL K H1 a xs ∧ R (Ite K a) H1) ∨ ∃ a xs, vs = [V.ref a] ∧ SqT K H1 a xs ∧ R (IteT K a) H1
theorem pi_enumA {X : Cx} {e : Expr} {ta : TA} {p pos tpos : Pos} {elts : List Expr} {kk : Nat} (hg : Gl X "enumerate") (hm : X.mg "enumerate" = none) (ha : PA X [e] ta) (hs : starEach [e] X.env = [(false, eval e X.env)] := by rfl) :
    PI X (.Tuple elts kk tpos) (.Call (.Name "enumerate" p) [e] [] pos) (iEnumA X.K ta) := by
  refine ⟨fun pins s σ H R I h => ?_⟩
  have rd := (pe_bltn (X := X) (pos := p) (v := .ty "enumerate") hg hm (by decide +kernel) rfl).run pins s σ H (fun z Hz => z = .ty "enumerate" ∧ Hz = H) I ⟨rfl, rfl⟩
  refine wpAny_Call_Name_kw (thn rd fun uf sf ⟨vf, Hf, If, rf, ef, eH⟩ => ?_)
  subst ef; subst eH
  obtain rfl : uf = Value.type "enumerate" := rf
  refine PyProof.Rows.callWith_type1 (rest := []) (thn (ha.run pos pins sf σ Hf _ If h) fun us s1 ⟨vs, H1, I1, rv, q⟩ => ?_) (by rw [hs]; rfl) rfl
  rcases q with ⟨a, xs, rfl, hq, q⟩ | ⟨a, xs, rfl, hq, q⟩
  · obtain ⟨u, rfl, rx⟩ := rv.one
    cases rx
    obtain ⟨its, rl, pl, hz⟩ := I1.list hq
    refine call_enumerate_list pl.isList fun h' en li hsz kp => ?_
    refine wpAny_pyIter_enum (s := { s1 with heap := h' }) en ?_
    have fp : ∀ b ∈ [s1.heap.objs.size + 1, s1.heap.objs.size], FpOk X pins H1 b := fun b hb => by
      simp only [List.mem_cons, List.not_mem_nil, or_false] at hb
      have hle : s1.heap.objs.size ≤ b := by rcases hb with rfl | rfl <;> omega
      exact I1.fpOk hle (I1.hok.fresh hle)
    exact ⟨_, [s1.heap.objs.size + 1, s1.heap.objs.size], _, _, H1, rfl, I1.kept (t' := s1.toks) kp, turn_enum a (s1.heap.objs.size + 1) s1.heap.objs.size, ⟨⟨_, en⟩, li, Nat.succ_ne_self _⟩, fp, q⟩
  · obtain ⟨u, rfl, rx⟩ := rv.one
    cases rx
    obtain ⟨its, rl, pl, hz⟩ := I1.tuple hq
    refine call_enumT (items := its.toArray) pl fun h' en li hsz kp => ?_
    refine wpAny_pyIter_enum (s := { s1 with heap := h' }) en ?_
    have fp : ∀ b ∈ [s1.heap.objs.size + 1, s1.heap.objs.size], FpOk X pins H1 b := fun b hb => by
      simp only [List.mem_cons, List.not_mem_nil, or_false] at hb
      have hle : s1.heap.objs.size ≤ b := by rcases hb with rfl | rfl <;> omega
      exact I1.fpOk hle (I1.hok.fresh hle)
    exact ⟨_, [s1.heap.objs.size + 1, s1.heap.objs.size], _, _, H1, rfl, I1.kept (t' := s1.toks) kp, turn_enumT a (s1.heap.objs.size + 1) s1.heap.objs.size, ⟨⟨_, en⟩, li, Nat.succ_ne_self _⟩, fp, q⟩
/-- IteT, walked -/
theorem walk_enumT {K : PySem.W.Frag} {a : Addr} {xs : List V} : Walk (IteT K a) xs.length (fun H => SqT K H a xs) (YPair (fun i => some (.int (i : Nat))) (fun i => xs[i]?)) := by
  refine ⟨fun i H hi q => ⟨xs, xs[i], q, List.getElem?_eq_getElem hi⟩, fun H q => ⟨xs, q, Nat.le_refl _⟩, fun i H v H' hi q y => ?_⟩
  obtain ⟨T, x, h1, h2, h3, h4⟩ := y
  exact ⟨T, .int (i : Nat), x, h1, h2, h3, rfl, h4 xs q⟩
end Fw

namespace Fw
open PySem L2 PyProof.Rows

/-! ### the wish of a def, and the context of its body -/
def GoodC (g : GW) (m : List Addr) (H : Hp) (Q : VK) (E : XK) : Out → Prop
  | .ok t S' => ∀ v m' H', Ext m H m' H' → SRep g m' H' S' → Rep g m' H' t v → Q v H'
  | .ex c p S' => ∀ cls d m' H', Ext m H m' H' → SRep g m' H' S' → XRep g H' c p cls d → E cls d H'
def spF (g : GW) (call : Nat → List T → Sto → Res) (f np : Nat) : Sp := fun vs H Q E => vs.length = np ∧ ∃ fb m S ts o, RepL (g.w fb) m H ts vs ∧ SRep (g.w fb) m H S ∧ call f ts S = some o ∧ GoodC (g.w fb) m H Q E o

/-- what is known of the def with number f, where it may be called by c -/
def CallOk (X : Cx) (g : GW) (c : Nat → List T → Sto → Res) (f : Nat) : Prop := ∃ k fd ps, FnOk X.prog X.w X.K X.mg X.base (L2.CX X.prog X.w) k (g.fa f) fd ps (spF g c f ps.length) ∧ Room k X.A ∧ PySem.W.keepIn X.K (.ref (g.fa f)) = true ∧ Binds X.K fd ps [] ∧ ∀ ts S o, c f ts S = some o → ts.length = ps.length
/-- what the except clauses wish -/
def hOk (K : PySem.W.Frag) (g : GW) (Q : VK) : List (Nat × Str) → XK
  | [] => fun _ _ _ => False
  | (c, s) :: r => fun cls d H => ∃ b, PySem.W.exmOne K cls (.ref (g.ea c)) = some b ∧ (b = true → Q (.str s) H) ∧ (b = false → hOk K g Q r cls d H)
def TTm (K : PySem.W.Frag) (g : GW) (hds : List (Nat × Str)) (r : Str) : (XK → Hp → VK → Prop) → Hp → VK → Prop := fun tl H Q => tl (hOk K g Q hds) H fun _ H' => Q (.str r) H'
/-- what is known of the def x that calls a lambda and tells how it ended -/
inductive LamOk (X : Cx) (g : GW) (E : EV) (nmL : Nat → Option Str) (f : Nat) (x : Str) : Prop
  | mk {a : Str} {g0 c P : Addr} {k : Nat} {pg : Arguments} {bg : List Stmt} {sg : Scope} {dV kV doc pm cdv ct oc : Value} {an od : Option Addr} {osl : Array (Option Value)} {Ng : List Str} {hs : List (Nat × T)} {hds : List (Nat × Str)} {r : Str}
    (he : E.lam f = some (hs, .str r)) (hm : X.mg x = some (.ref g0)) (hk : PySem.W.keepIn X.K (.ref g0) = true)
    (lk : X.K.lookup g0 = some ⟨oc, od, .func (PySem.W.fnOf x x pg bg sg dV kV doc pm an cdv ct), osl⟩) (hcg : PySem.W.codeIn X.K cdv x = true)
    (hb : L2.Binds X.K (PySem.W.fnOf x x pg bg sg dV kV doc pm an cdv ct) [a] []) (Sg : FnScope Ng [a] sg) (hNg : Ng[0]? = some a) (hva : Vis sg a) (hd : (a == ("__debug__" : Str)) = false) (hcd : (a == ("__classdict__" : Str)) = false)
    (hG : LamX.GivesTo X Ng x sg g0 cdv bg a (X.env.qual ++ "<lambda>") (TTm X.K g hds r))
    (TB : LamX.TabB X.base X.mg c P) (hcode : X.env.code = .ref c) (hmT : (P, X.env.qual ++ "<lambda>") ∈ g.T) (hu : ∀ p ∈ g.T, p.1 = P → p.2 = X.env.qual ++ "<lambda>") (hr : Room (k + 2) X.A)
    (hx : ∀ p ∈ hs, ∃ s, p.2 = .str s ∧ ∀ (Q : VK) d H, Q (.str s) H → hOk X.K g Q hds (.ref (g.ea p.1)) d H)
    (hf : ∀ f2, (nmL f2).isSome = true → ∃ fd ps, FnOk X.prog X.w X.K X.mg X.base (L2.CX X.prog X.w) k (g.fa f2) fd ps (spF g E.callL f2 ps.length) ∧ PySem.W.keepIn X.K (.ref (g.fa f2)) = true ∧ Binds X.K fd ps [] ∧ (∀ ts S o, E.callL f2 ts S = some o → ts.length = ps.length) ∧ ∀ x2, nmL f2 = some x2 → X.mg x2 = some (.ref (g.fa f2)))
    (hfv : ∀ f2 ts S o, E.callL f2 ts S = some o → (nmL f2).isSome = true) : LamOk X g E nmL f x

/-- what is known of an own error: plain | with an attribute of its own __init__ -/
def ErrP (X : Cx) (C : Addr) (x : Str) : Prop := ∃ (B newId initId : String) (bmB : List Value), ExcBaseFacts B newId initId bmB ∧ PySem.W.excIn X.K C bmB newId = true ∧ X.mg x = some (.ref C) ∧ PySem.W.keepIn X.K (.ref C) = true
def ErrX (X : Cx) (C : Addr) (x f : Str) : Prop := OexC X.K C ∧ X.mg x = some (.ref C) ∧ XfC X.K C ∧ PySem.W.findIn X.K (.ref C) f = some none ∧ ∃ fI fd ps, PySem.W.findIn X.K (.ref C) "__init__" = some (some (.ref fI)) ∧ PySem.W.typeIn X.K (.ref fI) = some (.type "function") ∧
  ps.length = 2 ∧ Binds X.K fd ps [] ∧ ∀ k, FnOk X.prog X.w X.K X.mg X.base (L2.CX X.prog X.w) (k + 1) fI fd ps (spSup C f)
def IsxOk (X : Cx) (g : GW) (x : Str) (yes : List Bool) : Prop := ∃ cv : Value, (X.mg x = some cv ∨ (X.mg x = none ∧ bootBuiltins x = some cv ∧ x ≠ "__name__")) ∧ (∃ c : V, RelV c cv ∧ ∀ u, RelV c u → u = cv) ∧ ∀ d b, yes[d]? = some b → ExcC X.K (g.ea d) ∧ PySem.W.kitOne X.K (.ref (g.ea d)) cv = some b
structure XOk (G : Gm) (g : GW) (E : EV) (W : WX) (X : Cx) : Prop where
  N : X.N = G.N
  nd : G.N.Nodup
  sc : X.env.scope = G.sc
  K : X.K = g.K
  pr : X.prog = g.pr
  wd : X.w = g.wd
  calm : X.calm = true
  fn : ∀ x, G.fnT x = true → X.fn x = true
  tk : Takes X W
  un : X.A.units + 64 < cLine
  blt : ∀ x, x ∈ G.blt → X.mg x = none
  call : ∀ f x, G.fname f = some x → CallOk X g E.call f ∧ X.mg x = some (.ref (g.fa f))
  callL : ∀ f x, G.fnameL f = some x → CallOk X g E.callL f ∧ X.mg x = some (.ref (g.fa f))
  callv : G.lv = false → ∀ f ts S o, E.call f ts S = some o → CallOk X g E.call f
  lam : ∀ f x, G.lamN f = some x → E.lam f ≠ none → LamOk X g E G.nmL f x
  callvL : G.lv = true → ∀ f ts S o, E.callL f ts S = some o → CallOk X g E.callL f
  errP : ∀ c x, G.ename c = some x → G.exf c = none → ErrP X (g.ea c) x
  errX : ∀ c x f, G.ename c = some x → G.exf c = some f → ErrX X (g.ea c) x f ∧ (2 ≤ E.dp → Room 2 X.A)
  isx : ∀ x yes, (x, yes) ∈ G.isxs → IsxOk X g x yes
  cst : ∀ c x, G.cname c = some x → ∃ u v, X.mg x = some u ∧ L2.RelV v u ∧ ∀ fb m H, Rep (g.w fb) m H (E.cv c) v

def GoodT (g : GW) (W : WX) (m : List Addr) (σ : L2.St) (H : Hp) (Q : Bool → Hp → Prop) : Out → Prop
  | .ok t S' => ∃ b, truthy S' t = some b ∧ ∀ m' H', Ext m H m' H' → SRep g m' H' S' → Q b H'
  | .ex c p S' => ∀ cls d m' H', Ext m H m' H' → SRep g m' H' S' → XRep g H' c p cls d → W cls d σ H'
def tT (g : GW) (W : WX) (f : Rho → Sto → Res) : TT := fun σ H Q => ∃ fb m ρ S o, RS (g.w fb) m σ H ρ S ∧ f ρ S = some o ∧ GoodT (g.w fb) W m σ H Q o
def GoodO (g : GW) (W : WX) (nl : Bool) (m : List Addr) (σ : L2.St) (H : Hp) (Q : Option Int → Hp → Prop) : Out → Prop
  | .ok t S' => ∃ i, part nl t = some i ∧ ∀ m' H', Ext m H m' H' → SRep g m' H' S' → Q i H'
  | .ex c p S' => ∀ cls d m' H', Ext m H m' H' → SRep g m' H' S' → XRep g H' c p cls d → W cls d σ H'
def tO (g : GW) (W : WX) (nl : Bool) (f : Rho → Sto → Res) : TO := fun σ H Q => ∃ fb m ρ S o, RS (g.w fb) m σ H ρ S ∧ f ρ S = some o ∧ GoodO (g.w fb) W nl m σ H Q o

/-- the whole of a test -/
theorem tT_of {g : GW} {W : WX} {f : Rho → Sto → Res} {σ : L2.St} {H : Hp} {Q : Bool → Hp → Prop} (h : tT g W f σ H Q) : tE g W f σ H fun v H1 => ∃ b, TruV g.K v H1 b ∧ Q b H1 := by
  obtain ⟨fb, m, ρ, S, o, rs, e, G⟩ := h
  refine ⟨fb, m, ρ, S, o, rs, e, ?_⟩
  cases o with
  | ok t S' =>
    obtain ⟨b, hb, k⟩ := G
    exact fun v m' H' x sr r => ⟨b, tru_of sr r hb, k m' H' x sr⟩
  | ex c p S' => exact G

/-- the first part of a step, behind which a test stands -/
theorem tT_bnd {g : GW} {fb : List Addr} {W : WX} {f : Rho → Sto → Res} {k : T → Sto → Res} {m : List Addr} {σ : L2.St} {H : Hp} {ρ : Rho} {S : Sto} {o : Out} {Q : VK} {R : Bool → Hp → Prop}
    (h : bnd (f ρ S) k = some o) (rs : RS (g.w fb) m σ H ρ S) (G : GoodE (g.w fb) W m σ H Q o)
    (hk : ∀ t S1 m1 H1, k t S1 = some o → Ext m H m1 H1 → RS (g.w fb) m1 σ H1 ρ S1 → GoodE (g.w fb) W m1 σ H1 Q o → ∃ b, truthy S1 t = some b ∧ R b H1) (hb : ∀ t S1, k t S1 = some o → ∃ b, truthy S1 t = some b) : tT g W f σ H R := by
  cases e : f ρ S with
  | none => rw [e] at h; cases h
  | some r =>
    rw [e] at h
    refine ⟨fb, m, ρ, S, r, rs, e, ?_⟩
    cases r with
    | ok t S1 =>
      obtain ⟨b, eb⟩ := hb t S1 h
      refine ⟨b, eb, fun m1 H1 x sr => ?_⟩
      obtain ⟨b', eb', q⟩ := hk t S1 m1 H1 h x ⟨rs.env.mono x, sr⟩ (G.ext x)
      rw [eb] at eb'
      cases eb'
      exact q
    | ex c p S1 =>
      have : o = .ex c p S1 := (Option.some.inj h).symm
      subst this
      exact G

section
variable {G : Gm} {g : GW} {E : EV} {W : WX} {X : Cx}

/-- a chain of arguments comes to its items -/
theorem tA_of {fb : List Addr} {f : Rho → Sto → Res} {k : List T → Sto → Res} {m : List Addr} {σ : L2.St} {H : Hp} {ρ : Rho} {S : Sto} {o : Out} {Q : VK} {R : List V → Hp → Prop}
    (h : bnd (f ρ S) (fun x S1 => tups x fun l => k l S1) = some o) (rs : RS (g.w fb) m σ H ρ S) (Gd : GoodE (g.w fb) W m σ H Q o)
    (hk : ∀ l S1 vs m1 H1, k l S1 = some o → Ext m H m1 H1 → RS (g.w fb) m1 σ H1 ρ S1 → RepL (g.w fb) m1 H1 l vs → GoodE (g.w fb) W m1 σ H1 Q o → R vs H1) : tA g W f σ H R := by
  cases e : f ρ S with
  | none => rw [e] at h; cases h
  | some r =>
    rw [e] at h
    refine ⟨fb, m, ρ, S, r, rs, e, ?_⟩
    cases r with
    | ok t S1 =>
      cases t with
      | tup l => exact fun vs m1 H1 x sr rp => hk l S1 vs m1 H1 h x ⟨rs.env.mono x, sr⟩ rp (Gd.ext x)
      | _ => cases h
    | ex c p S1 =>
      have : o = .ex c p S1 := (Option.some.inj h).symm
      subst this
      exact Gd

/-! names and constants -/
theorem vName_eq {e : Expr} {x : Str} (h : vName e = some x) : ∃ p, e = .Name x p := by
  cases e <;> simp [vName] at h
  subst h; exact ⟨_, rfl⟩
theorem vConst_eq {e : Expr} {c : Const} (h : vConst e = some c) : ∃ k p, e = .Constant c k p := by
  cases e <;> simp [vConst] at h
  subst h; exact ⟨_, _, rfl⟩
theorem isNm_eq {o : Option Str} {x : Str} (h : isNm o x = true) : o = some x := by
  cases o with
  | none => cases h
  | some y => simp [isNm] at h; rw [h]
theorem glb_gl (xo : XOk G g E W X) {x : Str} (h : glb G x = true) : Gl X x ∧ (x == ("__debug__" : Str)) = false := by
  simp only [glb, isKind, dbg, Bool.and_eq_true, decide_eq_true_eq, Bool.not_eq_true'] at h
  refine ⟨?_, h.2.1⟩
  show X.env.scope.names.lookup x = _
  rw [xo.sc]
  exact h.1

theorem pe_lit (xo : XOk G g E W X) {v : T} {e : Expr} (h : lits G v e = true) : PE X e (tE g W fun _ S => some (.ok v S)) := by
  have fin : ∀ {w : V} {σ : L2.St} {H : Hp} {Q : VK}, (∀ fb m H, Rep (g.w fb) m H v w) → tE g W (fun _ S => some (.ok v S)) σ H Q → Q w H := fun {w σ H Q} r ⟨fb, m, ρ, S, o, rs, e, G⟩ => by
    simp only [Option.some.injEq] at e
    subst e
    exact fin_val G rs.sto (r _ _ _)
  cases v with
  | non =>
    simp only [lits] at h
    split at h
    · rename_i q
      obtain ⟨k, p, rfl⟩ := vConst_eq q
      exact pe_non.of fun σ H Q q => fin (fun _ _ _ => Rep.non_) q
    · cases h
  | bl b =>
    simp only [lits] at h
    split at h
    · rename_i c q
      obtain ⟨k, p, rfl⟩ := vConst_eq q
      have : b = c := by simpa using h
      subst this
      exact pe_bl.of fun σ H Q q => fin (fun _ _ _ => Rep.bl_) q
    · cases h
  | int b =>
    simp only [lits] at h
    split at h
    · rename_i c q
      obtain ⟨k, p, rfl⟩ := vConst_eq q
      have : b = c := by simpa using h
      subst this
      exact pe_int.of fun σ H Q q => fin (fun _ _ _ => Rep.int_) q
    · cases h
  | str b =>
    simp only [lits] at h
    split at h
    · rename_i c q
      obtain ⟨k, p, rfl⟩ := vConst_eq q
      have : b = c := by simpa using h
      subst this
      exact pe_str.of fun σ H Q q => fin (fun _ _ _ => Rep.str_) q
    · cases h
  | fn f =>
    simp only [lits] at h
    split at h
    · rename_i x q
      obtain ⟨p, rfl⟩ := vName_eq q
      simp only [Bool.and_eq_true] at h
      obtain ⟨gl, db⟩ := glb_gl xo h.2
      obtain ⟨_, hm⟩ := xo.call f x (isNm_eq h.1)
      exact (pe_glob (v := .ref (g.fa f)) gl hm rfl db).of fun σ H Q q => fin (fun _ _ _ => by simp [Rep, GW.w]) q
    · cases h
  | _ => cases h

theorem pe_v (xo : XOk G g E W X) {i : Nat} {e : Expr} (h : chkE G (.var i) e = true) : PE X e (tE g W (evE E (.var i))) := by
  simp only [chkE] at h
  split at h
  · rename_i x q
    obtain ⟨p, rfl⟩ := vName_eq q
    simp only [Bool.and_eq_true, decide_eq_true_eq, visB, isKind, Bool.or_eq_true, dbg, Bool.not_eq_true'] at h
    obtain ⟨⟨h1, h2⟩, h3, h4⟩ := h
    rw [← xo.sc] at h2
    rw [← xo.N] at h1
    refine (pe_var (i := i) h1 ?_ h3 h4).of fun σ H Q ⟨fb, m, ρ, S, o, rs, e, Gd⟩ => ?_
    · rcases h2 with (h2 | h2) | h2
      · exact .inl h2
      · exact .inr (.inl h2)
      · exact .inr (.inr h2)
    · simp only [evE] at e
      split at e
      · rename_i t ht
        simp only [Option.some.injEq] at e
        subst e
        obtain ⟨v, e1, e2⟩ := rs.env.2 i t ht
        exact ⟨v, e1, fin_val Gd rs.sto e2⟩
      · cases e
  · cases h

theorem pe_k (xo : XOk G g E W X) {c : Nat} {e : Expr} (h : chkE G (.cst c) e = true) : PE X e (tE g W (evE E (.cst c))) := by
  simp only [chkE] at h
  split at h
  · rename_i x q
    obtain ⟨p, rfl⟩ := vName_eq q
    simp only [Bool.and_eq_true] at h
    obtain ⟨gl, db⟩ := glb_gl xo h.2
    obtain ⟨u, v, hm, rv, rp⟩ := xo.cst c x (isNm_eq h.1)
    refine (pe_glob gl hm rv db).of fun σ H Q ⟨fb, m, ρ, S, o, rs, e, Gd⟩ => ?_
    simp only [evE, Option.some.injEq] at e
    subst e
    exact fin_val Gd rs.sto (rp _ _ _)
  · cases h

/-! displays -/
theorem pe_tu {es : IE} {xs : List Expr} {k : Nat} {p : Pos} (h : PA X xs (tA g W (evE E es))) : PE X (.Tuple xs k p) (tE g W (evE E (.tup es))) := by
  refine (pe_tup h).of fun σ H Q ⟨fb, m, ρ, S, o, rs, e, Gd⟩ => ?_
  simp only [evE] at e
  refine tA_of (k := fun l S1 => if l.length ≤ line then some (.ok (.tup l) S1) else none) e rs Gd fun l S1 vs m1 H1 ek x rs1 rp Gd1 => ?_
  split at ek
  · rename_i hl
    simp only [Option.some.injEq] at ek
    subst ek
    rw [line_eq, rp.length] at hl
    exact ⟨hl, fin_tup Gd1 rs1.sto rp⟩
  · cases ek
theorem pe_ls {bx : Bool} {es : IE} {xs : List Expr} {p : Pos} (h : PA X xs (tA g W (evE E es))) : PE X (.List xs p) (tE g W (evE E (.lst bx es))) := by
  refine (pe_lst h).of fun σ H Q ⟨fb, m, ρ, S, o, rs, e, Gd⟩ => ?_
  simp only [evE] at e
  refine tA_of (k := fun l S1 => if l.length ≤ line then some (newL bx (.lst l) S1) else none) e rs Gd fun l S1 vs m1 H1 ek x rs1 rp Gd1 => ?_
  split at ek
  · rename_i hl
    simp only [Option.some.injEq] at ek
    subst ek
    rw [line_eq, rp.length] at hl
    exact ⟨hl, fin_lst Gd1 rs1.sto rp⟩
  · cases ek
theorem starEach_cons {e : Expr} {r : List Expr} {env : Env} (h : noStar e = true) : starEach (e :: r) env = (false, eval e env) :: starEach r env := by
  cases e <;> first | rfl | cases h
theorem star_none {E : IE} (G : Gm) : ∀ (E : IE) (r : List Expr) (env : Env) (pos : Pos), chkA G E r = true → (backTo pos (starEach r env)).any (·.1) = false := fun E r env pos => by
  induction r generalizing E with
  | nil => intro _; rfl
  | cons e r ih =>
    intro h
    cases E <;> simp only [chkA] at h <;> try (cases h; done)
    simp only [Bool.and_eq_true] at h
    rw [starEach_cons h.2.1]
    have := ih _ h.2.2
    simpa [backTo] using this
theorem pa_n : PA X [] (tA g W (evE E .nil)) := pa_nil.of fun σ H Q ⟨fb, m, ρ, S, o, rs, e, Gd⟩ => by
  simp only [evE, Option.some.injEq] at e
  subst e
  exact Gd [] m H (Ext.refl _ _) rs.sto RepL.nil
theorem cons_read {a b : IE} {σ : L2.St} {H : Hp} {Q : List V → Hp → Prop} (h : tA g W (evE E (.cons a b)) σ H Q) : tCons (tE g W (evE E a)) (tA g W (evE E b)) σ H Q := by
  obtain ⟨fb, m, ρ, S, o, rs, e, Gd⟩ := h
  simp only [evE] at e
  cases ea : evE E a ρ S with
  | none => rw [ea] at e; cases e
  | some r =>
    rw [ea] at e
    refine ⟨fb, m, ρ, S, r, rs, ea, ?_⟩
    cases r with
    | ex c p S1 =>
      have : o = .ex c p S1 := (Option.some.inj e).symm
      subst this
      exact Gd
    | ok t S1 =>
      intro v m1 H1 x1 sr1 r1
      have rs1 : RS (g.w fb) m1 σ H1 ρ S1 := ⟨rs.env.mono x1, sr1⟩
      have e : bnd (evE E b ρ S1) (fun y S2 => tups y fun l => some (.ok (.tup (t :: l)) S2)) = some o := e
      cases eb : evE E b ρ S1 with
      | none => rw [eb] at e; cases e
      | some r2 =>
        rw [eb] at e
        refine ⟨fb, m1, ρ, S1, r2, rs1, eb, ?_⟩
        cases r2 with
        | ex c p S2 =>
          have : o = .ex c p S2 := (Option.some.inj e).symm
          subst this
          exact fun cls d m2 H2 x2 sr2 xr => Gd cls d m2 H2 (x1.trans x2) sr2 xr
        | ok u S2 =>
          cases u with
          | tup l =>
            have e : some (Out.ok (.tup (t :: l)) S2) = some o := e
            simp only [Option.some.injEq] at e
            subst e
            intro vs m2 H2 x2 sr2 r2
            exact Gd (v :: vs) m2 H2 (x1.trans x2) sr2 (RepL.cons (Rep.mono x2 t r1) r2)
          | _ => cases e

theorem pa_c {a b : IE} {e : Expr} {r : List Expr} (ha : PE X e (tE g W (evE E a))) (hb : PA X r (tA g W (evE E b))) (hs : noStar e = true) : PA X (e :: r) (tA g W (evE E (.cons a b))) :=
  (pa_cons ha hb (starEach_cons hs)).of fun σ H Q h => cons_read h

/-! operators -/
theorem pe_o {bx : Bool} {o : Operator} {a b : IE} {x y : Expr} {p : Pos} (xo : XOk G g E W X) (ha : PE X x (tE g W (evE E a))) (hb : PE X y (tE g W (evE E b))) : PE X (.BinOp x o y p) (tE g W (evE E (.op bx o a b))) := by
  refine (pe_op (op_bx xo.K o) ha hb).of fun σ H Q ⟨fb, m, ρ, S, o', rs, e, Gd⟩ => ?_
  simp only [evE] at e
  refine tE_bnd e rs Gd fun t S1 v m1 H1 e1 x1 rs1 r1 Gd1 => ?_
  refine tE_bnd e1 rs1 Gd1 fun u S2 w m2 H2 e2 x2 rs2 r2 Gd2 => ?_
  simp only [lift] at e2
  split at e2
  · rename_i z hz
    simp only [Option.some.injEq] at e2
    subst e2
    exact ⟨fb, W, m2, σ, S2, bx, _, _, z, rs2.sto, RepD.drf rs2.sto (Rep.mono x2 _ r1), RepD.drf rs2.sto r2, hz, Gd2⟩
  · cases e2
theorem noset_mark {o : CmpOp} {y : Expr} (h : noSet y = true) : behindInMarks o y = false := by
  cases y <;> first | rfl | cases h
theorem pe_cm {o : CmpOp} {a b : IE} {x y : Expr} {p : Pos} (xo : XOk G g E W X) (ha : PE X x (tE g W (evE E a))) (hb : PE X y (tE g W (evE E b))) (hs : noSet y = true) : PE X (.Compare x [o] [y] p) (tE g W (evE E (.cmp o a b))) := by
  refine (pe_cmpR (op_cx xo.K xo.pr xo.wd xo.un o) ha hb (noset_mark hs)).of fun σ H Q ⟨fb, m, ρ, S, o', rs, e, Gd⟩ => ?_
  simp only [evE] at e
  refine tE_bnd e rs Gd fun t S1 v m1 H1 e1 x1 rs1 r1 Gd1 => ?_
  refine tE_bnd e1 rs1 Gd1 fun u S2 w m2 H2 e2 x2 rs2 r2 Gd2 => ?_
  simp only [liftB] at e2
  split at e2
  · rename_i z hz
    simp only [Option.some.injEq] at e2
    subst e2
    exact ⟨fb, W, m2, σ, S2, _, _, z, rs2.sto, Rep.mono x2 _ r1, r2, hz, Gd2⟩
  · cases e2
/-- a test that a truth value answers -/
theorem tT_bool {f : Rho → Sto → Res} {σ : L2.St} {H : Hp} {Q : Bool → Hp → Prop} (h : tT g W f σ H Q) (hf : ∀ ρ S t S', f ρ S = some (.ok t S') → ∃ b, t = .bl b) : tE g W f σ H fun x H1 => ∃ k, x = .bl k ∧ Q k H1 := by
  obtain ⟨fb, m, ρ, S, o, rs, e, Gd⟩ := h
  refine ⟨fb, m, ρ, S, o, rs, e, ?_⟩
  cases o with
  | ex c p S' => exact Gd
  | ok t S' =>
    obtain ⟨b, eb, k⟩ := Gd
    intro v m' H' x sr r
    obtain ⟨b', rfl⟩ := hf _ _ _ _ e
    simp only [truthy, Option.some.injEq] at eb
    subst eb
    exact ⟨b', RepD.bl (RepD.of r), k m' H' x sr⟩
end
end Fw

namespace Fw
open PySem L2 PyProof.Rows

section
variable {G : Gm} {g : GW} {E : EV} {W : WX} {X : Cx}

theorem pe_ch {o o' : CmpOp} {a b c : IE} {x y z : Expr} {p : Pos} (xo : XOk G g E W X) (ha : PE X x (tE g W (evE E a))) (hb : PE X y (tE g W (evE E b))) (hc : PE X z (tE g W (evE E c)))
    (hs : noSet y = true) (hs' : noSet z = true) : PE X (.Compare x [o, o'] [y, z] p) (tE g W (evE E (.chn o o' a b c))) := by
  refine (pe_chain (op_cx xo.K xo.pr xo.wd xo.un o) (op_cx xo.K xo.pr xo.wd xo.un o') ha hb hc (by show lastMarks [o'] [z] = false; exact noset_mark hs')).of fun σ H Q ⟨fb, m, ρ, S, o', rs, e, Gd⟩ => ?_
  simp only [evE] at e
  refine tE_bnd e rs Gd fun t S1 v m1 H1 e1 x1 rs1 r1 Gd1 => ?_
  refine tE_bnd e1 rs1 Gd1 fun u S2 w m2 H2 e2 x2 rs2 r2 Gd2 => ?_
  split at e2
  · rename_i hz
    refine ⟨fb, W, m2, σ, S2, _, _, true, rs2.sto, Rep.mono x2 _ r1, r2, hz, fun v3 m3 H3 x3 sr3 r3 => ⟨true, by simpa [Rep] using r3, iteT ?_⟩⟩
    refine tE_bnd e2 ⟨rs2.env.mono x3, sr3⟩ (Gd2.ext x3) fun u' S4 w' m4 H4 e4 x4 rs4 r4 Gd4 => ?_
    simp only [liftB] at e4
    split at e4
    · rename_i z4 hz4
      simp only [Option.some.injEq] at e4
      subst e4
      exact ⟨fb, W, m4, σ, S4, _, _, z4, rs4.sto, Rep.mono x4 _ (Rep.mono x3 _ r2), r4, hz4, Gd4⟩
    · cases e4
  · rename_i hz
    simp only [Option.some.injEq] at e2
    subst e2
    refine ⟨fb, W, m2, σ, S2, _, _, false, rs2.sto, Rep.mono x2 _ r1, r2, hz, fun v3 m3 H3 x3 sr3 r3 => ⟨false, by simpa [Rep] using r3, iteF ?_⟩⟩
    exact Gd2 _ m3 H3 x3 sr3 Rep.bl_
  · cases e2

theorem pe_ng {a : IE} {x : Expr} {p : Pos} (ha : PE X x (tE g W (evE E a))) : PE X (.UnaryOp .USub x p) (tE g W (evE E (.neg a))) := by
  refine (pe_un un_ng ha).of fun σ H Q ⟨fb, m, ρ, S, o', rs, e, Gd⟩ => ?_
  simp only [evE] at e
  refine tE_bnd e rs Gd fun t S1 v m1 H1 e1 x1 rs1 r1 Gd1 => ?_
  split at e1
  · rename_i t' hn
    simp only [Option.some.injEq] at e1
    subst e1
    unfold negT at hn
    split at hn
    · simp only [Option.some.injEq] at hn
      subst hn
      exact ⟨_, .inl ⟨⟨_, RepD.int (RepD.of r1), rfl⟩, fin_val Gd1 rs1.sto Rep.int_⟩⟩
    · simp only [Option.some.injEq] at hn
      subst hn
      exact ⟨_, .inr ⟨⟨_, RepD.bl (RepD.of r1), rfl⟩, fin_val Gd1 rs1.sto Rep.int_⟩⟩
    · cases hn
  · cases e1

theorem pe_nt {a : IE} {x : Expr} {p : Pos} (xo : XOk G g E W X) (ha : PE X x (tE g W (evE E a))) : PE X (.UnaryOp .Not x p) (tE g W (evE E (.not a))) := by
  refine (pe_notT ha).of fun σ H Q ⟨fb, m, ρ, S, o', rs, e, Gd⟩ => ?_
  simp only [evE] at e
  refine tE_bnd e rs Gd fun t S1 v m1 H1 e1 x1 rs1 r1 Gd1 => ?_
  split at e1
  · rename_i b hb
    simp only [Option.some.injEq] at e1
    subst e1
    exact ⟨b, by rw [xo.K]; exact tru_of rs1.sto r1 hb, fin_val Gd1 rs1.sto Rep.bl_⟩
  · cases e1

theorem and_of {a b : IE} {σ : L2.St} {H : Hp} {Q : VK} (h : tE g W (evE E (.and a b)) σ H Q) : tAndT g.K (tE g W (evE E a)) (tE g W (evE E b)) σ H Q := by
  obtain ⟨fb, m, ρ, S, o', rs, e, Gd⟩ := h
  simp only [evE] at e
  refine tE_bnd e rs Gd fun t S1 v m1 H1 e1 x1 rs1 r1 Gd1 => ?_
  split at e1
  · rename_i hb
    exact ⟨true, tru_of rs1.sto r1 hb, iteT ⟨fb, m1, ρ, S1, o', rs1, e1, Gd1⟩⟩
  · rename_i hb
    simp only [Option.some.injEq] at e1
    subst e1
    exact ⟨false, tru_of rs1.sto r1 hb, iteF (fin_val Gd1 rs1.sto r1)⟩
  · cases e1
theorem or_of {a b : IE} {σ : L2.St} {H : Hp} {Q : VK} (h : tE g W (evE E (.or a b)) σ H Q) : tOrT g.K (tE g W (evE E a)) (tE g W (evE E b)) σ H Q := by
  obtain ⟨fb, m, ρ, S, o', rs, e, Gd⟩ := h
  simp only [evE] at e
  refine tE_bnd e rs Gd fun t S1 v m1 H1 e1 x1 rs1 r1 Gd1 => ?_
  split at e1
  · rename_i hb
    simp only [Option.some.injEq] at e1
    subst e1
    exact ⟨true, tru_of rs1.sto r1 hb, iteT (fin_val Gd1 rs1.sto r1)⟩
  · rename_i hb
    exact ⟨false, tru_of rs1.sto r1 hb, iteF ⟨fb, m1, ρ, S1, o', rs1, e1, Gd1⟩⟩
  · cases e1

theorem vAnd_eq {e x y : Expr} (h : vAnd e = some (x, y)) : (∃ p, e = .BoolOp .And [x, y] p) ∨ ∃ z w r p, e = .BoolOp .And (x :: z :: w :: r) p ∧ y = .BoolOp .And (z :: w :: r) p := by
  unfold vAnd at h
  split at h
  · simp only [Option.some.injEq, Prod.mk.injEq] at h
    obtain ⟨rfl, rfl⟩ := h
    exact .inl ⟨_, rfl⟩
  · simp only [Option.some.injEq, Prod.mk.injEq] at h
    obtain ⟨rfl, rfl⟩ := h
    exact .inr ⟨_, _, _, _, rfl, rfl⟩
  · cases h
theorem vOr_eq {e x y : Expr} (h : vOr e = some (x, y)) : (∃ p, e = .BoolOp .Or [x, y] p) ∨ ∃ z w r p, e = .BoolOp .Or (x :: z :: w :: r) p ∧ y = .BoolOp .Or (z :: w :: r) p := by
  unfold vOr at h
  split at h
  · simp only [Option.some.injEq, Prod.mk.injEq] at h
    obtain ⟨rfl, rfl⟩ := h
    exact .inl ⟨_, rfl⟩
  · simp only [Option.some.injEq, Prod.mk.injEq] at h
    obtain ⟨rfl, rfl⟩ := h
    exact .inr ⟨_, _, _, _, rfl, rfl⟩
  · cases h

theorem pe_an {a b : IE} {e x y : Expr} (xo : XOk G g E W X) (hv : vAnd e = some (x, y)) (ha : PE X x (tE g W (evE E a))) (hb : PE X y (tE g W (evE E b))) : PE X e (tE g W (evE E (.and a b))) := by
  rcases vAnd_eq hv with ⟨p, rfl⟩ | ⟨z, w, r, p, rfl, rfl⟩
  · exact (pe_andT ha (pe_one hb)).of fun σ H Q h => by rw [xo.K]; exact and_of h
  · exact (pe_andT ha hb).of fun σ H Q h => by rw [xo.K]; exact and_of h
theorem pe_orr {a b : IE} {e x y : Expr} (xo : XOk G g E W X) (hv : vOr e = some (x, y)) (ha : PE X x (tE g W (evE E a))) (hb : PE X y (tE g W (evE E b))) : PE X e (tE g W (evE E (.or a b))) := by
  rcases vOr_eq hv with ⟨p, rfl⟩ | ⟨z, w, r, p, rfl, rfl⟩
  · exact (pe_orT ha (pe_one hb)).of fun σ H Q h => by rw [xo.K]; exact or_of h
  · exact (pe_orT ha hb).of fun σ H Q h => by rw [xo.K]; exact or_of h

/-! tests -/
/-- the first part of a test -/
theorem tT_part {fb : List Addr} {f : Rho → Sto → Res} {k : T → Sto → Res} {m : List Addr} {σ : L2.St} {H : Hp} {ρ : Rho} {S : Sto} {o : Out} {Q R : Bool → Hp → Prop}
    (h : bnd (f ρ S) k = some o) (rs : RS (g.w fb) m σ H ρ S) (G : GoodT (g.w fb) W m σ H Q o)
    (hb : ∀ t S1, k t S1 = some o → ∃ b, truthy S1 t = some b ∧ ∀ m1 H1, Ext m H m1 H1 → RS (g.w fb) m1 σ H1 ρ S1 → R b H1) : tT g W f σ H R := by
  cases e : f ρ S with
  | none => rw [e] at h; cases h
  | some r =>
    rw [e] at h
    refine ⟨fb, m, ρ, S, r, rs, e, ?_⟩
    cases r with
    | ok t S1 =>
      obtain ⟨b, eb, q⟩ := hb t S1 h
      exact ⟨b, eb, fun m1 H1 x sr => q m1 H1 x ⟨rs.env.mono x, sr⟩⟩
    | ex c p S1 =>
      have : o = .ex c p S1 := (Option.some.inj h).symm
      subst this
      exact G

/-- what a test's end is to reach, in a grown heap -/
theorem tT_ext {fb : List Addr} {f : Rho → Sto → Res} {m m1 : List Addr} {σ : L2.St} {H H1 : Hp} {ρ : Rho} {S : Sto} {o : Out} {Q : Bool → Hp → Prop} (x : Ext m H m1 H1) (rs : RS (g.w fb) m1 σ H1 ρ S) (e : f ρ S = some o)
    (G : GoodT (g.w fb) W m σ H Q o) : tT g W f σ H1 Q := by
  refine ⟨fb, m1, ρ, S, o, rs, e, ?_⟩
  cases o with
  | ok t S' =>
    obtain ⟨b, eb, q⟩ := G
    exact ⟨b, eb, fun m' H' x' sr => q m' H' (x.trans x') sr⟩
  | ex c p S' => exact fun cls d m' H' x' sr xr => G cls d m' H' (x.trans x') sr xr

theorem tand_of {a b : IE} {σ : L2.St} {H : Hp} {Q : Bool → Hp → Prop} (h : tT g W (evE E (.and a b)) σ H Q) : tAnd (tT g W (evE E a)) (tT g W (evE E b)) σ H Q := by
  obtain ⟨fb, m, ρ, S, o', rs, e, Gd⟩ := h
  simp only [evE] at e
  refine tT_part e rs Gd fun t S1 e1 => ?_
  split at e1
  · rename_i hb
    exact ⟨true, hb, fun m1 H1 x1 rs1 => iteT (tT_ext x1 rs1 e1 Gd)⟩
  · rename_i hb
    simp only [Option.some.injEq] at e1
    subst e1
    obtain ⟨b, eb, q⟩ := Gd
    rw [hb] at eb
    cases eb
    exact ⟨false, hb, fun m1 H1 x1 rs1 => iteF (q m1 H1 x1 rs1.sto)⟩
  · cases e1
theorem tor_of {a b : IE} {σ : L2.St} {H : Hp} {Q : Bool → Hp → Prop} (h : tT g W (evE E (.or a b)) σ H Q) : tOr (tT g W (evE E a)) (tT g W (evE E b)) σ H Q := by
  obtain ⟨fb, m, ρ, S, o', rs, e, Gd⟩ := h
  simp only [evE] at e
  refine tT_part e rs Gd fun t S1 e1 => ?_
  split at e1
  · rename_i hb
    simp only [Option.some.injEq] at e1
    subst e1
    obtain ⟨b, eb, q⟩ := Gd
    rw [hb] at eb
    cases eb
    exact ⟨true, hb, fun m1 H1 x1 rs1 => iteT (q m1 H1 x1 rs1.sto)⟩
  · rename_i hb
    exact ⟨false, hb, fun m1 H1 x1 rs1 => iteF (tT_ext x1 rs1 e1 Gd)⟩
  · cases e1
theorem pw_bool {op : BoolOp} {es : List Expr} {p : Pos} {t : TT} (h : PT X (.BoolOp op es p) t) : PW X (.BoolOp op es p) t :=
  ⟨fun whole pins s σ H Q I q => by
    have z := h.run pins s σ H Q I q
    exact z⟩
theorem pt_an {a b : IE} {e x y : Expr} (hv : vAnd e = some (x, y)) (ha : PT X x (tT g W (evE E a))) (hb : PT X y (tT g W (evE E b))) : PT X e (tT g W (evE E (.and a b))) := by
  rcases vAnd_eq hv with ⟨p, rfl⟩ | ⟨z, w, r, p, rfl, rfl⟩
  · exact (pw_and ha (pw_and1 hb)).pt.of fun σ H Q h => tand_of h
  · exact (pw_and ha (pw_bool hb)).pt.of fun σ H Q h => tand_of h
theorem pt_orr {a b : IE} {e x y : Expr} (hv : vOr e = some (x, y)) (ha : PT X x (tT g W (evE E a))) (hb : PT X y (tT g W (evE E b))) : PT X e (tT g W (evE E (.or a b))) := by
  rcases vOr_eq hv with ⟨p, rfl⟩ | ⟨z, w, r, p, rfl, rfl⟩
  · exact (pw_or ha (pw_or1 hb)).pt.of fun σ H Q h => tor_of h
  · exact (pw_or ha (pw_bool hb)).pt.of fun σ H Q h => tor_of h
theorem pt_nt {a : IE} {x : Expr} {p : Pos} (ha : PT X x (tT g W (evE E a))) : PT X (.UnaryOp .Not x p) (tT g W (evE E (.not a))) := by
  refine (pt_not ha).of fun σ H Q ⟨fb, m, ρ, S, o', rs, e, Gd⟩ => ?_
  simp only [evE] at e
  refine tT_part e rs Gd fun t S1 e1 => ?_
  split at e1
  · rename_i b hb
    simp only [Option.some.injEq] at e1
    subst e1
    obtain ⟨b', eb, q⟩ := Gd
    simp only [truthy, Option.some.injEq] at eb
    subst eb
    exact ⟨b, hb, fun m1 H1 x1 rs1 => q m1 H1 x1 rs1.sto⟩
  · cases e1
/-- a test by its value -/
theorem pt_tr {f : Rho → Sto → Res} {x : Expr} (xo : XOk G g E W X) (ha : PE X x (tE g W f)) (he : ∀ whole, isTrue x X.env whole = (do let v ← whole; standAt x.pos; holding [v] (PySem.truthy v))) : PT X x (tT g W f) :=
  (pt_truth ha he).of fun σ H Q h => by
    have := tT_of h
    rw [xo.K]
    exact this
/-- .. where it is True or False -/
theorem tT_tB {f : Rho → Sto → Res} (hf : ∀ ρ S t S', f ρ S = some (.ok t S') → ∃ b, t = .bl b) {σ : L2.St} {H : Hp} {Q : Bool → Hp → Prop} (h : tT g W f σ H Q) : tE g W f σ H fun x H1 => ∃ c, x = .bl c ∧ Q c H1 := tT_bool h hf

theorem pe_if {c a b : IE} {z x y : Expr} {p : Pos} (hc : PT X z (tT g W (evE E c))) (ha : PE X x (tE g W (evE E a))) (hb : PE X y (tE g W (evE E b))) : PE X (.IfExp z x y p) (tE g W (evE E (.ite c a b))) := by
  refine (pe_ifExp hc ha hb).of fun σ H Q ⟨fb, m, ρ, S, o', rs, e, Gd⟩ => ?_
  simp only [evE] at e
  refine tT_bnd e rs Gd (fun t S1 m1 H1 e1 x1 rs1 Gd1 => ?_) fun t S1 e1 => ?_
  · split at e1
    · rename_i hb
      exact ⟨true, hb, iteT ⟨fb, m1, ρ, S1, o', rs1, e1, Gd1⟩⟩
    · rename_i hb
      exact ⟨false, hb, iteF ⟨fb, m1, ρ, S1, o', rs1, e1, Gd1⟩⟩
    · cases e1
  · split at e1
    · rename_i hb; exact ⟨true, hb⟩
    · rename_i hb; exact ⟨false, hb⟩
    · cases e1
theorem cmp_bl {o : CmpOp} {a b : IE} (ρ : Rho) (S : Sto) (t : T) (S' : Sto) (h : evE E (.cmp o a b) ρ S = some (.ok t S')) : ∃ k, t = .bl k := by
  simp only [evE] at h
  cases e1 : evE E a ρ S with
  | none => rw [e1] at h; cases h
  | some r1 =>
    rw [e1] at h
    cases r1 with
    | ex c p S1 => cases h
    | ok x S1 =>
      have h : bnd (evE E b ρ S1) (fun y S2 => liftB (cop S2 o x y) S2) = some (.ok t S') := h
      cases e2 : evE E b ρ S1 with
      | none => rw [e2] at h; cases h
      | some r2 =>
        rw [e2] at h
        cases r2 with
        | ex c p S2 => cases h
        | ok y S2 =>
          have h : liftB (cop S2 o x y) S2 = some (.ok t S') := h
          simp only [liftB] at h
          split at h
          · simp only [Option.some.injEq, Out.ok.injEq] at h
            exact ⟨_, h.1.symm⟩
          · cases h
theorem chn_bl {o o' : CmpOp} {a b c : IE} (ρ : Rho) (S : Sto) (t : T) (S' : Sto) (h : evE E (.chn o o' a b c) ρ S = some (.ok t S')) : ∃ k, t = .bl k := by
  simp only [evE] at h
  cases e1 : evE E a ρ S with
  | none => rw [e1] at h; cases h
  | some r1 =>
    rw [e1] at h
    cases r1 with
    | ex c p S1 => cases h
    | ok x S1 =>
      simp only [bnd] at h
      cases e2 : evE E b ρ S1 with
      | none => rw [e2] at h; cases h
      | some r2 =>
        rw [e2] at h
        cases r2 with
        | ex c p S2 => cases h
        | ok y S2 =>
          simp only at h
          split at h
          · cases e3 : evE E c ρ S2 with
            | none => rw [e3] at h; cases h
            | some r3 =>
              rw [e3] at h
              cases r3 with
              | ex c p S3 => cases h
              | ok z S3 =>
                simp only [liftB] at h
                split at h
                · simp only [Option.some.injEq, Out.ok.injEq] at h
                  exact ⟨_, h.1.symm⟩
                · cases h
          · simp only [Option.some.injEq, Out.ok.injEq] at h
            exact ⟨_, h.1.symm⟩
          · cases h
theorem pt_cm {o : CmpOp} {a b : IE} {x y : Expr} {p : Pos} (xo : XOk G g E W X) (ha : PE X x (tE g W (evE E a))) (hb : PE X y (tE g W (evE E b))) (hs : noSet y = true) : PT X (.Compare x [o] [y] p) (tT g W (evE E (.cmp o a b))) := by
  refine (pt_cmpR (op_cx xo.K xo.pr xo.wd xo.un o) ha hb (noset_mark hs)).of fun σ H Q h => ?_
  obtain ⟨fb, m, ρ, S, o', rs, e, Gd⟩ := tT_bool h cmp_bl
  simp only [evE] at e
  refine tE_bnd e rs Gd fun t S1 v m1 H1 e1 x1 rs1 r1 Gd1 => ?_
  refine tE_bnd e1 rs1 Gd1 fun u S2 w m2 H2 e2 x2 rs2 r2 Gd2 => ?_
  simp only [liftB] at e2
  split at e2
  · rename_i z hz
    simp only [Option.some.injEq] at e2
    subst e2
    exact ⟨fb, W, m2, σ, S2, _, _, z, rs2.sto, Rep.mono x2 _ r1, r2, hz, Gd2⟩
  · cases e2
end
end Fw

/-! t[::-1] -/
namespace HT
open PySem PyProof.Rows L2
section
variable {prog : Program} {w : World} {A : Around} {E : Value → Shared → Prop} {s : Shared}
theorem sliceApplied_rev {sl : Addr} {vs : Value} {n : Nat} {Q : Int × Int × Nat → Shared → Prop} (hs : s.heap.IsSliceOf sl .none .none vs) (ps : IsPart vs (some (-1)))
    (h : Q ((n : Int) - 1, -1, n) s) : wpAny (model prog w) A (Builtin.Slice.sliceApplied (.ref sl) (pure (n : Int))) Q E s := by
  obtain ⟨os, hos, hcs, hds⟩ := id hs
  unfold Builtin.Slice.sliceApplied Builtin.Slice.sliceFields
  refine wpAny_bind (wpAny_bind (wpAny_field hos hds (x := .none) rfl (wpAny_bind (wpAny_field hos hds (x := .none) rfl (wpAny_bind (wpAny_field hos hds (x := vs) rfl (wpAny_pure ?_)))))))
  refine wpAny_bind (slicePart_ ps ?_)
  show wpAny _ _ (if ((-1 : Int) == 0) = true then _ else _) _ _ s
  rw [if_neg (by decide)]
  refine wpAny_bind (slicePart_none (wpAny_bind (slicePart_none (wpAny_bind (wpAny_pure ?_)))))
  show wpAny _ _ (pure ((n : Int) - 1, (-1 : Int), Builtin.Slice.slicePlaces ((n : Int) - 1) (-1) (-1))) _ _ s
  have e : Builtin.Slice.slicePlaces ((n : Int) - 1) (-1) (-1) = n := by
    unfold Builtin.Slice.slicePlaces
    have h1 : ¬ ((-1 : Int) > 0) := by omega
    simp only [h1, if_false]
    have h2 : -(-1 : Int) = 1 := rfl
    rw [h2, Int.ediv_one]
    split <;> omega
  rw [e]
  exact wpAny_pure h
theorem fm_congr {α β : Type} {f g : α → Option β} : ∀ (l : List α), (∀ m ∈ l, f m = g m) → l.filterMap f = l.filterMap g
  | [], _ => rfl
  | a :: r, h => by
    rw [List.filterMap_cons, List.filterMap_cons, h a List.mem_cons_self, fm_congr r fun m hm => h m (List.mem_cons_of_mem _ hm)]
theorem pick_rev (xs : Array Value) : ((List.range xs.size).filterMap fun (m : Nat) => xs[(((xs.size : Int) - 1) + (m : Int) * (-1)).toNat]?).toArray = xs.toList.reverse.toArray := by
  congr 1
  have e := fm_congr (f := fun (m : Nat) => xs[(((xs.size : Int) - 1) + (m : Int) * (-1)).toNat]?) (g := fun (m : Nat) => xs.reverse[m]?) (List.range xs.size) fun m hm => by
    have hm' : m < xs.size := List.mem_range.mp hm
    have : (((xs.size : Int) - 1) + (m : Int) * (-1)).toNat = xs.size - 1 - m := by omega
    rw [this]
    rw [Array.getElem?_reverse hm']
  rw [e]
  have := PySem.W.krv_all xs.reverse
  rw [Array.size_reverse] at this
  rw [this]
  simp
theorem getItem_tuple_rev {t sl : Addr} {items : Array Value} {vs : Value} {Q : Value → Shared → Prop} (ht : IsTup s.heap t items) (hs : s.heap.IsSliceOf sl .none .none vs) (ps : IsPart vs (some (-1)))
    (h : Q (.ref s.heap.objs.size) { s with heap := s.heap.push { cls := .type "tuple", data := .seq items.toList.reverse.toArray } })
    (hsz : items.size ≤ sizeLine) : wpAny (model prog w) A (getItem (.ref t) (.ref sl)) Q E s := by
  have htake : sizeOk (.seq items.toList.reverse.toArray) := by
    show items.toList.reverse.toArray.size ≤ sizeLine
    rw [List.size_toArray, List.length_reverse, Array.length_toList]
    exact hsz
  obtain ⟨os, hos, hcs, hds⟩ := id hs
  have hTs : s.TypeIs (.ref sl) "slice" := ⟨os, hos, hcs⟩
  unfold getItem
  try with_reducible refine wpAny_holding ?_
  first | refine wpAny_bind (wpAny_pure ?_) | skip
  refine wpAny_bind (wpAny_sequenceKey ht.typeIs (by decide) ?_)
  refine wpAny_bind (wpAny_callSpecial?_slot (name := Str.ofString "__getitem__") ht.typeIs PyProof.Rows.slot_tuple_getitem
    (wpAny_call_entry PyProof.Rows.slot_tuple_getitem ht.typeIs entry_tuple_getitem ?_ (args_tuple_getitem _ _)))
  show wpAny _ _ (Builtin.Tuple.tupleItemsOf (.ref t) >>= _) _ _ s
  refine wpAny_bind (tupleItemsOf_ ht ?_)
  refine wpAny_bind (wpAny_typeOf hTs ?_)
  rw [if_pos (by decide)]
  refine wpAny_bind (sliceApplied_rev hs ps ?_)
  have hno : ¬ ((((items.size : Int) - 1) == 0 && (-1 : Int) == 1 && items.size == items.size) = true) := by
    intro q
    rw [Bool.and_eq_true, Bool.and_eq_true] at q
    exact absurd q.1.2 (by decide)
  show wpAny _ _ (if (((items.size : Int) - 1) == 0 && (-1 : Int) == 1 && items.size == items.size) = true then _ else _) _ _ s
  rw [if_neg hno, pick_rev]
  first
    | exact wpAny_bind (m := Builtin.Tuple.tupleExact _) (wpAny_newObj_type (wpAny_pure ⟨_, rfl, wpAny_pure h⟩) htake)
    | exact wpAny_bind (m := Builtin.Tuple.tupleExact _) (wpAny_newObj_type (wpAny_bind (wpAny_pure (wpAny_pure ⟨_, rfl, wpAny_pure h⟩))) htake)
    | exact wpAny_bind (wpAny_bind (m := Builtin.Tuple.tupleExact _) (wpAny_newObj_type (wpAny_pure (wpAny_pure ⟨_, rfl, wpAny_pure h⟩)) htake))
    | exact wpAny_bind (wpAny_bind (m := Builtin.Tuple.tupleExact _) (wpAny_newObj_type (wpAny_pure ⟨_, rfl, wpAny_pure h⟩) htake))
end
end HT

namespace L2
open PySem PySem.Spec PyProof.Rows
section
variable {X : Cx}
/-- xs[::-1], t[::-1] -/
def tRevA (K : PySem.W.Frag) (te : TE) : TE := fun σ H Q => te σ H fun x H1 => ∃ a xs, x = .ref a ∧
  ((SqL K H1 a xs ∧ ∀ p, H1 p = none → Q (.ref p) (upd H1 p (.lst xs.reverse))) ∨ (SqT K H1 a xs ∧ ∀ p, H1 p = none → Q (.ref p) (upd H1 p (.tup xs.reverse))))
theorem pe_revA {e : Expr} {te : TE} {k : Nat} {p1 p2 p3 pos : Pos} (he : PE X e te) : PE X (.Subscript e (.Slice none none (some (.UnaryOp .USub (.Constant (.int 1) k p1) p2)) p3) pos) (tRevA X.K te) := by
  refine ⟨fun pins s σ H Q I h => ?_⟩
  refine Subscript_ (thn (he.run pins s σ H _ I h) fun v s1 ⟨x, H1, I1, r1, q1⟩ => ?_)
  obtain ⟨a, xs, ex, q⟩ := q1
  subst ex
  cases r1
  have hst : PO X (some (.UnaryOp .USub (.Constant (.int 1) k p1) p2)) (tPart (tUn (rU fun i => .int (-i)) (tC (.int 1)))) := po_some (pe_un un_neg pe_int)
  have hno : ∀ {s : Shared} {Q : Value → Shared → Prop}, Inv X pins σ H1 s → (∀ s', Inv X pins σ H1 s' → Q .none s') → wpAny (model X.prog X.w) X.A (valueOrNone (evalOpt none X.env)) Q X.xe s := fun {s Q} I h => by
    show wpAny _ _ (pure Value.none) _ _ _
    exact wpAny_pure (h s I)
  refine wpAny_Slice (hno I1 fun s2 I2 => hno I2 fun s3 I3 => ?_)
  refine thn (hst.run pins s3 σ H1 (fun o H4 => o = some (-1) ∧ H4 = H1) I3 ⟨1, rfl, -1, rfl, rfl, rfl⟩) fun vs s4 ⟨o, H4, I4, ps, eo, e4⟩ => ?_
  subst eo
  rw [e4] at I4
  have I5 : Inv X pins σ H1 { s4 with heap := s4.heap.push { cls := .type "slice", data := .fields #[.none, .none, vs] } } := I4.kept (t' := s4.toks) fun b ob q => Heap.get?_push_of_some _ q
  show wpAny (model X.prog X.w) X.A (subscriptTail e (.Slice none none (some (.UnaryOp .USub (.Constant (.int 1) k p1) p2)) p3) (.ref a) (.ref s4.heap.objs.size)) (EP X pins σ Q) X.xe { s4 with heap := s4.heap.push { cls := .type "slice", data := .fields #[.none, .none, vs] } }
  rcases q with ⟨hx, q⟩ | ⟨hx, q⟩
  · obtain ⟨its, r, ht, hz⟩ := I5.list hx
    have hlen := r.length
    refine tail_any (ops := [.ref a, .ref s4.heap.objs.size]) ht.isList.typeIs (PySem.slot_list_getitem.lookup) ?_ (by with_unfolding_all rfl)
    refine wpAny_getItem_list_slice ht.isList (Heap.IsSliceOf.new _ .none .none vs) .none .none ps (by decide) ?_ (by rw [List.size_toArray]; omega)
    rw [PySem.W.krv_pick]
    refine ⟨.ref _, _, I5.laid (t' := s4.toks) (o := .lst xs.reverse) (fun b ob q => Heap.get?_push_of_some _ q) (Nat.le_refl _) ?_, rfl, q _ (I5.hok.fresh (Nat.le_refl _))⟩
    exact ⟨by rw [List.length_reverse]; exact hz, _, 0, r.reverse, Heap.get?_push_size _ rfl⟩
  · obtain ⟨its, r, ht, hz⟩ := I5.tuple hx
    have hlen := r.length
    refine tail_any (ops := [.ref a, .ref s4.heap.objs.size]) ht.typeIs (PyProof.Rows.slot_tuple_getitem.lookup) ?_ (by with_unfolding_all rfl)
    refine HT.getItem_tuple_rev ht (Heap.IsSliceOf.new _ .none .none vs) ps ?_ (by rw [List.size_toArray]; omega)
    refine ⟨.ref _, _, I5.laid (t' := s4.toks) (o := .tup xs.reverse) (fun b ob q => Heap.get?_push_of_some _ q) (Nat.le_refl _) ?_, rfl, q _ (I5.hok.fresh (Nat.le_refl _))⟩
    exact ⟨by rw [List.length_reverse]; exact hz, _, r.reverse, _, Heap.get?_push_size _ rfl, rfl, 0, rfl⟩
end
end L2

namespace Fw
open PySem L2 PyProof.Rows

section
variable {G : Gm} {g : GW} {E : EV} {W : WX} {X : Cx}

/-! subscripts, slices -/
theorem vIx_eq {e x y : Expr} (h : vIx e = some (x, y)) : ∃ p, e = .Subscript x y p ∧ PlainIx y := by
  cases e with
  | Subscript a b p =>
    cases b <;> simp [vIx] at h
    all_goals
      obtain ⟨rfl, rfl⟩ := h
      exact ⟨p, rfl, fun _ _ => rfl⟩
  | _ => simp [vIx] at h
theorem pe_i {a b : IE} {e x y : Expr} (xo : XOk G g E W X) (hv : vIx e = some (x, y)) (ha : PE X x (tE g W (evE E a))) (hb : PE X y (tE g W (evE E b))) : PE X e (tE g W (evE E (.ix a b))) := by
  obtain ⟨p, rfl, hp⟩ := vIx_eq hv
  refine (pe_ix (ix_x xo.K xo.pr xo.wd xo.un) ha hb hp).of fun σ H Q ⟨fb, m, ρ, S, o', rs, e, Gd⟩ => ?_
  simp only [evE] at e
  refine tE_bnd e rs Gd fun t S1 v m1 H1 e1 x1 rs1 r1 Gd1 => ?_
  refine tE_bnd e1 rs1 Gd1 fun u S2 w m2 H2 e2 x2 rs2 r2 Gd2 => ?_
  simp only [lift] at e2
  split at e2
  · rename_i z hz
    simp only [Option.some.injEq] at e2
    subst e2
    have Gd3 : GoodE (g.w fb) W m2 σ H2 Q (.ok z S2) := by
      cases z <;> exact Gd2
    exact ⟨fb, W, m2, σ, S2, _, _, z, rs2.sto, Rep.mono x2 _ r1, r2, hz, Gd3⟩
  · cases e2

theorem po_of {a : IE} {o : Option Expr} (hc : o = none → isNil a = true) (hs : ∀ e, o = some e → isNil a = false ∧ PE X e (tE g W (evE E a))) : PO X o (tO g W (isNil a) (evE E a)) := by
  cases o with
  | none =>
    have hn := hc rfl
    cases a <;> simp [isNil] at hn
    refine ⟨fun pins s σ H Q I q => ?_⟩
    refine po_none.run pins s σ H Q I ?_
    obtain ⟨fb, m, ρ, S, o', rs, e, Gd⟩ := q
    simp only [evE, Option.some.injEq] at e
    subst e
    obtain ⟨i, ei, k⟩ := Gd
    simp only [part, isNil, if_true, Option.some.injEq] at ei
    subst ei
    exact k m H (Ext.refl _ _) rs.sto
  | some e =>
    obtain ⟨hn, h⟩ := hs e rfl
    refine ⟨fun pins s σ H Q I q => ?_⟩
    refine (po_some h).run pins s σ H Q I ?_
    obtain ⟨fb, m, ρ, S, o', rs, e, Gd⟩ := q
    refine ⟨fb, m, ρ, S, o', rs, e, ?_⟩
    cases o' with
    | ex c p S' => exact Gd
    | ok t S' =>
      obtain ⟨i, ei, k⟩ := Gd
      intro v m' H' x sr r
      rw [hn] at ei
      simp only [part, Bool.false_eq_true, if_false] at ei
      split at ei
      · rename_i j
        simp only [Option.some.injEq] at ei
        subst ei
        exact ⟨j, RepD.int (RepD.of r), k m' H' x sr⟩
      · cases ei
theorem vSl_eq {e x : Expr} {l h : Option Expr} (q : vSl e = some (x, l, h)) : ∃ p p2, e = .Subscript x (.Slice l h none p2) p := by
  unfold vSl at q
  split at q
  · simp only [Option.some.injEq, Prod.mk.injEq] at q
    obtain ⟨rfl, rfl, rfl⟩ := q
    exact ⟨_, _, rfl⟩
  · cases q
theorem tO_part {nl : Bool} {fb : List Addr} {f : Rho → Sto → Res} {k : T → Sto → Res} {m : List Addr} {σ : L2.St} {H : Hp} {ρ : Rho} {S : Sto} {o : Out} {Q : VK} {R : Option Int → Hp → Prop}
    (h : bnd (f ρ S) k = some o) (rs : RS (g.w fb) m σ H ρ S) (G : GoodE (g.w fb) W m σ H Q o) (hp : ∀ t S1, k t S1 = some o → ∃ i, part nl t = some i)
    (hb : ∀ t S1 i m1 H1, k t S1 = some o → part nl t = some i → Ext m H m1 H1 → RS (g.w fb) m1 σ H1 ρ S1 → GoodE (g.w fb) W m1 σ H1 Q o → R i H1) : tO g W nl f σ H R := by
  cases e : f ρ S with
  | none => rw [e] at h; cases h
  | some r =>
    rw [e] at h
    refine ⟨fb, m, ρ, S, r, rs, e, ?_⟩
    cases r with
    | ok t S1 =>
      obtain ⟨i, ei⟩ := hp t S1 h
      exact ⟨i, ei, fun m1 H1 x sr => hb t S1 i m1 H1 h ei x ⟨rs.env.mono x, sr⟩ (G.ext x)⟩
    | ex c p S1 =>
      have : o = .ex c p S1 := (Option.some.inj h).symm
      subst this
      exact G
theorem pe_s {bx : Bool} {a lo hi : IE} {e x : Expr} {l h : Option Expr} (xo : XOk G g E W X) (hv : vSl e = some (x, l, h)) (ha : PE X x (tE g W (evE E a))) (hl : PO X l (tO g W (isNil lo) (evE E lo))) (hh : PO X h (tO g W (isNil hi) (evE E hi))) :
    PE X e (tE g W (evE E (.sl bx a lo hi))) := by
  obtain ⟨p, p2, rfl⟩ := vSl_eq hv
  refine (pe_slice (sl_x xo.K) ha hl hh).of fun σ H Q ⟨fb, m, ρ, S, o', rs, e, Gd⟩ => ?_
  simp only [evE] at e
  refine tE_bnd e rs Gd fun t S1 v m1 H1 e1 x1 rs1 r1 Gd1 => ?_
  refine tO_part e1 rs1 Gd1 (fun tl S2 q => ?_) fun tl S2 i m2 H2 q ei x2 rs2 Gd2 => ?_
  · split at q
    · rename_i i hi; exact ⟨i, hi⟩
    · cases q
  · rw [ei] at q
    refine tO_part q rs2 Gd2 (fun th S3 q3 => ?_) fun th S3 j m3 H3 q3 ej x3 rs3 Gd3 => ?_
    · split at q3
      · rename_i i hi; exact ⟨i, hi⟩
      · cases q3
    · rw [ej] at q3
      simp only [lift] at q3
      split at q3
      · rename_i z hz
        simp only [Option.some.injEq] at q3
        subst q3
        exact ⟨fb, W, m3, σ, S3, bx, t, z, rs3.sto, Rep.mono x3 _ (Rep.mono x2 _ r1), hz, Gd3⟩
      · cases q3

theorem vRev_eq {e x : Expr} (h : vRev e = some x) : ∃ k p1 p2 p3 p, e = .Subscript x (.Slice none none (some (.UnaryOp .USub (.Constant (.int 1) k p1) p2)) p3) p := by
  unfold vRev at h
  split at h
  · simp only [Option.some.injEq] at h
    subst h
    exact ⟨_, _, _, _, _, rfl⟩
  · cases h
theorem pe_r {bx : Bool} {a : IE} {e x : Expr} (xo : XOk G g E W X) (hv : vRev e = some x) (ha : PE X x (tE g W (evE E a))) : PE X e (tE g W (evE E (.rev bx a))) := by
  obtain ⟨k, p1, p2, p3, p, rfl⟩ := vRev_eq hv
  refine (pe_revA ha).of fun σ H Q ⟨fb, m, ρ, S, o', rs, e, Gd⟩ => ?_
  simp only [evE] at e
  refine tE_bnd e rs Gd fun t S1 v m1 H1 e1 x1 rs1 r1 Gd1 => ?_
  simp only [lift] at e1
  split at e1
  · rename_i z hz
    simp only [Option.some.injEq] at e1
    subst e1
    have rd := RepD.drf rs1.sto r1
    unfold revT at hz
    split at hz
    · rename_i l hl
      rw [hl] at rd
      obtain ⟨a', vs, rfl, q1, l1⟩ := RepD.tup rd
      simp only [Option.some.injEq] at hz; subst hz
      have q1 : SqT g.K H1 a' vs := q1
      rw [← xo.K] at q1
      exact ⟨a', vs, rfl, .inr ⟨q1, fin_tup Gd1 rs1.sto l1.reverse⟩⟩
    · rename_i l hl
      rw [hl] at rd
      obtain ⟨a', vs, rfl, q1, l1⟩ := RepD.lst rd
      simp only [Option.some.injEq] at hz; subst hz
      exact ⟨a', vs, rfl, .inl ⟨SqL.of q1, fin_lst Gd1 rs1.sto l1.reverse⟩⟩
    · cases hz
  · cases e1

/-! calls -/
theorem vCall_eq {e : Expr} {x : Str} {r : List Expr} (h : vCall e = some (x, r)) : ∃ p q a es, e = .Call (.Name x p) (a :: es) [] q ∧ r = a :: es := by
  unfold vCall at h
  split at h
  · simp only [Option.some.injEq, Prod.mk.injEq] at h
    obtain ⟨rfl, rfl⟩ := h
    exact ⟨_, _, _, _, rfl, rfl⟩
  · cases h
theorem star_tail {es : IE} {a : Expr} {r : List Expr} (G : Gm) (env : Env) (pos : Pos) (h : chkA G es (a :: r) = true) : starEach (a :: r) env = (false, eval a env) :: starEach r env ∧ (backTo pos (starEach r env)).any (·.1) = false := by
  cases es <;> simp only [chkA] at h <;> try (cases h; done)
  simp only [Bool.and_eq_true] at h
  exact ⟨starEach_cons h.2.1, star_none (E := .nil) G _ r env pos h.2.2⟩
theorem goodC {m : List Addr} {σ : L2.St} {H : Hp} {Q : VK} {o : Out} (h : GoodE g W m σ H Q o) : GoodC g m H Q (WE W σ) o := by
  cases o with
  | ok t S => exact h
  | ex c p S => exact h
theorem pe_cg {c : Nat → List T → Sto → Res} {f : Nat} {es : IE} {e : Expr} {x : Str} {r : List Expr} (xo : XOk G g E W X) (hv : vCall e = some (x, r)) (hn : CallOk X g c f ∧ X.mg x = some (.ref (g.fa f))) (hg : glb G x = true) (hc : chkA G es r = true) (ha : PA X r (tA g W (evE E es))) : PE X e (tE g W fun ρ S => bnd (evE E es ρ S) fun x S1 => tups x fun l => c f l S1) := by
  obtain ⟨p, q, a, es', rfl, rfl⟩ := vCall_eq hv
  obtain ⟨gl, db⟩ := glb_gl xo hg
  obtain ⟨⟨k, fd, ps, F, hr, hk, hb, hlen⟩, hm⟩ := hn
  obtain ⟨h1, h2⟩ := star_tail G X.env q hc
  refine (pe_callS F hr gl hm hk hb (fun σ => passAt xo.tk σ) ha db h1 h2).of fun σ H Q ⟨fb, m, ρ, S, o', rs, e, Gd⟩ => ?_
  refine tA_of (k := fun l S1 => c f l S1) e rs Gd fun l S1 vs m1 H1 ek x rs1 rp Gd1 => ?_
  exact ⟨by rw [← rp.length]; exact hlen _ _ _ ek, fb, m1, S1, l, o', rp, rs1.sto, ek, goodC Gd1⟩
theorem pe_ca {f : Nat} {es : IE} {e : Expr} {x : Str} {r : List Expr} (xo : XOk G g E W X) (hv : vCall e = some (x, r)) (hn : G.fname f = some x) (hg : glb G x = true) (hc : chkA G es r = true) (ha : PA X r (tA g W (evE E es))) : PE X e (tE g W (evE E (.call f es))) := pe_cg xo hv (xo.call f x hn) hg hc ha
theorem pe_cal {f : Nat} {es : IE} {e : Expr} {x : Str} {r : List Expr} (xo : XOk G g E W X) (hv : vCall e = some (x, r)) (hn : G.fnameL f = some x) (hg : glb G x = true) (hc : chkA G es r = true) (ha : PA X r (tA g W (evE E es))) : PE X e (tE g W (evE E (.callL f es))) := pe_cg xo hv (xo.callL f x hn) hg hc ha
theorem vCall0_eq {e : Expr} {x : Str} (h : vCall0 e = some x) : ∃ p q, e = .Call (.Name x p) [] [] q := by
  unfold vCall0 at h
  split at h
  · simp only [Option.some.injEq] at h
    subst h
    exact ⟨_, _, rfl⟩
  · cases h
theorem pe_ca0 {f : Nat} {e : Expr} {x : Str} (xo : XOk G g E W X) (hv : vCall0 e = some x) (hn : G.fname f = some x) (hg : glb G x = true) : PE X e (tE g W (evE E (.call0 f))) := by
  obtain ⟨p, q, rfl⟩ := vCall0_eq hv
  obtain ⟨gl, db⟩ := glb_gl xo hg
  obtain ⟨⟨k, fd, ps, F, hr, hk, hb, hlen⟩, hm⟩ := xo.call f x hn
  refine ⟨fun pins s σ H Q I ⟨fb, m, ρ, S, o', rs, e, Gd⟩ => ?_⟩
  have rd := (pe_glob (X := X) (pos := p) (v := .ref (g.fa f)) gl hm rfl db).run pins s σ H (fun z Hz => z = .ref (g.fa f) ∧ Hz = H) I ⟨rfl, rfl⟩
  refine wpAny_Call_Name_kw (thn rd fun uf sf ⟨vf, Hf, If, rf, ef, eH⟩ => ?_)
  subst ef; subst eH
  cases rf
  simp only [evE] at e
  refine PySem.W.callWith_K0 If.kIn hk (run_fnS F hr hb (passAt xo.tk σ) If .nil ⟨?_, fb, m, S, [], o', RepL.nil, rs.sto, e, goodC Gd⟩)
  have := hlen [] S o' e
  simpa using this
/-- a local that holds a def -/
theorem pe_cv {c : Nat → List T → Sto → Res} {i : Nat} {es : IE} {e : Expr} {x : Str} {r : List Expr} (xo : XOk G g E W X) (hv : vCall e = some (x, r)) (hn : ∀ f ts S o, c f ts S = some o → CallOk X g c f) (hN : G.N[i]? = some x) (hvis : visB G.sc x = true) (hd : dbg x = true) (hc : chkA G es r = true) (ha : PA X r (tA g W (evE E es))) :
    PE X e (tE g W fun ρ S => (match ρ[i]? with | some (some (.fn f)) => (match evE E es ρ S with | some (.ok (.tup l) S1) => c f l S1 | _ => none) | _ => none)) := by
  obtain ⟨p, q, a, es', rfl, rfl⟩ := vCall_eq hv
  obtain ⟨h1, h2⟩ := star_tail G X.env q hc
  refine ⟨fun pins s σ H Q I ⟨fb, m, ρ, S, o', rs, e, Gd⟩ => ?_⟩
  simp only at e
  split at e
  · rename_i f hf
    split at e
    · rename_i l S1 hl
      obtain ⟨k, fd, ps, F, hr, hk, hb, hlen⟩ := hn _ _ _ _ e
      simp only [dbg, Bool.and_eq_true, Bool.not_eq_true'] at hd
      have hv' : Vis X.env.scope x := by
        simp only [visB, isKind, Bool.or_eq_true, decide_eq_true_eq] at hvis
        rw [← xo.sc] at hvis
        rcases hvis with (h | h) | h
        · exact .inl h
        · exact .inr (.inl h)
        · exact .inr (.inr h)
      obtain ⟨vf, q1, q2⟩ := rs.env.2 i _ hf
      simp only [Rep] at q2
      subst q2
      have rd := (pe_var (X := X) (pos := p) (i := i) (by rw [xo.N]; exact hN) hv' hd.1 hd.2).run pins s σ H (fun z Hz => z = .ref (g.fa f) ∧ Hz = H) I ⟨_, q1, rfl, rfl⟩
      refine wpAny_Call_Name_kw (thn rd fun uf sf ⟨vf, Hf, If, rf, ef, eH⟩ => ?_)
      subst ef; subst eH
      cases rf
      have args : tA g W (evE E es) σ Hf fun vs H1 => spF g c f ps.length vs H1 Q (WE W σ) := by
        refine ⟨fb, m, ρ, S, _, rs, hl, fun vs m1 H1 x1 sr rp => ?_⟩
        exact ⟨by rw [← rp.length]; exact hlen _ _ _ e, fb, m1, S1, l, o', rp, sr, e, goodC (Gd.ext x1)⟩
      refine PySem.W.callWith_K (h₀ := X.base) If.ok.mod.kin hk (thn (ha.run q pins sf σ Hf _ If args) fun ua sa ⟨va, Ha, Ia, ra, qa⟩ => ⟨Ia.kIn, run_fnS F hr hb (passAt xo.tk σ) Ia ra qa⟩) h1 h2
    · cases e
  · cases e

theorem boot_bl (b : Bl) : bootBuiltins b.nm = some b.val := by cases b <;> decide +kernel
theorem bltB_gl (xo : XOk G g E W X) {x : Str} (h : bltB G x = true) : Gl X x ∧ (x == ("__debug__" : Str)) = false ∧ X.mg x = none ∧ x ≠ "__name__" := by
  simp only [bltB, Bool.and_eq_true, Bool.not_eq_true'] at h
  obtain ⟨⟨h1, h2⟩, h3⟩ := h
  obtain ⟨gl, db⟩ := glb_gl xo h1
  refine ⟨gl, db, xo.blt x (by simpa using h2), fun z => ?_⟩
  rw [z] at h3
  simp at h3
theorem Bl.cases (b : Bl) : (∃ id, b.val = .builtin id) ∨ ∃ T, b.val = .type T := by
  cases b <;> first | exact .inl ⟨_, rfl⟩ | exact .inr ⟨_, rfl⟩
theorem pe_bl_ {bx : Bool} {b : Bl} {es : IE} {e : Expr} {x : Str} {r : List Expr} (xo : XOk G g E W X) (hv : vCall e = some (x, r)) (hn : b.nm = x) (hg : bltB G x = true) (hc : chkA G es r = true) (ha : PA X r (tA g W (evE E es))) : PE X e (tE g W (evE E (.blt bx b es))) := by
  obtain ⟨p, q, a, es', rfl, rfl⟩ := vCall_eq hv
  obtain ⟨gl, db, hm, nn⟩ := bltB_gl xo hg
  obtain ⟨h1, h2⟩ := star_tail G X.env q hc
  have hv : bootBuiltins x = some b.val := by rw [← hn]; exact boot_bl b
  have fin : ∀ σ H Q, tE g W (evE E (.blt bx b es)) σ H Q → tCB (rBlx g b) (tA g W (evE E es)) σ H Q := fun σ H Q ⟨fb, m, ρ, S, o', rs, e, Gd⟩ => by
    simp only [evE] at e
    refine tA_of (k := fun l S1 => lift bx (bltT S1 b l) S1) e rs Gd fun l S1 vs m1 H1 ek x rs1 rp Gd1 => ?_
    simp only [lift] at ek
    split at ek
    · rename_i z hz
      simp only [Option.some.injEq] at ek
      subst ek
      exact ⟨fb, W, m1, σ, S1, bx, l, z, rs1.sto, rp, hz, Gd1⟩
    · cases ek
  have hcall := call_bltx (X := X) xo.K xo.calm b
  rcases b.cases with ⟨id, hid⟩ | ⟨T, hT⟩
  · rw [hid] at hcall hv
    exact (pe_callB hcall gl hm hv ha nn db h1 h2).of fin
  · rw [hT] at hcall hv
    exact (pe_callTy hcall gl hm hv ha nn db h1 h2).of fin

theorem kit_all {a ty : String} (ha : a ∈ ["NoneType", "bool", "int", "str", "tuple", "list"]) (ht : ty ∈ ["int", "bool", "str", "tuple", "list"]) : kitB a ty = some (a == ty || (a == "bool" && ty == "int")) := by
  have h : ∀ a ∈ ["NoneType", "bool", "int", "str", "tuple", "list"], ∀ ty ∈ ["int", "bool", "str", "tuple", "list"], kitB a ty = some (a == ty || (a == "bool" && ty == "int")) := by decide +kernel
  exact h a ha ty ht
theorem boot_ty {ty : String} (ht : ty ∈ ["int", "bool", "str", "tuple", "list"]) : bootBuiltins (Str.ofString ty) = some (.type ty) := by
  have h : ∀ ty ∈ ["int", "bool", "str", "tuple", "list"], bootBuiltins (Str.ofString ty) = some (.type ty) := by decide +kernel
  exact h ty ht
theorem pe_is {a : IE} {ty : String} {e y z : Expr} {x w : Str} (xo : XOk G g E W X) (hv : vCall e = some (x, [y, z])) (hw : vName z = some w) (hx : x = "isinstance") (hwt : w = Str.ofString ty) (hg : bltB G x = true) (hg2 : bltB G w = true)
    (ht : ty ∈ ["int", "bool", "str", "tuple", "list"]) (ha : PE X y (tE g W (evE E a))) (hs : noStar y = true) : PE X e (tE g W (evE E (.isi a ty))) := by
  obtain ⟨p, q, a', es', rfl, hr⟩ := vCall_eq hv
  cases hr
  obtain ⟨p2, rfl⟩ := vName_eq hw
  obtain ⟨gl, db, hm, nn⟩ := bltB_gl xo hg
  obtain ⟨gl2, db2, hm2, nn2⟩ := bltB_gl xo hg2
  have hb : bootBuiltins x = some (.builtin "isinstance") := by rw [hx]; decide +kernel
  have hb2 : bootBuiltins w = some (.type ty) := by rw [hwt]; exact boot_ty ht
  have ha2 : PE X (.Name w p2) (tC (.ty ty)) := pe_bltn gl2 hm2 hb2 rfl nn2 db2
  refine (pe_callB call_isi gl hm hb (pa_cons ha (pa_cons ha2 pa_nil rfl) (starEach_cons hs)) nn db (starEach_cons hs) rfl).of fun σ H Q ⟨fb, m, ρ, S, o', rs, e, Gd⟩ => ?_
  simp only [evE] at e
  refine tE_bnd e rs Gd fun t S1 v m1 H1 e1 x1 rs1 r1 Gd1 => ?_
  simp only [liftB, isiT] at e1
  split at e1
  · rename_i b hb'
    simp only [Option.some.injEq] at e1
    subst e1
    split at hb'
    · rename_i ta hta
      simp only [Option.some.injEq] at hb'
      have k := kit_all (tys hta) ht
      rw [hb'] at k
      exact ⟨v, .ty ty, .type ta, .type ty, b, rfl, .ty ty, ty_of (g := g.w fb) xo.K rs1.sto r1 hta, kit_ty k, fin_val Gd1 rs1.sto Rep.bl_⟩
    · cases hb'
  · cases e1

/-! methods of texts -/
theorem vMth_eq {e o : Expr} {n : Str} {r : List Expr} (h : vMth e = some (o, n, r)) : ∃ ap pos, e = .Call (.Attribute o n ap) r [] pos ∧ (ap.endLine == pos.line) = true := by
  unfold vMth at h
  split at h
  · split at h
    · rename_i q
      simp only [Option.some.injEq, Prod.mk.injEq] at h
      obtain ⟨rfl, rfl, rfl⟩ := h
      exact ⟨_, _, rfl, q⟩
    · cases h
  · cases h
theorem nosup {o : Expr} {n : Str} {env : Env} {wh : Sem Value} (h : noSup o = true) : attributeBase o n env wh = wh := by
  unfold attributeBase
  split
  · simp [noSup] at h
  · rfl
theorem pe_m0_ {m : Mt} {a : IE} {e o : Expr} {n : Str} (xo : XOk G g E W X) (hv : vMth e = some (o, n, [])) (hn : m.nm = n) (h0 : is0 m = true) (hs : noSup o = true) (ha : PE X o (tE g W (evE E a))) : PE X e (tE g W (evE E (.mt0 m a))) := by
  obtain ⟨ap, pos, rfl, hl⟩ := vMth_eq hv
  subst hn
  cases m with
  | upper =>
    refine (pe_upper ha (nosup hs) hl).of fun σ H Q ⟨fb, m, ρ, S, o', rs, e, Gd⟩ => ?_
    simp only [evE] at e
    refine tE_bnd e rs Gd fun t S1 v m1 H1 e1 x1 rs1 r1 Gd1 => ?_
    simp only [lift] at e1
    split at e1
    · rename_i z hz
      simp only [Option.some.injEq] at e1
      subst e1
      cases t <;> simp only [mt0T] at hz <;> try (cases hz; done)
      rename_i s
      split at hz
      · rename_i hl
        simp only [Option.some.injEq] at hz
        subst hz
        have := RepD.str (RepD.of r1)
        exact ⟨⟨s, this⟩, s, this, rfl, hl, fin_val (t := .str _) Gd1 rs1.sto Rep.str_⟩
      · cases hz
    · cases e1
  | _ => cases h0
theorem star1 {e : Expr} {env : Env} (h : noStar e = true) : starEach [e] env = [(false, eval e env)] := starEach_cons h
theorem pe_m1_ {m : Mt} {a b : IE} {e o y : Expr} {n : Str} (xo : XOk G g E W X) (hv : vMth e = some (o, n, [y])) (hn : m.nm = n) (h0 : is0 m = false) (hs : noSup o = true) (hy : noStar y = true) (ha : PE X o (tE g W (evE E a))) (hb : PE X y (tE g W (evE E b))) : PE X e (tE g W (evE E (.mt1 m a b))) := by
  obtain ⟨ap, pos, rfl, hl⟩ := vMth_eq hv
  subst hn
  cases m with
  | upper => cases h0
  | split =>
    refine (pe_split ha hb (star1 hy) (nosup hs) hl).of fun σ H Q ⟨fb, m, ρ, S, o', rs, e, Gd⟩ => ?_
    simp only [evE] at e
    refine tE_bnd e rs Gd fun t S1 v m1 H1 e1 x1 rs1 r1 Gd1 => ?_
    cases t <;> simp only [strT] at e1 <;> try (cases e1; done)
    rename_i s
    have hs' := RepD.str (RepD.of r1)
    refine ⟨⟨s, hs'⟩, tE_bnd e1 rs1 Gd1 fun u S2 w m2 H2 e2 x2 rs2 r2 Gd2 => ?_⟩
    simp only [lift] at e2
    split at e2
    · rename_i z hz
      simp only [Option.some.injEq] at e2
      subst e2
      simp only [mt1T] at hz
      cases u <;> simp only at hz <;> try (cases hz; done)
      rename_i b'
      split at hz
      · rename_i hl
        simp only [Option.some.injEq] at hz
        subst hz
        rw [line_eq] at hl
        have := RepD.str (RepD.of r2)
        exact ⟨s, b', hs', by rw [this], hl.1, hl.2, fin_lst Gd2 rs2.sto (rep_of_strs _)⟩
      · cases hz
    · cases e2
  | join =>
    refine (pe_join ha hb (star1 hy) (nosup hs) hl).of fun σ H Q ⟨fb, m, ρ, S, o', rs, e, Gd⟩ => ?_
    simp only [evE] at e
    refine tE_bnd e rs Gd fun t S1 v m1 H1 e1 x1 rs1 r1 Gd1 => ?_
    cases t <;> simp only [strT] at e1 <;> try (cases e1; done)
    rename_i s
    have hs' := RepD.str (RepD.of r1)
    refine ⟨⟨s, hs'⟩, tE_bnd e1 rs1 Gd1 fun u S2 w m2 H2 e2 x2 rs2 r2 Gd2 => ?_⟩
    simp only [lift] at e2
    split at e2
    · rename_i z hz
      simp only [Option.some.injEq] at e2
      subst e2
      simp only [mt1T] at hz
      have rd := RepD.drf rs2.sto r2
      split at hz
      · rename_i l hl
        rw [hl] at rd
        obtain ⟨a', vs, rfl, q1, l1⟩ := RepD.lst rd
        split at hz
        · rename_i ys hys
          split at hz
          · rename_i hz'
            simp only [Option.some.injEq] at hz
            subst hz
            have := rep_strs l1 hys
            subst this
            exact ⟨s, a', ys, hs', rfl, .inl (SqL.of q1), hz', fin_val (t := .str _) Gd2 rs2.sto Rep.str_⟩
          · cases hz
        · cases hz
      · rename_i l hl
        rw [hl] at rd
        obtain ⟨a', vs, rfl, q1, l1⟩ := RepD.tup rd
        split at hz
        · rename_i ys hys
          split at hz
          · rename_i hz'
            simp only [Option.some.injEq] at hz
            subst hz
            have := rep_strs l1 hys
            subst this
            have q1 : SqT g.K H2 a' (ys.map V.str) := q1
            rw [← xo.K] at q1
            exact ⟨s, a', ys, hs', rfl, .inr q1, hz', fin_val (t := .str _) Gd2 rs2.sto Rep.str_⟩
          · cases hz
        · cases hz
      · cases hz
    · cases e2
end
end Fw

namespace Fw
open PySem L2 PyProof.Rows
section
variable {X : Cx} {g : GW} {G : Gm} {E : EV} {W : WX}
theorem vAtt_eq {e o : Expr} {n : Str} (h : vAtt e = some (o, n)) : ∃ p, e = .Attribute o n p := by
  unfold vAtt at h
  split at h
  · simp only [Option.some.injEq, Prod.mk.injEq] at h
    obtain ⟨rfl, rfl⟩ := h
    exact ⟨_, rfl⟩
  · cases h
theorem pe_mkE_ {c : Nat} {a : IE} {e y : Expr} {x : Str} (xo : XOk G g E W X) (hv : vCall e = some (x, [y])) (hn : G.ename c = some x) (hf : G.exf c = none) (hg : glb G x = true) (hs : noStar y = true) (ha : PE X y (tE g W (evE E a))) : PE X e (tE g W (evE E (.mkE c a))) := by
  obtain ⟨p, q, a', es', rfl, hr⟩ := vCall_eq hv
  cases hr
  obtain ⟨gl, db⟩ := glb_gl xo hg
  obtain ⟨B, n1, n2, bm, F, hq, hm, hk⟩ := xo.errP c x hn hf
  refine (pe_exc1 F hq hm hk gl ha (starEach_cons hs) db).of fun σ H Q ⟨fb, m, ρ, S, o', rs, e, Gd⟩ => ?_
  simp only [evE] at e
  refine tE_bnd e rs Gd fun t S1 v m1 H1 e1 x1 rs1 r1 Gd1 => fun b hb => ?_
  simp only [Option.some.injEq] at e1
  subst e1
  refine Gd1 _ m1 _ (Ext.new hb) (rs1.sto.new hb) ?_
  simp only [Rep]
  exact ⟨b, rfl, rs1.sto.fresh hb, rs1.sto.freshF hb, .inl ⟨trivial, upd_same⟩⟩
theorem upd_over {H : Hp} {a d : Addr} {o1 o2 o3 : HO} : upd (upd (upd H a o1) d o2) a o3 = upd (upd H d o2) a o3 := by
  funext b
  by_cases h : b = a
  · rw [h, upd_same, upd_same]
  · rw [upd_ne h, upd_ne h]
    by_cases h2 : b = d
    · rw [h2, upd_same, upd_same]
    · rw [upd_ne h2, upd_ne h2, upd_ne h]
theorem takes_no' {X : Cx} : Takes X (fun _ _ _ _ => False) := fun _ _ ⟨_, _, _, _, _, _, _, _, _, _, _, _, _, _, _, _, w⟩ => w.elim
theorem pe_mkX_ {c : Nat} {f : Str} {a : IE} {e y : Expr} {x : Str} (xo : XOk G g E W X) (hv : vCall e = some (x, [y])) (hn : G.ename c = some x) (hf : G.exf c = some f) (hg : glb G x = true) (hs : noStar y = true) (ha : PE X y (tE g W (evE E a))) : PE X e (tE g W (evE E (.mkX c f a))) := by
  obtain ⟨p, q, a', es', rfl, hr⟩ := vCall_eq hv
  cases hr
  obtain ⟨gl, db⟩ := glb_gl xo hg
  obtain ⟨⟨T, hm, _, _, fI, fd, ps, iC, tI, hps, hb, F⟩, hroom⟩ := xo.errX c x f hn hf
  by_cases hdp : 2 ≤ E.dp
  · refine (pe_oexV T iC tI (F 0) (hroom hdp) hb (fun pins σ H s e s' I c => takes_no' e s' (XE.of_call I (fun _ _ _ h => h) c)) gl hm (pa_cons ha pa_nil (starEach_cons hs)) db (starEach_cons hs) rfl).of fun σ H Q ⟨fb, m, ρ, S, o', rs, e, Gd⟩ => ?_
    simp only [evE, if_pos hdp] at e
    refine tE_bnd e rs Gd fun t S1 v m1 H1 e1 x1 rs1 r1 Gd1 => ?_
    simp only [Option.some.injEq] at e1
    subst e1
    refine ⟨by simp, fun b hb => ⟨b, v, rfl, upd_same, fun dx hdx hne => ⟨rfl, ?_⟩⟩⟩
    rw [upd_over]
    rw [upd_ne hne] at hdx
    have hb' : upd H1 dx (exd dx [(f, v)]) b = none := by rw [upd_ne (Ne.symm hne)]; exact hb
    have x2 : Ext m1 H1 m1 (upd (upd H1 dx (exd dx [(f, v)])) b (exo b (g.ea c) (some dx))) := (Ext.new hdx).trans (Ext.new hb')
    refine Gd1 _ m1 _ x2 ((rs1.sto.new hdx).new hb') ?_
    simp only [Rep]
    refine ⟨b, rfl, rs1.sto.fresh hb, rs1.sto.freshF hb, .inr ⟨dx, v, upd_same, rs1.sto.fresh hdx, rs1.sto.freshF hdx, ?_, RepL.cons (Rep.mono x2 _ r1) RepL.nil⟩⟩
    rw [upd_ne hne, upd_same]
  · refine ⟨fun pins s σ H Q I ⟨fb, m, ρ, S, o', rs, e, Gd⟩ => ?_⟩
    simp only [evE, if_neg hdp] at e
    cases e
theorem pe_isx_ {a : IE} {e y z : Expr} {n x w : Str} {yes : List Bool} (xo : XOk G g E W X) (hv : vCall e = some (n, [y, z])) (hw : vName z = some w) (hx : n = "isinstance") (hwx : w = x) (hg : bltB G n = true) (hg2 : glb G w = true) (hi : (x, yes) ∈ G.isxs)
    (ha : PE X y (tE g W (evE E a))) (hs : noStar y = true) : PE X e (tE g W (evE E (.isx a x yes))) := by
  obtain ⟨p, q, a', es', rfl, hr⟩ := vCall_eq hv
  cases hr
  obtain ⟨p2, rfl⟩ := vName_eq hw
  obtain ⟨gl, db, hm, nn⟩ := bltB_gl xo hg
  obtain ⟨gl2, db2⟩ := glb_gl xo hg2
  subst hwx
  have hb : bootBuiltins n = some (.builtin "isinstance") := by rw [hx]; decide +kernel
  obtain ⟨cv, hcv, ⟨cc, c1, c2⟩, hall⟩ := xo.isx w yes hi
  have ha2 : PE X (.Name w p2) (tC cc) := by
    rcases hcv with h | ⟨h1, h2, h3⟩
    · exact pe_glob gl2 h c1 db2
    · exact pe_bltn gl2 h1 h2 c1 h3 db2
  refine (pe_callB call_isX gl hm hb (pa_cons ha (pa_cons ha2 pa_nil rfl) (starEach_cons hs)) nn db (starEach_cons hs) rfl).of fun σ H Q ⟨fb, m, ρ, S, o', rs, e, Gd⟩ => ?_
  simp only [evE] at e
  refine tE_bnd e rs Gd fun t S1 v m1 H1 e1 x1 rs1 r1 Gd1 => ?_
  split at e1
  · rename_i d f l
    split at e1
    · rename_i b hb'
      simp only [Option.some.injEq] at e1
      subst e1
      obtain ⟨z1, z2⟩ := hall d b hb'
      simp only [Rep] at r1
      obtain ⟨ad, rfl, _, _, h4⟩ := r1
      refine ⟨ad, g.ea d, cc, cv, b, rfl, z1, ?_, c2, z2, Gd1 _ m1 _ (Ext.refl _ _) rs1.sto Rep.bl_⟩
      rcases h4 with ⟨_, h5⟩ | ⟨dd, vx, h4, _, _, h7, _⟩
      · exact .inl h5
      · exact .inr ⟨dd, _, h4, h7⟩
    · cases e1
  · cases e1
theorem pe_fld_ {a : IE} {e o : Expr} {f : Str} {cs : List Nat} (xo : XOk G g E W X) (hv : vAtt e = some (o, f)) (hs : noSup o = true) (hc : ∀ c ∈ cs, ∃ x, G.ename c = some x ∧ G.exf c = some f) (ha : PE X o (tE g W (evE E a))) : PE X e (tE g W (evE E (.fld a f cs))) := by
  obtain ⟨p, rfl⟩ := vAtt_eq hv
  refine (pe_xv ha (nosup hs)).of fun σ H Q ⟨fb, m, ρ, S, o', rs, e, Gd⟩ => ?_
  simp only [evE] at e
  refine tE_bnd e rs Gd fun t S1 v m1 H1 e1 x1 rs1 r1 Gd1 => ?_
  split at e1
  · rename_i c f' y
    split at e1
    · rename_i hcond
      obtain ⟨rfl, hcc⟩ := hcond
      simp only [Option.some.injEq] at e1
      subst e1
      obtain ⟨x, q1, q2⟩ := hc c (by simpa using hcc)
      obtain ⟨⟨T, _, T2, hno, _⟩, _⟩ := xo.errX c x _ q1 q2
      simp only [Rep] at r1
      obtain ⟨ad, rfl, _, _, h4⟩ := r1
      rcases h4 with ⟨h4, _⟩ | ⟨dd, vx, h4, _, _, h7, h8⟩
      · cases h4
      · obtain ⟨vx', hvx, rx⟩ := h8.one
        simp only [List.cons.injEq, and_true] at hvx
        subst hvx
        exact ⟨ad, g.ea c, dd, _, vx, rfl, T2, hno, h4, h7, by simp [List.lookup], Gd1 _ m1 _ (Ext.refl _ _) rs1.sto rx⟩
    · cases e1
  · cases e1
end
end Fw

namespace Fw
open PySem L2 PyProof.Rows

section
variable {G : Gm} {g : GW} {E : EV} {W : WX} {X : Cx}

/-! ### targets -/
def Kept (tg : Tg) (σ σ' : L2.St) : Prop := ∀ vs : List Nat, (∀ i ∈ slots tg, i ∈ vs) → L2.wipe σ' vs = L2.wipe σ vs
theorem wipe_set : ∀ {vs : List Nat} {σ : L2.St} {i : Nat} {v : Option V}, i ∈ vs → L2.wipe (σ.set i v) vs = L2.wipe σ vs
  | [], _, _, _, h => by simp at h
  | w :: vs, σ, i, v, h => by
    show (L2.wipe (σ.set i v) vs).set w none = (L2.wipe σ vs).set w none
    by_cases hi : i ∈ vs
    · rw [wipe_set hi]
    · have e : i = w := by
        rcases List.mem_cons.mp h with e | e
        · exact e
        · exact absurd e hi
      subst e
      have : ∀ (vs : List Nat), i ∉ vs → ∀ σ : L2.St, L2.wipe (σ.set i v) vs = (L2.wipe σ vs).set i v := by
        intro vs
        induction vs with
        | nil => intro _ σ; rfl
        | cons x r ih =>
          intro hn σ
          simp only [List.mem_cons, not_or] at hn
          show (L2.wipe (σ.set i v) r).set x none = ((L2.wipe σ r).set x none).set i v
          rw [ih hn.2, List.set_comm _ _ hn.1]
      rw [this vs hi, List.set_set]

def tG (g : GW) (tg : Tg) : TG := fun v σ H Q => ∃ fb m t ρ ρ' S, RS (g.w fb) m σ H ρ S ∧ Rep (g.w fb) m H t v ∧ bindT tg t ρ = some ρ' ∧ ∀ σ', RS (g.w fb) m σ' H ρ' S → Kept tg σ σ' → Q σ' H
def tGs (g : GW) (tg : Tg) : TGs := fun vs σ H Q => ∃ fb m ts ρ ρ' S, RS (g.w fb) m σ H ρ S ∧ RepL (g.w fb) m H ts vs ∧ bindT tg (.tup ts) ρ = some ρ' ∧ ∀ σ', RS (g.w fb) m σ' H ρ' S → Kept tg σ σ' → Q σ' H
theorem _root_.L2.PG.of {X : Cx} {e : Expr} {t t' : TG} (h : PG X e t) (i : ∀ v σ H Q, t' v σ H Q → t v σ H Q) : PG X e t' := ⟨fun pins s σ H v u Q I r q => h.run pins s σ H v u Q I r (i v σ H Q q)⟩
theorem _root_.L2.PGs.of {X : Cx} {e : List Expr} {t t' : TGs} (h : PGs X e t) (i : ∀ v σ H Q, t' v σ H Q → t v σ H Q) : PGs X e t' := ⟨fun pins s σ H v u Q I r q => h.run pins s σ H v u Q I r (i v σ H Q q)⟩
def isTgt (e : Expr) : Bool := match e with
  | .Starred _ _ => false
  | _ => true
theorem assignEach_cons {e : Expr} {r : List Expr} {env : Env} (h : isTgt e = true) : assignEach (e :: r) env = (false, assign e env) :: assignEach r env := by
  cases e <;> first | rfl | cases h
theorem vTup_eq {e : Expr} {es : List Expr} (h : vTup e = some es) : ∃ k p, e = .Tuple es k p := by
  cases e <;> simp [vTup] at h
  subst h; exact ⟨_, _, rfl⟩
theorem vLst_eq {e : Expr} {es : List Expr} (h : vLst e = some es) : ∃ p, e = .List es p := by
  cases e <;> simp [vLst] at h
  subst h; exact ⟨_, rfl⟩
theorem chkT_tgt {tg : Tg} {e : Expr} (h : chkT G tg e = true) : isTgt e = true := by
  cases tg with
  | nm i =>
    simp only [chkT] at h
    split at h
    · rename_i x q
      obtain ⟨p, rfl⟩ := vName_eq q
      rfl
    · cases h
  | tp a =>
    simp only [chkT] at h
    split at h
    · rename_i x q
      obtain ⟨k, p, rfl⟩ := vTup_eq q
      rfl
    · cases h
  | nl => simp [chkT] at h
  | cn a b => simp [chkT] at h
theorem chkTs_each : ∀ (es : List Expr) {tg : Tg} {env : Env}, chkT.chkTs G tg es = true → (assignEach es env).length = es.length ∧ (assignEach es env).findIdx? (·.1) = none
  | [], tg, env, h => ⟨rfl, rfl⟩
  | e :: r, tg, env, h => by
    cases tg with
    | cn a b =>
      simp only [chkT.chkTs, Bool.and_eq_true] at h
      obtain ⟨h1, h2⟩ := chkTs_each r (env := env) h.2
      rw [assignEach_cons (chkT_tgt h.1)]
      refine ⟨by simp [h1], ?_⟩
      rw [List.findIdx?_cons]
      simp [h2]
    | nl => simp [chkT.chkTs] at h
    | nm i => simp [chkT.chkTs] at h
    | tp a => simp [chkT.chkTs] at h

theorem bindT_nm {i : Nat} {t : T} {ρ ρ' : Rho} (h : bindT (.nm i) t ρ = some ρ') : ρ' = ρ.set i (some t) := by
  simp only [bindT, Option.some.injEq] at h
  exact h.symm
theorem bindT_tp {a : Tg} {t : T} {ρ ρ' : Rho} (h : bindT (.tp a) t ρ = some ρ') : ∃ l, t = .tup l ∧ bindT a (.tup l) ρ = some ρ' := by
  cases t <;> simp only [bindT] at h <;> first | exact ⟨_, rfl, h⟩ | cases h
theorem bindT_nl {ts : List T} {ρ ρ' : Rho} (h : bindT .nl (.tup ts) ρ = some ρ') : ts = [] ∧ ρ' = ρ := by
  cases ts with
  | nil => simp only [bindT, Option.some.injEq] at h; exact ⟨rfl, h.symm⟩
  | cons a r => simp [bindT] at h
theorem bindT_cn {a b : Tg} {ts : List T} {ρ ρ' : Rho} (h : bindT (.cn a b) (.tup ts) ρ = some ρ') : ∃ x xs ρ1, ts = x :: xs ∧ bindT a x ρ = some ρ1 ∧ bindT b (.tup xs) ρ1 = some ρ' := by
  cases ts with
  | nil => simp [bindT] at h
  | cons x xs =>
    simp only [bindT] at h
    split at h
    · rename_i ρ1 h1
      exact ⟨x, xs, ρ1, rfl, h1, h⟩
    · cases h
theorem bindT_len : ∀ (b : Tg) (ts : List T) (es : List Expr) {ρ ρ' : Rho}, chkT.chkTs G b es = true → bindT b (.tup ts) ρ = some ρ' → ts.length = es.length
  | .nl, ts, es, ρ, ρ', hc, h => by
    obtain ⟨rfl, _⟩ := bindT_nl h
    simp only [chkT.chkTs, List.isEmpty_iff] at hc
    rw [hc]
    rfl
  | .cn a b, ts, es, ρ, ρ', hc, h => by
    obtain ⟨x, xs, ρ1, rfl, h1, h2⟩ := bindT_cn h
    cases es with
    | nil => simp [chkT.chkTs] at hc
    | cons e r =>
      simp only [chkT.chkTs, Bool.and_eq_true] at hc
      simp [bindT_len b xs r hc.2 h2]
  | .nm i, ts, es, ρ, ρ', hc, h => by simp [chkT.chkTs] at hc
  | .tp a, ts, es, ρ, ρ', hc, h => by simp [chkT.chkTs] at hc

theorem pg_sound (hN : X.N = G.N) (nd : G.N.Nodup) (sc : X.env.scope = G.sc) (calm : X.calm = true) (hK : X.K = g.K) (fn : ∀ x, G.fnT x = true → X.fn x = true) : ∀ tg : Tg, (∀ e, chkT G tg e = true → PG X e (tG g tg)) ∧ (∀ es, chkT.chkTs G tg es = true → PGs X es (tGs g tg)) := by
  intro tg
  induction tg with
  | nm i =>
    refine ⟨fun e h => ?_, fun es h => by simp [chkT.chkTs] at h⟩
    simp only [chkT] at h
    split at h
    · rename_i x q
      obtain ⟨p, rfl⟩ := vName_eq q
      simp only [Bool.and_eq_true, decide_eq_true_eq, isKind, Bool.or_eq_true] at h
      obtain ⟨h1, h2⟩ := h
      rw [← hN] at h1
      rw [← sc] at h2
      have hl : Loc X.env.scope x := by
        rcases h2 with h2 | h2
        · exact .inl h2
        · exact .inr h2.1
      have hf : X.fn x = true ∨ X.env.scope.names.lookup x = some .local := by
        rcases h2 with h2 | h2
        · exact .inr h2
        · exact .inl (fn x h2.2)
      refine (pg_name (i := i) (by rw [hN]; exact nd) h1 hl hf).of fun v σ H Q ⟨fb, m, t, ρ, ρ', S, rs, r, eb, k⟩ => ?_
      cases bindT_nm eb
      exact k _ ⟨rs.env.set i r, rs.sto⟩ fun vs hv => wipe_set (hv i (by simp [slots]))
    · cases h
  | nl =>
    refine ⟨fun e h => by simp [chkT] at h, fun es h => ?_⟩
    simp only [chkT.chkTs, List.isEmpty_iff] at h
    subst h
    refine pgs_nil.of fun vs σ H Q ⟨fb, m, ts, ρ, ρ', S, rs, r, eb, k⟩ => ?_
    obtain ⟨rfl, rfl⟩ := bindT_nl eb
    simp only [RepL] at r
    exact ⟨r, k σ rs fun _ _ => rfl⟩
  | cn a b iha ihb =>
    refine ⟨fun e h => by simp [chkT] at h, fun es h => ?_⟩
    cases es with
    | nil => simp [chkT.chkTs] at h
    | cons e r =>
      simp only [chkT.chkTs, Bool.and_eq_true] at h
      refine (pgs_cons (iha.1 e h.1) (ihb.2 r h.2) (by rw [assignEach_cons (chkT_tgt h.1)]; rfl)).of fun vs σ H Q ⟨fb, m, ts, ρ, ρ', S, rs, rp, eb, k⟩ => ?_
      obtain ⟨x, xs, ρ1, rfl, h1, h2⟩ := bindT_cn eb
      simp only [RepL] at rp
      obtain ⟨v, vr, rfl, r1, r2⟩ := rp
      refine ⟨v, vr, rfl, fb, m, x, ρ, ρ1, S, rs, r1, h1, fun σ1 rs1 k1 => ?_⟩
      refine ⟨fb, m, xs, ρ1, ρ', S, rs1, r2, h2, fun σ2 rs2 k2 => k σ2 rs2 fun vs hv => ?_⟩
      rw [k2 vs fun i hi => hv i (by simp [slots, hi]), k1 vs fun i hi => hv i (by simp [slots, hi])]
  | tp a iha =>
    refine ⟨fun e h => ?_, fun es h => by simp [chkT.chkTs] at h⟩
    simp only [chkT] at h
    split at h
    · rename_i es q
      obtain ⟨kk, p, rfl⟩ := vTup_eq q
      obtain ⟨h1, h2⟩ := chkTs_each es (env := X.env) h
      refine (pg_tup (n := es.length) calm (iha.2 es h) h1 h2).of fun v σ H Q ⟨fb, m, t, ρ, ρ', S, rs, r, eb, k⟩ => ?_
      obtain ⟨l, rfl, eb'⟩ := bindT_tp eb
      obtain ⟨a', vs, rfl, q1, l1⟩ := RepD.tup (RepD.of r)
      have q1 : SqT g.K H a' vs := q1
      rw [← hK] at q1
      exact ⟨a', vs, rfl, q1, by rw [← l1.length]; exact bindT_len a l es h eb', fb, m, l, ρ, ρ', S, rs, l1, eb', fun σ' rs' k' => k σ' rs' k'⟩
    · cases h

/-! ### trees in another heap, with other lists under way -/
theorem RepL.imp {g g' : GW} {m m' : List Addr} {H H' : Hp} : ∀ {ts : List T} {vs : List V}, (∀ t ∈ ts, ∀ v, Rep g m H t v → Rep g' m' H' t v) → RepL g m H ts vs → RepL g' m' H' ts vs
  | [], vs, f, h => by simpa only [RepL] using h
  | t :: ts, vs, f, h => by
    simp only [RepL] at h ⊢
    obtain ⟨v, r, h1, h2, h3⟩ := h
    exact ⟨v, r, h1, f t List.mem_cons_self v h2, RepL.imp (fun u hu => f u (List.mem_cons_of_mem _ hu)) h3⟩
mutual
theorem Rep.step {g : GW} {fb' m m' : List Addr} {H H' : Hp} (hg : ∀ (n : Nat) (a : Addr), m[n]? = some a → m'[n]? = some a) (hk : ∀ a o, H a = some o → NT o → a ∉ m → a ∉ g.fb → H' a = some o ∧ a ∉ m' ∧ a ∉ fb') : ∀ (t : T) {v : V}, Rep g m H t v → Rep (g.w fb') m' H' t v
  | .non, v, h => by simpa only [Rep] using h
  | .bl b, v, h => by simpa only [Rep] using h
  | .int i, v, h => by simpa only [Rep] using h
  | .str s, v, h => by simpa only [Rep] using h
  | .fn f, v, h => by simp only [Rep] at h ⊢; exact h
  | .box n, v, h => by
    simp only [Rep] at h ⊢
    obtain ⟨a, h1, h2⟩ := h
    exact ⟨a, hg _ _ h1, h2⟩
  | .scr ns, v, h => by
    simp only [Rep] at h ⊢
    obtain ⟨a, h1, h2⟩ := h
    refine ⟨a, h1, ?_⟩
    rcases h2 with ⟨q, q', r⟩ | h2
    · rcases r with r | ⟨o, r⟩
      · obtain ⟨z1, z2, z3⟩ := hk a _ r (by intro ps z; cases z) q q'
        exact .inl ⟨z2, z3, .inl z1⟩
      · obtain ⟨z1, z2, z3⟩ := hk a _ r (by intro ps z; cases z) q q'
        exact .inl ⟨z2, z3, .inr ⟨o, z1⟩⟩
    · exact .inr h2
  | .tup l, v, h => by
    simp only [Rep] at h ⊢
    obtain ⟨a, vs, h1, h2, h3⟩ := h
    refine ⟨a, vs, h1, ?_, RepL.step hg hk l h3⟩
    rcases h2 with ⟨q, q', r⟩ | h2
    · rcases r with r | ⟨o, r⟩
      · obtain ⟨z1, z2, z3⟩ := hk a _ r (by intro ps z; cases z) q q'
        exact .inl ⟨z2, z3, .inl z1⟩
      · obtain ⟨z1, z2, z3⟩ := hk a _ r (by intro ps z; cases z) q q'
        exact .inl ⟨z2, z3, .inr ⟨o, z1⟩⟩
    · exact .inr h2
  | .lst l, v, h => by
    simp only [Rep] at h ⊢
    obtain ⟨a, vs, h1, q, q', r, h4⟩ := h
    obtain ⟨z1, z2, z3⟩ := hk a _ r (by intro ps z; cases z) q q'
    exact ⟨a, vs, h1, z2, z3, z1, RepL.step hg hk l h4⟩
  | .err c f l, v, h => by
    simp only [Rep] at h ⊢
    obtain ⟨a, h1, h2, h3, h4⟩ := h
    rcases h4 with ⟨h4, h5⟩ | ⟨dd, vx, h4, h5, h6, h7, h8⟩
    · obtain ⟨z1, z2, z3⟩ := hk a _ h5 (nt_ext _) h2 h3
      exact ⟨a, h1, z2, z3, .inl ⟨h4, z1⟩⟩
    · obtain ⟨z1, z2, z3⟩ := hk a _ h4 (nt_ext _) h2 h3
      obtain ⟨y1, y2, y3⟩ := hk dd _ h7 (nt_ext _) h5 h6
      exact ⟨a, h1, z2, z3, .inr ⟨dd, vx, z1, y2, y3, y1, RepL.step hg hk l h8⟩⟩
theorem RepL.step {g : GW} {fb' m m' : List Addr} {H H' : Hp} (hg : ∀ (n : Nat) (a : Addr), m[n]? = some a → m'[n]? = some a) (hk : ∀ a o, H a = some o → NT o → a ∉ m → a ∉ g.fb → H' a = some o ∧ a ∉ m' ∧ a ∉ fb') : ∀ (ts : List T) {vs : List V}, RepL g m H ts vs → RepL (g.w fb') m' H' ts vs
  | [], vs, h => by simpa only [RepL] using h
  | t :: ts, vs, h => by
    simp only [RepL] at h ⊢
    obtain ⟨v, r, h1, h2, h3⟩ := h
    exact ⟨v, r, h1, Rep.step hg hk t h2, RepL.step hg hk ts h3⟩
end
theorem Rep.grow {g : GW} {fb' m m' : List Addr} {H H' : Hp} (e : Ext m H m' H') (hf : ∀ a ∈ fb', a ∈ g.fb ∨ H a = none) {t : T} {v : V} (h : Rep g m H t v) : Rep (g.w fb') m' H' t v :=
  Rep.step (fun _ _ q => e.get q) (fun a o q hn n f => ⟨e.keep a o q n hn, e.notin q n hn, fun z => by
    rcases hf a z with z | z
    · exact f z
    · rw [q] at z; cases z⟩) t h
theorem KD.step {g : GW} {fb' m m' : List Addr} {H H' : Hp} (hg : ∀ (n : Nat) (a : Addr), m[n]? = some a → m'[n]? = some a) (hk : ∀ a o, H a = some o → NT o → a ∉ m → a ∉ g.fb → H' a = some o ∧ a ∉ m' ∧ a ∉ fb') : ∀ {l : List (T × T)} {xs : List (NestedKey × Addr × Value)}, KD g m H l xs → KD (g.w fb') m' H' l xs
  | [], xs, h => h
  | p :: l, xs, h => by
    obtain ⟨x, r, h1, ⟨h2, h3, v, h4, h5⟩, h6⟩ := h
    exact ⟨x, r, h1, ⟨h2, Rep.step hg hk _ h3, v, Rep.step hg hk _ h4, h5⟩, KD.step hg hk h6⟩
theorem KY.step {g : GW} {fb' m m' : List Addr} {H H' : Hp} (hg : ∀ (n : Nat) (a : Addr), m[n]? = some a → m'[n]? = some a) (hk : ∀ a o, H a = some o → NT o → a ∉ m → a ∉ g.fb → H' a = some o ∧ a ∉ m' ∧ a ∉ fb') : ∀ {l : List (T × T)} {xs : List (Key × V)}, KY g m H l xs → KY (g.w fb') m' H' l xs
  | [], xs, h => h
  | p :: l, xs, h => by
    obtain ⟨x, r, h1, ⟨h2, h3⟩, h6⟩ := h
    exact ⟨x, r, h1, ⟨h2, Rep.step hg hk _ h3⟩, KY.step hg hk h6⟩
theorem ObR.step {g : GW} {fb' m m' : List Addr} {H H' : Hp} {ob : Ob} {a : Addr} (hg : ∀ (n : Nat) (a : Addr), m[n]? = some a → m'[n]? = some a) (hk : ∀ a o, H a = some o → NT o → a ∉ m → a ∉ g.fb → H' a = some o ∧ a ∉ m' ∧ a ∉ fb') (h : ObR g m H ob a) (k : H' a = H a) : ObR (g.w fb') m' H' ob a := by
  cases ob with
  | lst l => obtain ⟨vs, e1, r⟩ := h; exact ⟨vs, by rw [k]; exact e1, RepL.step hg hk l r⟩
  | dct _ => obtain ⟨xs, e1, z1, z2, r, z3⟩ := h; exact ⟨xs, by rw [k]; exact e1, z1, z2, KD.step hg hk r, z3⟩
  | dfz _ => obtain ⟨xs, od, e1, z1, z2, r, z3⟩ := h; exact ⟨xs, od, by rw [k]; exact e1, z1, z2, KD.step hg hk r, z3⟩
  | dki _ => obtain ⟨xs, e1, z1, r, z3⟩ := h; exact ⟨xs, by rw [k]; exact e1, z1, KY.step hg hk r, z3⟩
  | dkf _ => obtain ⟨xs, od, e1, z1, r, z3⟩ := h; exact ⟨xs, od, by rw [k]; exact e1, z1, KY.step hg hk r, z3⟩
  | ins _ _ => exact h.elim

/-! ### what is walked -/
/-- J walks the items l, whatever comes between the turns -/
structure Wk (g : GW) (m : List Addr) (H : Hp) (l : List T) (J : It) : Prop where
  ex : ∃ (GG : Hp → Prop) (Y : Nat → Hp → V → Hp → Prop), Walk J l.length GG Y ∧ (∀ m1 H1, Ext m H m1 H1 → GG H1) ∧
    ∀ i fb' m1 H1 x H2, i < l.length → Ext m H m1 H1 → (∀ a ∈ fb', a ∈ g.fb ∨ H a = none) → (∀ a, H1 a = none → a ∉ m1 ∧ a ∉ fb') → Y i H1 x H2 → ∃ t, l[i]? = some t ∧ Rep (g.w fb') m1 H2 t x ∧ (H2 = H1 ∨ ∃ p o, H1 p = none ∧ H2 = upd H1 p o)
theorem wk_list {m : List Addr} {H : Hp} {l : List T} {a : Addr} {vs : List V} {K : PySem.W.Frag} (ha : a ∉ m) (hh : H a = some (.lst vs)) (r : RepL g m H l vs) : Wk g m H l (Itl K a) := by
  refine ⟨fun H => SqL K H a vs, YAt vs, by rw [r.length]; exact walk_list, fun m1 H1 x => SqL.of (x.keep _ _ hh ha), fun i fb' m1 H1 x H2 hlt e hfb hf y => ?_⟩
  obtain ⟨rfl, hx⟩ := y
  have hi : i < l.length := by rw [r.length]; exact (List.getElem?_eq_some_iff.mp hx).1
  obtain ⟨v, h1, h2⟩ := r.get (List.getElem?_eq_getElem hi)
  rw [hx] at h1; cases h1
  exact ⟨l[i], List.getElem?_eq_getElem hi, Rep.grow e hfb h2, .inl rfl⟩
theorem wk_tup {m : List Addr} {H : Hp} {l : List T} {a : Addr} {vs : List V} (hh : (a ∉ m ∧ Rd H a (.tup vs)) ∨ KTup g.K a vs) (r : RepL g m H l vs) : Wk g m H l (Itt g.K a) := by
  refine ⟨fun H => SqT g.K H a vs, YAt vs, by rw [r.length]; exact walk_tup, fun m1 H1 x => ?_, fun i fb' m1 H1 x H2 hlt e hfb hf y => ?_⟩
  · rcases hh with ⟨h1, h2⟩ | h2
    · exact .inl (Rd.ext x h2 h1).2
    · exact .inr h2
  obtain ⟨rfl, hx⟩ := y
  have hi : i < l.length := by rw [r.length]; exact (List.getElem?_eq_some_iff.mp hx).1
  obtain ⟨v, h1, h2⟩ := r.get (List.getElem?_eq_getElem hi)
  rw [hx] at h1; cases h1
  exact ⟨l[i], List.getElem?_eq_getElem hi, Rep.grow e hfb h2, .inl rfl⟩
theorem wk_rng {m : List Addr} {H : Hp} {lo : Int} {n : Nat} : Wk g m H (rngT lo n) (Itr lo n) := by
  refine ⟨fun _ => True, YFn fun i => .int (lo + i), by simpa [rngT] using walk_range, fun _ _ _ => trivial, fun i fb' m1 H1 x H2 hlt e hfb hf y => ?_⟩
  obtain ⟨rfl, rfl⟩ := y
  have hn : i < n := by simpa [rngT] using hlt
  exact ⟨.int (lo + (i : Nat)), by simp [rngT, hn], Rep.int_, .inl rfl⟩
theorem wk_str {m : List Addr} {H : Hp} {z : Str} : Wk g m H (sgT z) (Its z) := by
  refine ⟨fun _ => True, fun i H v H' => H' = H ∧ ∃ c, z.cps[i]? = some c ∧ v = .str ⟨#[c]⟩, by simpa [sgT] using walk_str, fun _ _ _ => trivial, fun i fb' m1 H1 x H2 hlt e hfb hf y => ?_⟩
  obtain ⟨rfl, c, hc, rfl⟩ := y
  exact ⟨.str ⟨#[c]⟩, by simp [sgT, hc], Rep.str_, .inl rfl⟩
theorem zipT_get : ∀ (xs ys : List T) (i : Nat), (zipT xs ys)[i]? = match xs[i]?, ys[i]? with | some x, some y => some (T.tup [x, y]) | _, _ => none
  | [], ys, i => by simp [zipT]
  | x :: xs, [], i => by
    simp only [zipT]
    cases (x :: xs)[i]? <;> simp
  | x :: xs, y :: ys, 0 => by simp [zipT]
  | x :: xs, y :: ys, i + 1 => by simpa [zipT] using zipT_get xs ys i
theorem zipT_len : ∀ (xs ys : List T), (zipT xs ys).length = min xs.length ys.length
  | [], ys => by simp [zipT]
  | x :: xs, [] => by simp [zipT]
  | x :: xs, y :: ys => by simp [zipT, zipT_len xs ys]
theorem rep_pair {g : GW} {m : List Addr} {H : Hp} {p : Addr} {x y : V} {t u : T} (hp : H p = none) (hf : ∀ a, H a = none → a ∉ m ∧ a ∉ g.fb) (r : Rep g m H t x) (q : Rep g m H u y) : Rep g m (upd H p (.tup [x, y])) (.tup [t, u]) (.ref p) := by
  simp only [Rep]
  obtain ⟨h1, h2⟩ := hf p hp
  exact ⟨p, [x, y], rfl, .inl ⟨h1, h2, .inl upd_same⟩, RepL.cons (Rep.mono (Ext.new hp) _ r) (RepL.cons (Rep.mono (Ext.new hp) _ q) RepL.nil)⟩
theorem wk_zipL {m : List Addr} {H : Hp} {l k : List T} {a b : Addr} {vs ws : List V} {K : PySem.W.Frag} (ha : a ∉ m) (hh : H a = some (.lst vs)) (r : RepL g m H l vs) (hb : b ∉ m) (hh2 : H b = some (.lst ws)) (r2 : RepL g m H k ws) : Wk g m H (zipT l k) (Itz K a b) := by
  refine ⟨fun H => SqL K H a vs ∧ SqL K H b ws, YPair (fun i => vs[i]?) (fun i => ws[i]?), by rw [zipT_len, r.length, r2.length]; exact walk_zip rfl, fun m1 H1 x => ⟨SqL.of (x.keep _ _ hh ha), SqL.of (x.keep _ _ hh2 hb)⟩, fun i fb' m1 H1 x H2 hlt e hfb hf y => ?_⟩
  obtain ⟨T', x', y', rfl, h0, rfl, h1, h2⟩ := y
  have h1 : vs[i]? = some x' := h1
  have h2 : ws[i]? = some y' := h2
  have hi : i < vs.length := (List.getElem?_eq_some_iff.mp h1).1
  have hj : i < ws.length := (List.getElem?_eq_some_iff.mp h2).1
  rw [← r.length] at hi
  rw [← r2.length] at hj
  obtain ⟨v, e1, q1⟩ := r.get (List.getElem?_eq_getElem hi)
  obtain ⟨w, e2, q2⟩ := r2.get (List.getElem?_eq_getElem hj)
  rw [h1] at e1; cases e1
  rw [h2] at e2; cases e2
  exact ⟨.tup [l[i], k[i]], by rw [zipT_get, List.getElem?_eq_getElem hi, List.getElem?_eq_getElem hj], rep_pair (g := g.w fb') h0 hf (Rep.grow e hfb q1) (Rep.grow e hfb q2), .inr ⟨T', _, h0, rfl⟩⟩
theorem walk_zipT {K : PySem.W.Frag} {a b : Addr} {xs ys : List V} {n : Nat} (hn : n = min xs.length ys.length) : Walk (RZ.ItzT K a b) n (fun H => SqT K H a xs ∧ SqT K H b ys) (YPair (fun i => xs[i]?) (fun i => ys[i]?)) := by
  subst hn
  refine ⟨fun i _ hi q => ?_, fun _ q => ⟨xs, ys, q.1, q.2, by omega⟩, fun i H v H' _ q y => ?_⟩
  · have h1 : i < xs.length := by omega
    have h2 : i < ys.length := by omega
    exact ⟨xs, ys, xs[i], ys[i], q.1, q.2, by simp [h1], by simp [h2]⟩
  · obtain ⟨T, x, z, h1, h2, h3, h4, h5⟩ := y
    exact ⟨T, x, z, h1, h2, h3, h4 xs q.1, h5 ys q.2⟩
theorem wk_zipT {m : List Addr} {H : Hp} {l k : List T} {a b : Addr} {vs ws : List V} (hh : (a ∉ m ∧ Rd H a (.tup vs)) ∨ KTup g.K a vs) (r : RepL g m H l vs) (hh2 : (b ∉ m ∧ Rd H b (.tup ws)) ∨ KTup g.K b ws) (r2 : RepL g m H k ws) : Wk g m H (zipT l k) (RZ.ItzT g.K a b) := by
  have st : ∀ {c : Addr} {us : List V} {m1 : List Addr} {H1 : Hp}, (c ∉ m ∧ Rd H c (.tup us)) ∨ KTup g.K c us → Ext m H m1 H1 → SqT g.K H1 c us := fun {c us m1 H1} hh x => by
    rcases hh with ⟨h1, h2⟩ | h2
    · exact .inl (Rd.ext x h2 h1).2
    · exact .inr h2
  refine ⟨fun H => SqT g.K H a vs ∧ SqT g.K H b ws, YPair (fun i => vs[i]?) (fun i => ws[i]?), by rw [zipT_len, r.length, r2.length]; exact walk_zipT rfl, fun m1 H1 x => ⟨st hh x, st hh2 x⟩, fun i fb' m1 H1 x H2 hlt e hfb hf y => ?_⟩
  obtain ⟨T', x', y', rfl, h0, rfl, h1, h2⟩ := y
  have h1 : vs[i]? = some x' := h1
  have h2 : ws[i]? = some y' := h2
  have hi : i < vs.length := (List.getElem?_eq_some_iff.mp h1).1
  have hj : i < ws.length := (List.getElem?_eq_some_iff.mp h2).1
  rw [← r.length] at hi
  rw [← r2.length] at hj
  obtain ⟨v, e1, q1⟩ := r.get (List.getElem?_eq_getElem hi)
  obtain ⟨w, e2, q2⟩ := r2.get (List.getElem?_eq_getElem hj)
  rw [h1] at e1; cases e1
  rw [h2] at e2; cases e2
  exact ⟨.tup [l[i], k[i]], by rw [zipT_get, List.getElem?_eq_getElem hi, List.getElem?_eq_getElem hj], rep_pair (g := g.w fb') h0 hf (Rep.grow e hfb q1) (Rep.grow e hfb q2), .inr ⟨T', _, h0, rfl⟩⟩
theorem enuT_len : ∀ (l : List T) (k : Nat), (enuT k l).length = l.length
  | [], k => rfl
  | x :: l, k => by simp [enuT, enuT_len l (k + 1)]
theorem enuT_get : ∀ (l : List T) (k i : Nat), (enuT k l)[i]? = match l[i]? with | some x => some (T.tup [.int ((k + i : Nat) : Int), x]) | none => none
  | [], k, i => by simp [enuT]
  | x :: l, k, 0 => by simp [enuT]
  | x :: l, k, i + 1 => by
    have := enuT_get l (k + 1) i
    simp only [enuT, List.getElem?_cons_succ]
    rw [this, show k + 1 + i = k + (i + 1) by omega]
theorem wk_enu {m : List Addr} {H : Hp} {l : List T} {a : Addr} {vs : List V} {K : PySem.W.Frag} (ha : a ∉ m) (hh : H a = some (.lst vs)) (r : RepL g m H l vs) : Wk g m H (enuT 0 l) (Ite K a) := by
  refine ⟨fun H => SqL K H a vs, YPair (fun i => some (.int (i : Nat))) (fun i => vs[i]?), by rw [enuT_len, r.length]; exact walk_enum, fun m1 H1 x => SqL.of (x.keep _ _ hh ha), fun i fb' m1 H1 x H2 hlt e hfb hf y => ?_⟩
  obtain ⟨T', x', y', rfl, h0, rfl, h1, h2⟩ := y
  have h1 : some (V.int (i : Nat)) = some x' := h1
  cases h1
  have h2 : vs[i]? = some y' := h2
  have hi : i < vs.length := (List.getElem?_eq_some_iff.mp h2).1
  rw [← r.length] at hi
  obtain ⟨v, e1, q1⟩ := r.get (List.getElem?_eq_getElem hi)
  rw [h2] at e1; cases e1
  exact ⟨.tup [.int (i : Nat), l[i]], by rw [enuT_get, List.getElem?_eq_getElem hi]; simp, rep_pair (g := g.w fb') h0 hf Rep.int_ (Rep.grow e hfb q1), .inr ⟨T', _, h0, rfl⟩⟩

def GoodI (g : GW) (W : WX) (m : List Addr) (σ : L2.St) (H : Hp) (R : It → Hp → Prop) : Out → Prop
  | .ok (.tup l) S' => ∀ J m' H', Ext m H m' H' → SRep g m' H' S' → Wk g m' H' l J → R J H'
  | .ok _ _ => False
  | .ex c p S' => ∀ cls d m' H', Ext m H m' H' → SRep g m' H' S' → XRep g H' c p cls d → W cls d σ H'
def tI (g : GW) (W : WX) (f : Rho → Sto → Res) : TI := fun σ H R => ∃ fb m ρ S o, RS (g.w fb) m σ H ρ S ∧ f ρ S = some o ∧ GoodI (g.w fb) W m σ H R o

/-- a list, a tuple, as it comes -/
def iSeq (K : PySem.W.Frag) (tl : TE) : TI := fun σ H R => tl σ H fun x H1 => (∃ a xs, x = .ref a ∧ SqL K H1 a xs ∧ R (Itl K a) H1) ∨ ∃ a xs, x = .ref a ∧ SqT K H1 a xs ∧ R (Itt K a) H1
theorem pi_seq {tg l : Expr} {tl : TE} (hl : PE X l tl) : PI X tg l (iSeq X.K tl) := by
  refine ⟨fun pins s σ H R I h => ?_⟩
  refine thn (hl.run pins s σ H _ I h) fun v s1 ⟨x, H1, I1, r1, q1⟩ => ?_
  have fp : ∀ b ∈ [s1.heap.objs.size], FpOk X pins H1 b := fun b hb => by
    have e : b = s1.heap.objs.size := by simpa using hb
    subst e
    exact I1.fpOk (Nat.le_refl _) (I1.hok.fresh (Nat.le_refl _))
  rcases q1 with ⟨a, xs, e, hq, q⟩ | ⟨a, xs, e, hq, q⟩
  · subst e
    cases r1
    obtain ⟨its, rv, p, hz⟩ := I1.list hq
    refine wpAny_pyIter_list p.isList ?_
    exact ⟨s1.heap.objs.size, [s1.heap.objs.size], _, _, H1, rfl, I1.kept (t' := s1.toks) fun b o e => Heap.get?_push_of_some _ e, turn_list a _, ⟨_, Heap.get?_push_size _ rfl, rfl, rfl⟩, fp, q⟩
  · subst e
    cases r1
    obtain ⟨its, rv, p, hz⟩ := I1.tuple hq
    refine wpAny_pyIter_tuple (show s1.heap.IsTuple a its.toArray from p) ?_
    exact ⟨s1.heap.objs.size, [s1.heap.objs.size], _, _, H1, rfl, I1.kept (t' := s1.toks) fun b o e => Heap.get?_push_of_some _ e, turn_tuple a _, ⟨_, Heap.get?_push_size _ rfl, rfl, rfl⟩, fp, q⟩

/-- the first part of what is walked -/
theorem tI_bnd {fb : List Addr} {f : Rho → Sto → Res} {k : T → Sto → Res} {m : List Addr} {σ : L2.St} {H : Hp} {ρ : Rho} {S : Sto} {o : Out} {R : It → Hp → Prop} {Q' : VK}
    (h : bnd (f ρ S) k = some o) (rs : RS (g.w fb) m σ H ρ S) (Gd : GoodI (g.w fb) W m σ H R o)
    (hk : ∀ t S1 v m1 H1, k t S1 = some o → Ext m H m1 H1 → RS (g.w fb) m1 σ H1 ρ S1 → Rep (g.w fb) m1 H1 t v → GoodI (g.w fb) W m1 σ H1 R o → Q' v H1) : tE g W f σ H Q' := by
  cases e : f ρ S with
  | none => rw [e] at h; cases h
  | some r =>
    rw [e] at h
    refine ⟨fb, m, ρ, S, r, rs, e, ?_⟩
    cases r with
    | ok t S1 =>
      intro v m1 H1 x sr rp
      refine hk t S1 v m1 H1 h x ⟨rs.env.mono x, sr⟩ rp ?_
      cases o with
      | ok u S2 => cases u <;> first | exact Gd | exact fun J m2 H2 x2 => Gd J m2 H2 (x.trans x2)
      | ex c p S2 => exact fun cls d m2 H2 x2 => Gd cls d m2 H2 (x.trans x2)
    | ex c p S1 =>
      have : o = .ex c p S1 := (Option.some.inj h).symm
      subst this
      exact Gd
theorem pi_sq {a : IE} {tg e : Expr} (xo : XOk G g E W X) (ha : PE X e (tE g W (evE E a))) : PI X tg e (tI g W (evE E (.sq a))) := by
  refine (pi_seq ha).of fun σ H R ⟨fb, m, ρ, S, o, rs, e, Gd⟩ => ?_
  simp only [evE] at e
  refine tI_bnd e rs Gd fun t S1 v m1 H1 e1 x1 rs1 r1 Gd1 => ?_
  split at e1
  · rename_i l hl
    simp only [Option.some.injEq] at e1
    subst e1
    cases t <;> simp only [seqT] at hl <;> try (cases hl; done)
    · rename_i l'
      simp only [Option.some.injEq] at hl
      subst hl
      have r1' := r1
      simp only [Rep] at r1'
      obtain ⟨a', vs, rfl, h2, h3⟩ := r1'
      obtain ⟨a2, vs2, e2, q1, l1⟩ := RepD.tup (RepD.of r1)
      have hh : (a' ∉ m1 ∧ Rd H1 a' (.tup vs)) ∨ KTup (g.w fb).K a' vs := by
        rcases h2 with ⟨h2, _, h4⟩ | h2
        · exact .inl ⟨h2, h4⟩
        · exact .inr h2
      have sq : SqT g.K H1 a' vs := by
        rcases hh with ⟨_, h4⟩ | h2
        · exact .inl h4
        · exact .inr h2
      rw [← xo.K] at sq
      refine .inr ⟨a', vs, rfl, sq, ?_⟩
      rw [xo.K]
      exact Gd1 _ m1 H1 (Ext.refl _ _) rs1.sto (wk_tup (g := g.w fb) hh h3)
    · rename_i l'
      simp only [Option.some.injEq] at hl
      subst hl
      simp only [Rep] at r1
      obtain ⟨a', vs, rfl, h2, _, h3, h4⟩ := r1
      exact .inl ⟨a', vs, rfl, SqL.of h3, Gd1 _ m1 H1 (Ext.refl _ _) rs1.sto (wk_list h2 h3 h4)⟩
  · cases e1
theorem pi_sqS {a : IE} {tg e : Expr} (ha : PE X e (tE g W (evE E a))) : PI X tg e (tI g W (evE E (.sqS a))) := by
  refine (pi_str ha).of fun σ H R ⟨fb, m, ρ, S, o, rs, e, Gd⟩ => ?_
  simp only [evE] at e
  refine tI_bnd e rs Gd fun t S1 v m1 H1 e1 x1 rs1 r1 Gd1 => ?_
  cases t <;> first | (cases e1; done) | skip
  rename_i z
  simp only [strT, Option.some.injEq] at e1
  subst e1
  cases RepD.str (RepD.of r1)
  exact ⟨z, rfl, Gd1 _ m1 H1 (Ext.refl _ _) rs1.sto wk_str⟩
end
end Fw

namespace Fw
open PySem L2 PyProof.Rows
section
variable {g : GW}
/-- values of a dict's entries, told -/
theorem KD.vals {m : List Addr} {H : Hp} : ∀ {l : List (T × T)} {xs : List (NestedKey × Addr × Value)}, KD g m H l xs → ∃ vs, RepL g m H (l.map (·.2)) vs ∧ vs.length = xs.length ∧ ∀ (i : Nat) (y : NestedKey × Addr × Value), xs[i]? = some y → ∃ v, vs[i]? = some v ∧ RelV v y.2.2
  | [], xs, h => by cases (show xs = [] from h); exact ⟨[], RepL.nil, rfl, fun i y e => by simp at e⟩
  | p :: l, xs, h => by
    obtain ⟨x, r, rfl, ⟨_, _, v, h4, h5⟩, h6⟩ := h
    obtain ⟨vs, e1, e2, e3⟩ := KD.vals h6
    refine ⟨v :: vs, RepL.cons h4 e1, by simp [e2], fun i y e => ?_⟩
    cases i with
    | zero =>
      simp only [List.getElem?_cons_zero, Option.some.injEq] at e
      subst e
      exact ⟨v, rfl, h5⟩
    | succ i => exact e3 i y (by simpa using e)
theorem wk_JK {m : List Addr} {H : Hp} {l : List (T × T)} {xs : List (NestedKey × Addr × Value)} {d : Addr} {o : Obj} (hd : H d = some (.frz o (DkO g.pr g.wd d xs))) (kd : KD g m H l xs) : Wk g m H (l.map (·.1)) (JK g.pr g.wd d o xs) := by
  have hl : (l.map (·.1)).length = xs.length := by rw [List.length_map, kd.length]
  refine ⟨fun H => H d = some (.frz o (DkO g.pr g.wd d xs)), fun i H x H' => H' = H ∧ ∃ y, xs[i]? = some y ∧ x = .ref y.2.1, by rw [hl]; exact ⟨fun i _ hi q => ⟨q, hi⟩, fun _ q => ⟨q, Nat.le_refl _⟩, fun _ _ _ _ _ _ y => y⟩, fun m1 H1 x => x.frz _ _ _ hd, fun i fb' m1 H1 x H2 hlt e hfb hf y => ?_⟩
  obtain ⟨rfl, y, hy, rfl⟩ := y
  obtain ⟨v, h1, h2⟩ := kd.keys.get (List.getElem?_eq_getElem hlt)
  rw [List.getElem?_map, hy] at h1
  cases h1
  exact ⟨_, List.getElem?_eq_getElem hlt, Rep.grow e hfb h2, .inl rfl⟩
theorem wk_JV {m : List Addr} {H : Hp} {l : List (T × T)} {xs : List (NestedKey × Addr × Value)} {vs : List V} {d : Addr} {o : Obj} (hd : H d = some (.frz o (DkO g.pr g.wd d xs))) (kd : KD g m H l xs) (r : RepL g m H (l.map (·.2)) vs) : Wk g m H (l.map (·.2)) (JV g.pr g.wd d o xs vs) := by
  have hl : (l.map (·.2)).length = xs.length := by rw [List.length_map, kd.length]
  refine ⟨fun H => H d = some (.frz o (DkO g.pr g.wd d xs)), YAt vs, by rw [hl]; exact ⟨fun i _ hi q => ⟨q, hi⟩, fun _ q => ⟨q, Nat.le_refl _⟩, fun _ _ _ _ _ _ y => y⟩, fun m1 H1 x => x.frz _ _ _ hd, fun i fb' m1 H1 x H2 hlt e hfb hf y => ?_⟩
  obtain ⟨rfl, hx⟩ := y
  obtain ⟨v, h1, h2⟩ := r.get (List.getElem?_eq_getElem hlt)
  rw [hx] at h1
  cases h1
  exact ⟨_, List.getElem?_eq_getElem hlt, Rep.grow e hfb h2, .inl rfl⟩
theorem wk_JI {m : List Addr} {H : Hp} {l : List (T × T)} {xs : List (NestedKey × Addr × Value)} {vs : List V} {d : Addr} {o : Obj} (hd : H d = some (.frz o (DkO g.pr g.wd d xs))) (kd : KD g m H l xs) (r : RepL g m H (l.map (·.2)) vs) : Wk g m H (l.map fun p => T.tup [p.1, p.2]) (JI g.pr g.wd d o xs vs) := by
  have hl : (l.map fun p => T.tup [p.1, p.2]).length = xs.length := by rw [List.length_map, kd.length]
  refine ⟨fun H => H d = some (.frz o (DkO g.pr g.wd d xs)), fun i H x H' => ∃ T y v, xs[i]? = some y ∧ vs[i]? = some v ∧ x = .ref T ∧ H T = none ∧ H' = upd H T (.tup [.ref y.2.1, v]), by rw [hl]; exact ⟨fun i _ hi q => ⟨q, hi⟩, fun _ q => ⟨q, Nat.le_refl _⟩, fun _ _ _ _ _ _ y => y⟩, fun m1 H1 x => x.frz _ _ _ hd, fun i fb' m1 H1 x H2 hlt e hfb hf y => ?_⟩
  obtain ⟨p, y, v, hy, hv, rfl, h0, rfl⟩ := y
  have hi : i < l.length := by simpa using hlt
  obtain ⟨k', h1, h2⟩ := kd.keys.get (t := l[i].1) (by rw [List.getElem?_map, List.getElem?_eq_getElem hi]; rfl)
  rw [List.getElem?_map, hy] at h1
  cases h1
  obtain ⟨v', h3, h4⟩ := r.get (t := l[i].2) (by rw [List.getElem?_map, List.getElem?_eq_getElem hi]; rfl)
  rw [hv] at h3
  cases h3
  exact ⟨.tup [l[i].1, l[i].2], by rw [List.getElem?_map, List.getElem?_eq_getElem hi]; rfl, rep_pair (g := g.w fb') h0 hf (Rep.grow e hfb h2) (Rep.grow e hfb h4), .inr ⟨p, _, h0, rfl⟩⟩
end
end Fw

namespace Fw
open PySem L2 PyProof.Rows

section
variable {G : Gm} {g : GW} {E : EV} {W : WX} {X : Cx}

theorem goodI_ext {m m1 : List Addr} {σ : L2.St} {H H1 : Hp} {R : It → Hp → Prop} {o : Out} (Gd : GoodI g W m σ H R o) (x : Ext m H m1 H1) : GoodI g W m1 σ H1 R o := by
  cases o with
  | ok u S2 => cases u <;> first | exact Gd | exact fun J m2 H2 x2 => Gd J m2 H2 (x.trans x2)
  | ex c p S2 => exact fun cls d m2 H2 x2 => Gd cls d m2 H2 (x.trans x2)

theorem pi_r1 {a : IE} {tg e y : Expr} {x : Str} (xo : XOk G g E W X) (hv : vCall e = some (x, [y])) (hx : x = "range") (hg : bltB G x = true) (ha : PE X y (tE g W (evE E a))) (hs : noStar y = true) : PI X tg e (tI g W (evE E (.rg1 a))) := by
  obtain ⟨p, q, a', es', rfl, hr⟩ := vCall_eq hv
  cases hr
  subst hx
  obtain ⟨gl, db, hm, nn⟩ := bltB_gl xo hg
  refine (pi_range1 gl hm (pa_cons ha pa_nil (starEach_cons hs)) (star1 hs)).of fun σ H R ⟨fb, m, ρ, S, o, rs, e, Gd⟩ => ?_
  simp only [evE] at e
  refine tI_bnd e rs Gd fun t S1 v m1 H1 e1 x1 rs1 r1 Gd1 => ?_
  cases t <;> simp only at e1 <;> try (cases e1; done)
  rename_i j
  split at e1
  · rename_i hj
    simp only [Option.some.injEq] at e1
    subst e1
    simp only [okR, Bool.and_eq_true, decide_eq_true_eq] at hj
    exact ⟨j, by rw [RepD.int (RepD.of r1)], hj.1, hj.2, Gd1 _ m1 H1 (Ext.refl _ _) rs1.sto wk_rng⟩
  · cases e1
theorem pi_r2 {a b : IE} {tg e y z : Expr} {x : Str} (xo : XOk G g E W X) (hv : vCall e = some (x, [y, z])) (hx : x = "range") (hg : bltB G x = true) (ha : PE X y (tE g W (evE E a))) (hb : PE X z (tE g W (evE E b))) (hs : noStar y = true) (hs2 : noStar z = true) :
    PI X tg e (tI g W (evE E (.rg2 a b))) := by
  obtain ⟨p, q, a', es', rfl, hr⟩ := vCall_eq hv
  cases hr
  subst hx
  obtain ⟨gl, db, hm, nn⟩ := bltB_gl xo hg
  refine (pi_range2 gl hm (pa_cons ha (pa_cons hb pa_nil (starEach_cons hs2)) (starEach_cons hs)) (by rw [starEach_cons hs, starEach_cons hs2]; rfl) (star1 hs2)).of fun σ H R ⟨fb, m, ρ, S, o, rs, e, Gd⟩ => ?_
  simp only [evE] at e
  refine tI_bnd e rs Gd fun t S1 v m1 H1 e1 x1 rs1 r1 Gd1 => ?_
  refine tI_bnd e1 rs1 Gd1 fun u S2 w m2 H2 e2 x2 rs2 r2 Gd2 => ?_
  cases t <;> cases u <;> simp only at e2 <;> try (cases e2; done)
  rename_i i j
  split at e2
  · rename_i hj
    simp only [Option.some.injEq] at e2
    subst e2
    simp only [okR, Bool.and_eq_true, decide_eq_true_eq] at hj
    exact ⟨i, j, by rw [RepD.int (RepD.of (Rep.mono x2 _ r1)), RepD.int (RepD.of r2)], ⟨hj.1.1, hj.1.2, hj.2.1, hj.2.2⟩, Gd2 _ m2 H2 (Ext.refl _ _) rs2.sto wk_rng⟩
  · cases e2
theorem star1b {e : Expr} {env : Env} {pos : Pos} (h : noStar e = true) : (backTo pos (starEach [e] env)).any (·.1) = false := by rw [star1 h]; rfl
theorem rep_rgV {g : GW} {m : List Addr} {H : Hp} (i j : Int) : RepL g m H (rngT i (j - i).toNat) (rgV i j) := by
  unfold rngT rgV
  generalize List.range (j - i).toNat = l
  induction l with
  | nil => exact RepL.nil
  | cons a l ih => exact RepL.cons Rep.int_ ih
theorem pe_lrg {bx : Bool} {a b : IE} {e y u v : Expr} {x z : Str} (xo : XOk G g E W X) (hv : vCall e = some (x, [y])) (hv2 : vCall y = some (z, [u, v])) (hx : x = "list") (hz : z = "range") (hg : bltB G x = true) (hg2 : bltB G z = true) (hsy : noStar y = true)
    (ha : PE X u (tE g W (evE E a))) (hb : PE X v (tE g W (evE E b))) (hs : noStar u = true) (hs2 : noStar v = true) : PE X e (tE g W (evE E (.lrg bx a b))) := by
  obtain ⟨p, q, a', es', rfl, hr⟩ := vCall_eq hv
  cases hr
  obtain ⟨p2, q2, a2, es2, rfl, hr2⟩ := vCall_eq hv2
  cases hr2
  subst hx
  subst hz
  obtain ⟨gl, db, hm, nn⟩ := bltB_gl xo hg
  obtain ⟨gl2, db2, hm2, nn2⟩ := bltB_gl xo hg2
  refine (pe_listRg xo.calm gl hm (prg_2 gl2 hm2 ha hb (starEach_cons hs) (starEach_cons hs2) (star1b hs2)) (starEach_cons hsy)).of fun σ H Q ⟨fb, m, ρ, S, o, rs, e, Gd⟩ => ?_
  simp only [evE] at e
  refine tE_bnd e rs Gd fun t S1 w1 m1 H1 e1 x1 rs1 r1 Gd1 => ?_
  refine tE_bnd e1 rs1 Gd1 fun t2 S2 w m2 H2 e2 x2 rs2 r2 Gd2 => ?_
  cases t <;> cases t2 <;> simp only at e2 <;> try (cases e2; done)
  rename_i i j
  split at e2
  · rename_i hj
    simp only [Option.some.injEq] at e2
    subst e2
    simp only [okR, Bool.and_eq_true, decide_eq_true_eq] at hj
    exact ⟨i, j, by rw [RepD.int (RepD.of (Rep.mono x2 _ r1))], by rw [RepD.int (RepD.of r2)], ⟨hj.1.1.1, hj.1.1.2, hj.1.2.1, hj.1.2.2, hj.2⟩, fin_lst Gd2 rs2.sto (rep_rgV i j)⟩
  · cases e2
theorem rep_tup {m : List Addr} {H : Hp} {l : List T} {v : V} (r : Rep g m H (.tup l) v) : ∃ a vs, v = .ref a ∧ ((a ∉ m ∧ Rd H a (.tup vs)) ∨ KTup g.K a vs) ∧ SqT g.K H a vs ∧ RepL g m H l vs := by
  have r1' := r
  simp only [Rep] at r1'
  obtain ⟨a', vs, rfl, h2, h3⟩ := r1'
  refine ⟨a', vs, rfl, ?_, ?_, h3⟩
  · rcases h2 with ⟨h2, _, h4⟩ | h2
    · exact .inl ⟨h2, h4⟩
    · exact .inr h2
  · rcases h2 with ⟨_, _, h4⟩ | h2
    · exact .inl h4
    · exact .inr h2
theorem rep_lst {m : List Addr} {H : Hp} {l : List T} {v : V} (r : Rep g m H (.lst l) v) : ∃ a vs, v = .ref a ∧ a ∉ m ∧ H a = some (.lst vs) ∧ RepL g m H l vs := by
  simp only [Rep] at r
  obtain ⟨a', vs, rfl, h2, _, h3, h4⟩ := r
  exact ⟨a', vs, rfl, h2, h3, h4⟩
theorem pi_z {a b : IE} {tg e y z : Expr} {ts : List Expr} {x : Str} (xo : XOk G g E W X) (hv : vCall e = some (x, [y, z])) (hx : x = "zip") (hg : bltB G x = true) (ht : vTup tg = some ts) (ha : PE X y (tE g W (evE E a))) (hb : PE X z (tE g W (evE E b))) (hs : noStar y = true) (hs2 : noStar z = true) :
    PI X tg e (tI g W (evE E (.zp a b))) := by
  obtain ⟨p, q, a', es', rfl, hr⟩ := vCall_eq hv
  cases hr
  subst hx
  obtain ⟨kk, tp, rfl⟩ := vTup_eq ht
  obtain ⟨gl, db, hm, nn⟩ := bltB_gl xo hg
  refine (RZ.pi_zipA gl hm (pa_cons ha (pa_cons hb pa_nil (starEach_cons hs2)) (starEach_cons hs)) (starEach_cons hs) (by rw [starEach_cons hs2]; rfl)).of fun σ H R ⟨fb, m, ρ, S, o, rs, e, Gd⟩ => ?_
  simp only [evE] at e
  refine tI_bnd e rs Gd fun t S1 v m1 H1 e1 x1 rs1 r1 Gd1 => ?_
  refine tI_bnd e1 rs1 Gd1 fun u S2 w m2 H2 e2 x2 rs2 r2 Gd2 => ?_
  have r1 := Rep.mono x2 _ r1
  cases t <;> cases u <;> simp only at e2 <;> try (cases e2; done)
  · simp only [Option.some.injEq] at e2
    subst e2
    obtain ⟨c, vs, rfl, h1, h2, h3⟩ := rep_tup r1
    obtain ⟨d, ws, rfl, k1, k2, k3⟩ := rep_tup r2
    refine ⟨c, d, vs, ws, rfl, .inr ⟨by rw [xo.K]; exact h2, by rw [xo.K]; exact k2, ?_⟩⟩
    rw [xo.K]
    exact Gd2 _ m2 H2 (Ext.refl _ _) rs2.sto (wk_zipT (g := g.w fb) h1 h3 k1 k3)
  · simp only [Option.some.injEq] at e2
    subst e2
    obtain ⟨c, vs, rfl, h1, h2, h3⟩ := rep_lst r1
    obtain ⟨d, ws, rfl, k1, k2, k3⟩ := rep_lst r2
    exact ⟨c, d, vs, ws, rfl, .inl ⟨SqL.of h2, SqL.of k2, Gd2 _ m2 H2 (Ext.refl _ _) rs2.sto (wk_zipL h1 h2 h3 k1 k2 k3)⟩⟩
theorem wk_enuT {m : List Addr} {H : Hp} {l : List T} {a : Addr} {vs : List V} (hh : (a ∉ m ∧ Rd H a (.tup vs)) ∨ KTup g.K a vs) (r : RepL g m H l vs) : Wk g m H (enuT 0 l) (IteT g.K a) := by
  refine ⟨fun H => SqT g.K H a vs, YPair (fun i => some (.int (i : Nat))) (fun i => vs[i]?), by rw [enuT_len, r.length]; exact walk_enumT, fun m1 H1 x => ?_, fun i fb' m1 H1 x H2 hlt e hfb hf y => ?_⟩
  · rcases hh with ⟨h1, h2⟩ | h2
    · exact .inl (Rd.ext x h2 h1).2
    · exact .inr h2
  obtain ⟨T', x', y', rfl, h0, rfl, h1, h2⟩ := y
  have h1 : some (V.int (i : Nat)) = some x' := h1
  cases h1
  have h2 : vs[i]? = some y' := h2
  have hi : i < vs.length := (List.getElem?_eq_some_iff.mp h2).1
  rw [← r.length] at hi
  obtain ⟨v, e1, q1⟩ := r.get (List.getElem?_eq_getElem hi)
  rw [h2] at e1; cases e1
  exact ⟨.tup [.int (i : Nat), l[i]], by rw [enuT_get, List.getElem?_eq_getElem hi]; simp, rep_pair (g := g.w fb') h0 hf Rep.int_ (Rep.grow e hfb q1), .inr ⟨T', _, h0, rfl⟩⟩
theorem pi_e {a : IE} {tg e y : Expr} {ts : List Expr} {x : Str} (xo : XOk G g E W X) (hv : vCall e = some (x, [y])) (hx : x = "enumerate") (hg : bltB G x = true) (ht : vTup tg = some ts) (ha : PE X y (tE g W (evE E a))) (hs : noStar y = true) :
    PI X tg e (tI g W (evE E (.en a))) := by
  obtain ⟨p, q, a', es', rfl, hr⟩ := vCall_eq hv
  cases hr
  subst hx
  obtain ⟨kk, tp, rfl⟩ := vTup_eq ht
  obtain ⟨gl, db, hm, nn⟩ := bltB_gl xo hg
  refine (pi_enumA gl hm (pa_cons ha pa_nil (starEach_cons hs)) (star1 hs)).of fun σ H R ⟨fb, m, ρ, S, o, rs, e, Gd⟩ => ?_
  simp only [evE] at e
  refine tI_bnd e rs Gd fun t S1 v m1 H1 e1 x1 rs1 r1 Gd1 => ?_
  cases t <;> simp only at e1 <;> try (cases e1; done)
  · simp only [Option.some.injEq] at e1
    subst e1
    obtain ⟨c, vs, rfl, h1, h2, h3⟩ := rep_tup r1
    have h2' : SqT g.K H1 c vs := h2
    rw [← xo.K] at h2'
    refine .inr ⟨c, vs, rfl, h2', ?_⟩
    rw [xo.K]
    exact Gd1 _ m1 H1 (Ext.refl _ _) rs1.sto (wk_enuT (g := g.w fb) h1 h3)
  · simp only [Option.some.injEq] at e1
    subst e1
    obtain ⟨c, vs, rfl, h1, h2, h3⟩ := rep_lst r1
    exact .inl ⟨c, vs, rfl, SqL.of h2, Gd1 _ m1 H1 (Ext.refl _ _) rs1.sto (wk_enu h1 h2 h3)⟩

/-! ### comprehensions -/
theorem relS_ok {sc : Scope} {cl : List (Str × Addr)} {C : Addr} {scope : Scope} : (compEnvC scope cl C X.env).scope = relS scope X.env.scope := rfl
theorem takes_no {X : Cx} : Takes X (fun _ _ _ _ => False) := fun _ _ ⟨_, _, _, _, _, _, _, _, _, _, _, _, _, _, _, _, w⟩ => w.elim
theorem blk_ok (xo : XOk G g E W X) (s : Shared) (H : Hp) (scope : Scope) (C : Addr) (cl : List (Str × Addr)) (fp : List Addr) : XOk (G.blk scope) g E (fun _ _ _ _ => False) (X.blk s H scope (compEnvC scope cl C X.env) fp) where
  N := xo.N
  nd := xo.nd
  sc := by
    show relS scope X.env.scope = relS scope G.sc
    rw [xo.sc]
  pr := xo.pr
  wd := xo.wd
  K := xo.K
  calm := xo.calm
  fn := fun _ h => h
  tk := takes_no
  un := xo.un
  blt := xo.blt
  call := xo.call
  callL := xo.callL
  callv := xo.callv
  callvL := xo.callvL
  lam := fun _ _ z => (by cases z)
  errP := xo.errP
  errX := xo.errX
  isx := xo.isx
  cst := xo.cst

/-- one turn of a comprehension -/
def lcG (E : EV) (own : List Nat) (elt : IE) (tg : Tg) (cnd : IE) (ρ : Rho) : T → Sto → Option (Option T × Sto) := fun t S => match bindT tg t (wipeR ρ own) with
  | some ρ' => (match evE E cnd ρ' S with
    | some (.ok c S') => (match truthy S' c with
      | some true => (match evE E elt ρ' S' with | some (.ok y S'') => some (some y, S'') | _ => none)
      | some false => some (none, S')
      | none => none)
    | _ => none)
  | none => none
theorem lc_ev {bx : Bool} {own : List Nat} {elt : IE} {tg : Tg} {src cnd : IE} {ρ : Rho} {S : Sto} : evE E (.lc bx own elt tg src cnd) ρ S = bnd (evE E src ρ S) fun x S1 => tups x fun l => match lcL (lcG E own elt tg cnd ρ) l [] S1 with
    | some (ys, S2) => some (newL bx (.lst ys) S2)
    | none => none := rfl

theorem wipe_idem (σ : L2.St) : ∀ vs : List Nat, L2.wipe (L2.wipe σ vs) vs = L2.wipe σ vs := fun vs => by
  have h : ∀ ws : List Nat, (∀ i ∈ ws, i ∈ vs) → L2.wipe (L2.wipe σ ws) vs = L2.wipe σ vs := by
    intro ws
    induction ws with
    | nil => intro _; rfl
    | cons w r ih =>
      intro hw
      show L2.wipe ((L2.wipe σ r).set w none) vs = L2.wipe σ vs
      rw [wipe_set (hw w List.mem_cons_self)]
      exact ih fun i hi => hw i (List.mem_cons_of_mem _ hi)
  exact h vs fun _ hi => hi

theorem lcL_cons {gt : T → Sto → Option (Option T × Sto)} {x : T} {xs acc : List T} {S : Sto} {r : List T × Sto} (h : lcL gt (x :: xs) acc S = some r) :
    (∃ y S', gt x S = some (some y, S') ∧ acc.length < line ∧ lcL gt xs (acc ++ [y]) S' = some r) ∨ ∃ S', gt x S = some (none, S') ∧ lcL gt xs acc S' = some r := by
  simp only [lcL] at h
  split at h
  · rename_i y S' e
    split at h
    · rename_i hl
      exact .inl ⟨y, S', e, hl, h⟩
    · cases h
  · rename_i S' e
    exact .inr ⟨S', e, h⟩
  · cases h

/-- the comprehension's turns -/
theorem lcJ_read {own : List Nat} {elt cnd : IE} {tg : Tg} {tt : TT} {bx : Bool} {fb : List Addr} {m1 : List Addr} {H1 : Hp} {σ : L2.St} {ρ : Rho} {S1 S2 : Sto} {l ys : List T} {J : It} {Q : VK} (hown : ∀ i ∈ slots tg, i ∈ own)
    (ht : ∀ σ H Q, tT g (fun _ _ _ _ => False) (evE E cnd) σ H Q → tt σ H Q) (env1 : ERep (g.w fb) m1 H1 ρ σ) (sr1 : SRep (g.w fb) m1 H1 S1) (wk : Wk (g.w fb) m1 H1 l J) (el : lcL (lcG E own elt tg cnd ρ) l [] S1 = some (ys, S2))
    (Gd1 : GoodE (g.w fb) W m1 σ H1 Q (newL bx (.lst ys) S2)) : tLc (fun _ H R => R J H) (tG g tg) tt (tE g (fun _ _ _ _ => False) (evE E elt)) own σ H1 Q := by
  intro D hD
  obtain ⟨GG, Y, w, hG, hY⟩ := wk.ex
  have D1 : D ∉ m1 := sr1.fresh hD
  have Df : D ∉ fb := sr1.freshF hD
  have hf0 : ∀ a ∈ (D :: fb), a ∈ (g.w fb).fb ∨ H1 a = none := fun a ha => by
    rcases List.mem_cons.mp ha with q | q
    · exact .inr (by rw [q]; exact hD)
    · exact .inl q
  refine lc_it w (fun i H2 => ∃ m2 S acc vs, Ext m1 H1 m2 H2 ∧ SRep (g.w (D :: fb)) m2 H2 S ∧ H2 D = some (.lst vs) ∧ RepL (g.w (D :: fb)) m2 H2 acc vs ∧ lcL (lcG E own elt tg cnd ρ) (l.drop i) acc S = some (ys, S2)) ?_ ?_ ?_ ?_
  · -- at first
    refine ⟨m1, S1, [], [], Ext.new hD, ?_, upd_same, RepL.nil, el⟩
    refine ⟨sr1.len, sr1.nd, fun n ob a h1 h2 => ?_, fun a ha => ?_, tab_new sr1.tab hD⟩
    · have z := sr1.at_ n ob a h1 h2
      refine z.step (g := g.w fb) (fb' := D :: fb) (fun _ _ q => q) (fun b o q _ n f => ⟨by rw [upd_ne (ne_of_none q hD)]; exact q, n, fun z => ?_⟩) (upd_ne fun q => ?_)
      · rcases hf0 b z with z | z
        · exact f z
        · rw [q] at z; cases z
      · obtain ⟨u, e⟩ := z.there
        rw [q, hD] at e; cases e
    · rcases List.mem_cons.mp ha with q | q
      · subst q; exact ⟨⟨_, upd_same, by intro ps z; cases z⟩, D1⟩
      · obtain ⟨⟨ws, z1, z3⟩, z2⟩ := sr1.fbs a q
        exact ⟨⟨ws, by rw [upd_ne (ne_of_none z1 hD)]; exact z1, z3⟩, z2⟩
  · -- the source stands still
    rintro i H2 _ ⟨m2, S, acc, vs, x2, _⟩
    exact hG m2 H2 x2
  · -- a turn
    rintro i x H2 H3 hi ⟨m2, S, acc, vs, x2, sr2, d2, rl2, el2⟩ y
    obtain ⟨t, ht', rt, hH⟩ := hY i (D :: fb) m2 H2 x H3 hi x2 hf0 (fun a ha => ⟨sr2.fresh ha, sr2.freshF ha⟩) y
    have x23 : Ext m2 H2 m2 H3 := by
      rcases hH with rfl | ⟨p, o, hp, rfl⟩
      · exact Ext.refl _ _
      · exact Ext.new hp
    have sr3 : SRep (g.w (D :: fb)) m2 H3 S := by
      rcases hH with rfl | ⟨p, o, hp, rfl⟩
      · exact sr2
      · exact sr2.new hp
    have x3 := x2.trans x23
    have d3 : H3 D = some (.lst vs) := x23.keep _ _ d2 (sr2.fbs D List.mem_cons_self).2
    have rl3 := RepL.mono x23 acc rl2
    have env3 : ERep (g.w (D :: fb)) m2 H3 ρ σ := ⟨env1.1, fun j u q => by
      obtain ⟨v, q1, q2⟩ := env1.2 j u q
      exact ⟨v, q1, Rep.grow x3 hf0 q2⟩⟩
    have hdrop : l.drop i = t :: l.drop (i + 1) := by
      obtain ⟨hlt, e⟩ := List.getElem?_eq_some_iff.mp ht'
      rw [List.drop_eq_getElem_cons hlt, e]
    rw [hdrop] at el2
    have turn : ∃ ρ' c S', bindT tg t (wipeR ρ own) = some ρ' ∧ evE E cnd ρ' S = some (.ok c S') ∧ ((truthy S' c = some true ∧ ∃ y S'', evE E elt ρ' S' = some (.ok y S'') ∧ acc.length < line ∧ lcL (lcG E own elt tg cnd ρ) (l.drop (i + 1)) (acc ++ [y]) S'' = some (ys, S2)) ∨ (truthy S' c = some false ∧ lcL (lcG E own elt tg cnd ρ) (l.drop (i + 1)) acc S' = some (ys, S2))) := by
      have key : ∀ {r}, lcG E own elt tg cnd ρ t S = some r → ∃ ρ' c S', bindT tg t (wipeR ρ own) = some ρ' ∧ evE E cnd ρ' S = some (.ok c S') ∧ ((truthy S' c = some true ∧ ∃ y S'', evE E elt ρ' S' = some (.ok y S'') ∧ r = (some y, S'')) ∨ (truthy S' c = some false ∧ r = (none, S'))) := by
        intro r q
        unfold lcG at q
        split at q
        · rename_i ρ' hb
          split at q
          · rename_i c S' hc
            split at q
            · rename_i htr
              split at q
              · rename_i y S'' hy
                exact ⟨ρ', c, S', hb, hc, .inl ⟨htr, y, S'', hy, (Option.some.inj q).symm⟩⟩
              · cases q
            · rename_i htr
              exact ⟨ρ', c, S', hb, hc, .inr ⟨htr, (Option.some.inj q).symm⟩⟩
            · cases q
          · cases q
        · cases q
      rcases lcL_cons el2 with ⟨y, S', q1, q2, q3⟩ | ⟨S', q1, q3⟩
      · obtain ⟨ρ', c, S1', hb, hc, q⟩ := key q1
        rcases q with ⟨htr, y', S'', hy, er⟩ | ⟨_, er⟩
        · cases er
          exact ⟨ρ', c, S1', hb, hc, .inl ⟨htr, y, S', hy, q2, q3⟩⟩
        · cases er
      · obtain ⟨ρ', c, S1', hb, hc, q⟩ := key q1
        rcases q with ⟨htr, y', S'', hy, er⟩ | ⟨htr, er⟩
        · cases er
        · cases er
          exact ⟨ρ', c, S', hb, hc, .inr ⟨htr, q3⟩⟩
    obtain ⟨ρ', c, S', hb, hc, res⟩ := turn
    refine ⟨D :: fb, m2, t, wipeR ρ own, ρ', S, ⟨env3.wipe own, sr3⟩, rt, hb, fun σ2 rs2 k2 => ⟨?_, ht σ2 H3 _ ?_⟩⟩
    · rw [k2 own hown, wipe_idem]
    refine ⟨D :: fb, m2, ρ', S, .ok c S', rs2, hc, ?_⟩
    rcases res with ⟨htr, y, S'', hy, hlen, hrest⟩ | ⟨htr, hrest⟩
    · refine ⟨true, htr, fun m4 H4 x4 sr4 => iteT ⟨D :: fb, m4, ρ', S', .ok y S'', ⟨rs2.env.mono x4, sr4⟩, hy, fun v m5 H5 x5 sr5 r5 => ?_⟩⟩
      have x35 := x4.trans x5
      have Dm3 : D ∉ m2 := (sr3.fbs D List.mem_cons_self).2
      have d5 : H5 D = some (.lst vs) := x35.keep _ _ d3 Dm3
      have Dm5 : D ∉ m5 := (sr5.fbs D List.mem_cons_self).2
      have rl5 := RepL.mono x35 acc rl3
      have upk : ∀ a o, H5 a = some o → NT o → a ∉ m5 → a ∉ (g.w (D :: fb)).fb → (upd H5 D (.lst (vs ++ [v]))) a = some o ∧ a ∉ m5 ∧ a ∉ (D :: fb) := fun a o q _ n f => ⟨by
        rw [upd_ne fun z => f (by rw [z]; exact List.mem_cons_self)]; exact q, n, f⟩
      refine ⟨vs, d5, by rw [← rl5.length, ← line_eq]; exact hlen, m5, S'', acc ++ [y], vs ++ [v], ?_, ?_, upd_same, ?_, hrest⟩
      · have z := x3.trans x35
        refine ⟨z.grow, fun a o q hn n => ?_, fun a q n => ?_, fun a od u q => by rw [upd_ne (ne_of_none q hD)]; exact z.frz a od u q⟩
        · rw [upd_ne (ne_of_none q hD)]; exact z.keepN a o q hn n
        · by_cases q2 : a = D
          · rw [q2]; exact ⟨_, upd_same, by intro ps z; cases z⟩
          · obtain ⟨u, n1, n2⟩ := z.there a q n
            exact ⟨u, by rw [upd_ne q2]; exact n1, n2⟩
      · refine ⟨sr5.len, sr5.nd, fun n ob a h1 h2 => ?_, fun a ha => ?_, tab_write sr5.tab d5 (.inl ⟨_, rfl⟩)⟩
        · have z := sr5.at_ n ob a h1 h2
          have ha : a ≠ D := fun q => Dm5 (by rw [← q]; exact List.mem_of_getElem? h2)
          exact z.step (g := g.w (D :: fb)) (fb' := D :: fb) (fun _ _ q => q) upk (upd_ne ha)
        · obtain ⟨⟨ws, z1, z3⟩, z2⟩ := sr5.fbs a ha
          refine ⟨?_, z2⟩
          by_cases q2 : a = D
          · rw [q2]; exact ⟨_, upd_same, by intro ps z; cases z⟩
          · exact ⟨ws, by rw [upd_ne q2]; exact z1, z3⟩
      · exact RepL.step (g := g.w (D :: fb)) (fb' := D :: fb) (fun _ _ q => q) upk _ (rl5.append (RepL.cons r5 RepL.nil))
    · refine ⟨false, htr, fun m4 H4 x4 sr4 => iteF ?_⟩
      exact ⟨m4, S', acc, vs, x3.trans x4, sr4, x4.keep _ _ d3 (sr3.fbs D List.mem_cons_self).2, RepL.mono x4 acc rl3, hrest⟩
  · -- the end
    rintro H2 ⟨m2, S, acc, vs, x2, sr2, d2, rl2, el2⟩
    rw [List.drop_length] at el2
    simp only [lcL, Option.some.injEq, Prod.mk.injEq] at el2
    obtain ⟨rfl, rfl⟩ := el2
    have Dm : D ∉ m2 := (sr2.fbs D List.mem_cons_self).2
    cases bx with
    | false =>
      have low : ∀ a o, H2 a = some o → NT o → a ∉ m2 → a ∉ (g.w (D :: fb)).fb → H2 a = some o ∧ a ∉ m2 ∧ a ∉ fb := fun a o q _ n f => ⟨q, n, fun z => f (List.mem_cons_of_mem _ z)⟩
      refine Gd1 (.ref D) m2 H2 x2 ⟨sr2.len, sr2.nd, fun n ob a h1 h2 => (sr2.at_ n ob a h1 h2).step (g := g.w (D :: fb)) (fb' := fb) (fun _ _ q => q) low rfl, fun a ha => sr2.fbs a (List.mem_cons_of_mem _ ha), sr2.tab⟩ ?_
      simp only [Rep]
      exact ⟨D, vs, rfl, Dm, Df, d2, RepL.step (g := g.w (D :: fb)) (fb' := fb) (fun _ _ q => q) low _ rl2⟩
    | true =>
      have low : ∀ a o, H2 a = some o → NT o → a ∉ m2 → a ∉ (g.w (D :: fb)).fb → H2 a = some o ∧ a ∉ m2 ++ [D] ∧ a ∉ fb := fun a o q _ n f => ⟨q, fun z => by
        rcases List.mem_append.mp z with z | z
        · exact n z
        · exact f (by simp only [List.mem_singleton] at z; rw [z]; exact List.mem_cons_self), fun z => f (List.mem_cons_of_mem _ z)⟩
      have hget : ∀ (n : Nat) (a : Addr), m2[n]? = some a → (m2 ++ [D])[n]? = some a := fun n a q => by
        rw [List.getElem?_append_left (List.getElem?_eq_some_iff.mp q).1]; exact q
      obtain ⟨k, hk1, hk2⟩ := x2.grow
      refine Gd1 (.ref D) (m2 ++ [D]) H2 ⟨⟨k ++ [D], by rw [hk1, List.append_assoc], fun a ha => ?_⟩, x2.keepN, x2.there, x2.frz⟩ ⟨by simp [sr2.len], ?_, fun n ob a h1 h2 => ?_, fun a ha => ?_, sr2.tab⟩ ?_
      · rcases List.mem_append.mp ha with q | q
        · exact hk2 a q
        · simp only [List.mem_singleton] at q; rw [q]
          rintro ⟨u, e, _⟩
          rw [hD] at e; cases e
      · refine List.nodup_append.mpr ⟨sr2.nd, by simp, fun a ha b hb e => ?_⟩
        simp only [List.mem_singleton] at hb
        subst hb; subst e
        exact Dm ha
      · by_cases hn : n < S.length
        · rw [List.getElem?_append_left hn] at h1
          rw [List.getElem?_append_left (by rw [sr2.len]; exact hn)] at h2
          exact (sr2.at_ n ob a h1 h2).step (g := g.w (D :: fb)) (fb' := fb) hget low rfl
        · have e1 : n = S.length := by
            have := (List.getElem?_eq_some_iff.mp h1).1
            simp at this
            omega
          subst e1
          rw [List.getElem?_append_right (Nat.le_refl _)] at h1
          rw [List.getElem?_append_right (by rw [sr2.len]; exact Nat.le_refl _)] at h2
          simp [sr2.len] at h1 h2
          subst h1; subst h2
          exact ⟨vs, d2, RepL.step (g := g.w (D :: fb)) (fb' := fb) hget low _ rl2⟩
      · obtain ⟨z1, z2⟩ := sr2.fbs a (List.mem_cons_of_mem _ ha)
        refine ⟨z1, fun z => ?_⟩
        rcases List.mem_append.mp z with z | z
        · exact z2 z
        · simp only [List.mem_singleton] at z; exact Df (by rw [← z]; exact ha)
      · simp only [Rep]
        exact ⟨D, by rw [← sr2.len]; simp, rfl⟩

/-- the comprehension's reading -/
theorem lc_read {own : List Nat} {elt cnd : IE} {tg : Tg} {wi : TI} {tt : TT} {bx : Bool} {src : IE} (hown : ∀ i ∈ slots tg, i ∈ own)
    (hw : ∀ σ H R, tI g W (evE E src) σ H R → wi σ H R)
    (ht : ∀ σ H Q, tT g (fun _ _ _ _ => False) (evE E cnd) σ H Q → tt σ H Q) {σ : L2.St} {H : Hp} {Q : VK} (h : tE g W (evE E (.lc bx own elt tg src cnd)) σ H Q) :
    tLc wi (tG g tg) tt (tE g (fun _ _ _ _ => False) (evE E elt)) own σ H Q := by
  obtain ⟨fb, m, ρ, S, o, rs, e, Gd⟩ := h
  rw [lc_ev] at e
  refine hw σ H _ ?_
  -- the source
  cases es : evE E src ρ S with
  | none => rw [es] at e; cases e
  | some r0 =>
    rw [es] at e
    refine ⟨fb, m, ρ, S, r0, rs, es, ?_⟩
    cases r0 with
    | ex c p S1 =>
      have : o = .ex c p S1 := (Option.some.inj e).symm
      subst this
      exact Gd
    | ok t S1 =>
      cases t <;> try (cases e; done)
      rename_i l
      have e : (match lcL (lcG E own elt tg cnd ρ) l [] S1 with | some (ys, S2) => some (newL bx (.lst ys) S2) | none => none) = some o := e
      split at e
      · rename_i ys S2 el
        simp only [Option.some.injEq] at e
        subst e
        intro J m1 H1 x1 sr1 wk
        exact lcJ_read hown ht (rs.env.mono x1) sr1 wk el (Gd.ext x1)
      · cases e
end
end Fw

namespace Fw
open PySem L2 PyProof.Rows

/-! ### lambdas -/
section
variable {G : Gm} {g : GW} {E : EV} {W : WX} {X : Cx}
theorem pick_mem {c : Nat} {t : T} : ∀ {hs : List (Nat × T)}, pick c hs = some t → (c, t) ∈ hs
  | [], h => by cases h
  | (d, u) :: r, h => by
    simp only [pick] at h
    split at h
    · rename_i q
      cases h
      rw [beq_iff_eq.mp q]
      exact List.mem_cons_self
    · exact List.mem_cons_of_mem _ (pick_mem h)
theorem vLam_eq {e body : Expr} {x : Str} {ps : Arguments} {sc : Scope} (h : vLam e = some (x, ps, body, sc)) : ∃ p lp q, e = .Call (.Name x p) [.Lambda ps body sc lp] [] q := by
  unfold vLam at h
  split at h
  · simp only [Option.some.injEq, Prod.mk.injEq] at h
    obtain ⟨rfl, rfl, rfl, rfl⟩ := h
    exact ⟨_, _, _, rfl⟩
  · cases h
theorem noArgs_eq {ps : Arguments} (h : noArgs ps = true) : ps = ⟨[], [], none, [], [], none, []⟩ := by
  unfold noArgs at h
  split at h
  · rfl
  · cases h
theorem pe_lm {f : Nat} {b : IE} {e body : Expr} {x : Str} {ps : Arguments} {sc : Scope} (xo : XOk G g E W X) (hv : vLam e = some (x, ps, body, sc)) (hn : G.lamN f = some x) (hg : glb G x = true) (hp : noArgs ps = true) (hs : LamX.lamSB G.sc sc = true)
    (sb : ∀ W' X', XOk (G.lm sc) g E W' X' → PE X' body (tE g W' (evE E b))) : PE X e (tE g W (evE E (.lam f b))) := by
  obtain ⟨p, lp, q, rfl⟩ := vLam_eq hv
  cases noArgs_eq hp
  obtain ⟨gl, db⟩ := glb_gl xo hg
  by_cases hl : E.lam f = none
  · refine ⟨fun pins s σ H Q I ⟨fb, m, ρ, S, o, rs, e, Gd⟩ => ?_⟩
    simp only [evE, hl] at e
    cases e
  obtain ⟨he, hm, hk, lk, hcg, hb, Sg, hNg, hva, hd, hcd, hG, TB, hcode, hmT, hu, hr, hx, hf, hfv⟩ := xo.lam f x hn hl
  rename_i a g0 c P k pg bg sg dV kV doc pm cdv ct oc an od osl Ng hts hds r
  have L : LamX.LamS X.env.scope sc := LamX.lamS_by (by rw [xo.sc]; exact hs)
  refine (LamX.pe_lamcall (T := g.T) (t := fun Ech => tE g (fun cls d _ H => Ech cls d H) (evE E b)) gl hm hk lk hcg hb Sg hNg hva hG TB hcode hmT hu hr L rfl (fun _ _ _ _ _ => rfl) (fun A outer s H Ech f' c' hr' => sb _ _ ?_) db hd hcd).of fun σ H Q ⟨fb, m, ρ, S, o, rs, e, Gd⟩ => ?_
  · have cok : ∀ f2, (G.nmL f2).isSome = true → CallOk (LamX.lamCx X A outer s H Ech sc f' c') g E.callL f2 := fun f2 h2 => by
      obtain ⟨fd, ps, F, kp, bi, len, _⟩ := hf f2 h2
      exact ⟨k, fd, ps, F, hr', kp, bi, len⟩
    refine ⟨xo.N, xo.nd, rfl, xo.K, xo.pr, xo.wd, rfl, fun _ z => (by cases z), takes_of rfl rfl rfl rfl, hr'.units, xo.blt, fun _ _ z => (by cases z), fun f2 x2 h2 => ?_, fun z => (by cases z), fun _ _ z => (by cases z), fun _ f2 ts S o z => cok f2 (hfv f2 ts S o z), fun _ _ z => (by cases z), fun _ _ _ z => (by cases z), fun _ _ z => absurd z List.not_mem_nil, xo.cst⟩
    have hsome : (G.nmL f2).isSome = true := by
      have h3 : G.nmL f2 = some x2 := h2
      rw [h3]; rfl
    obtain ⟨_, _, _, _, _, _, z⟩ := hf f2 hsome
    exact ⟨cok f2 hsome, z x2 h2⟩
  · refine ⟨rs.sto.tab, fun H1 eN T1 => ?_⟩
    have x1 : Ext m H m H1 := ⟨⟨[], by simp, by simp⟩, fun a o h hn _ => eN a o h hn, fun a _ ⟨o, h, hn⟩ => ⟨o, eN a o h hn, hn⟩, fun a od u h => eN a _ h (fun ps z => nomatch z)⟩
    have sr1 : SRep (g.w fb) m H1 S := ⟨rs.sto.len, rs.sto.nd, fun n ob a h1 h2 => (rs.sto.at_ n ob a h1 h2).mono x1 (by
      obtain ⟨o0, z, hb⟩ := rs.sto.boxN (List.mem_of_getElem? h2)
      rw [z, eN a _ z hb.nt]), x1.fbs rs.sto.fbs, T1⟩
    have rs1 : RS (g.w fb) m σ H1 ρ S := ⟨rs.env.mono x1, sr1⟩
    simp only [evE, he] at e
    show tE g (fun cls d _ H => hOk X.K g Q hds cls d H) (evE E b) σ H1 (fun _ H' => Q (.str r) H')
    split at e
    · rename_i t S' ht
      simp only [Option.some.injEq] at e
      subst e
      exact ⟨fb, m, ρ, S, _, rs1, ht, fun v m' H' x2 sr _ => Gd _ m' H' (x1.trans x2) sr Rep.str_⟩
    · rename_i c1 p1 S' ht
      split at e
      · rename_i t hp
        simp only [Option.some.injEq] at e
        subst e
        refine ⟨fb, m, ρ, S, _, rs1, ht, fun cls d m' H' x2 sr xr => ?_⟩
        obtain ⟨rfl, _⟩ := xr
        obtain ⟨s, es, hq⟩ := hx (c1, t) (pick_mem hp)
        have es : t = .str s := es
        subst es
        exact hq Q _ H' (Gd _ m' H' (x1.trans x2) sr Rep.str_)
      · cases e
    · cases e
end
end Fw

namespace Fw
open PySem L2 PyProof.Rows

section
variable {G : Gm} {g : GW} {E : EV} {W : WX} {X : Cx}

theorem ints_rep {m : List Addr} {H : Hp} : ∀ ns : List Int, RepL g m H (ns.map T.int) (ns.map V.int)
  | [] => RepL.nil
  | k :: ns => RepL.cons Rep.int_ (ints_rep ns)
/-- a new box -/
theorem fin_box {m : List Addr} {H H' : Hp} {S : Sto} {σ : L2.St} {Q : VK} {ob : Ob} {p : Addr} (Gd : GoodE g W m σ H Q (.ok (.box S.length) (S ++ [ob]))) (hl : m.length = S.length) (x : Ext m H (m ++ [p]) H') (sr : SRep g (m ++ [p]) H' (S ++ [ob])) : Q (.ref p) H' := by
  refine Gd (.ref p) (m ++ [p]) H' x sr ?_
  simp only [Rep]
  exact ⟨p, by rw [← hl]; simp, rfl⟩
theorem pe_dnew_ {ki : Bool} {pos : Pos} (xo : XOk G g E W X) : PE X (.Dict [] [] pos) (tE g W (evE E (.dnew ki))) := by
  cases ki with
  | false =>
    refine (pe_dnewX (P := g.pr) (w := g.wd)).of fun σ H Q ⟨fb, m, ρ, S, o, rs, e, Gd⟩ => ?_
    simp only [evE, Option.some.injEq, Bool.false_eq_true, if_false] at e
    subst e
    intro p hp hm
    exact fin_box Gd rs.sto.len (Ext.box hp) (rs.sto.boxO hp ⟨[], upd_same, Nat.zero_le _, hm, rfl, by simp⟩)
  | true =>
    refine pe_dnewK.of fun σ H Q ⟨fb, m, ρ, S, o, rs, e, Gd⟩ => ?_
    simp only [evE, Option.some.injEq, if_true] at e
    subst e
    intro p hp
    exact fin_box Gd rs.sto.len (Ext.box hp) (rs.sto.boxO hp ⟨[], upd_same, Nat.zero_le _, rfl, by simp⟩)
theorem pe_dct_ {a : IE} {e y : Expr} {x : Str} (xo : XOk G g E W X) (hv : vCall e = some (x, [y])) (hx : x = "dict") (hg : bltB G x = true) (hs : noStar y = true) (ha : PE X y (tE g W (evE E a))) : PE X e (tE g W (evE E (.dct a))) := by
  obtain ⟨p, q, a', es', rfl, hr⟩ := vCall_eq hv
  cases hr
  subst hx
  obtain ⟨gl, db, hm, nn⟩ := bltB_gl xo hg
  refine (pe_callTy (call_dctX xo.K xo.pr xo.wd xo.calm xo.un) gl hm (by decide +kernel) (pa_cons ha pa_nil (starEach_cons hs)) nn db (starEach_cons hs) rfl).of fun σ H Q ⟨fb, m, ρ, S, o, rs, e, Gd⟩ => ?_
  simp only [evE] at e
  refine tE_bnd e rs Gd fun t S1 v m1 H1 e1 x1 rs1 r1 Gd1 => ?_
  split at e1
  · rename_i l hl
    split at e1
    · rename_i d hd
      simp only [Option.some.injEq] at e1
      subst e1
      have rd := RepD.drf rs1.sto r1
      rw [hl] at rd
      obtain ⟨a', vs, rfl, q1, l1⟩ := RepD.lst rd
      refine ⟨fb, m1, S1, l, vs, a', d, rfl, q1, l1, rs1.sto, hd, fun p m' H' hp em x sr => ?_⟩
      subst em
      exact fin_box Gd1 rs1.sto.len x sr
    · cases e1
  · cases e1
theorem pe_sst_ {bx : Bool} {a : IE} {e y u : Expr} {x z : Str} (xo : XOk G g E W X) (hv : vCall e = some (x, [y])) (hv2 : vCall y = some (z, [u])) (hx : x = "sorted") (hz : z = "set") (hg : bltB G x = true) (hg2 : bltB G z = true) (hs : noStar y = true) (hs2 : noStar u = true)
    (ha : PE X u (tE g W (evE E a))) : PE X e (tE g W (evE E (.sst bx a))) := by
  obtain ⟨p, q, a', es', rfl, hr⟩ := vCall_eq hv
  cases hr
  obtain ⟨p2, q2, a2, es2, rfl, hr2⟩ := vCall_eq hv2
  cases hr2
  subst hx
  subst hz
  obtain ⟨gl, db, hm, nn⟩ := bltB_gl xo hg
  obtain ⟨gl2, db2, hm2, nn2⟩ := bltB_gl xo hg2
  have inner := pe_callTy (p := p2) (pos := q2) (cr_setL xo.calm) gl2 hm2 (by decide +kernel) (pa_cons ha pa_nil (starEach_cons hs2)) nn2 db2 (starEach_cons hs2) rfl
  refine (pe_callB (cr_sortedSet xo.calm) gl hm (by decide +kernel) (pa_cons inner pa_nil (starEach_cons hs)) nn db (starEach_cons hs) rfl).of fun σ H Q ⟨fb, m, ρ, S, o, rs, e, Gd⟩ => ?_
  simp only [evE] at e
  refine tE_bnd e rs Gd fun t S1 v m1 H1 e1 x1 rs1 r1 Gd1 => ?_
  split at e1
  · rename_i l hl
    split at e1
    · rename_i ns hns
      split at e1
      · rename_i h64
        simp only [Option.some.injEq] at e1
        subst e1
        have rd := RepD.drf rs1.sto r1
        rw [hl] at rd
        obtain ⟨a', vs, rfl, q1, l1⟩ := RepD.lst rd
        have ev : vs = ns.map V.int := rep_ints l1 hns
        subst ev
        refine ⟨a', ns, rfl, .inl (.inl q1), by unfold scanBound; omega, fun p c hp hc => ?_⟩
        refine ⟨p, _, c, rfl, upd_same, by omega, fun out p' h1 h2 h3 hp' => ?_⟩
        have eo : out = sset ns := lt_one h1 (sset_ok ns).1 fun j => by rw [h2 j, (sset_ok ns).2 j]; simp
        rw [eo]
        have x2 : Ext m1 H1 m1 (upd H1 p (SetO X.w p (fun j => decide (j ∈ ns)) c)) := Ext.new hp
        exact fin_lst (Gd1.ext x2) (rs1.sto.new hp) (ints_rep _) p' hp'
      · cases e1
    · cases e1
  · cases e1
end
end Fw

namespace Fw
open PySem L2 PyProof.Rows

section
variable {G : Gm} {g : GW} {E : EV} {W : WX} {X : Cx}
theorem lcB_ev {bx : Bool} {own : List Nat} {elt : IE} {tg : Tg} {src cnd : IE} {ρ : Rho} {S : Sto} : evE E (.lcB bx own elt tg src cnd) ρ S = bnd (evE E src ρ S) fun x S1 => (match x with
    | .box k => (match lcBL (lcG E own elt tg cnd ρ) k E.wf 0 [] S1 with
      | some (ys, S2) => some (newL bx (.lst ys) S2)
      | none => none)
    | _ => none) := rfl
theorem lcG_turn {own : List Nat} {elt cnd : IE} {tg : Tg} {ρ : Rho} {t : T} {S : Sto} {r : Option T × Sto} (q : lcG E own elt tg cnd ρ t S = some r) :
    ∃ ρ' c S', bindT tg t (wipeR ρ own) = some ρ' ∧ evE E cnd ρ' S = some (.ok c S') ∧ ((truthy S' c = some true ∧ ∃ y S'', evE E elt ρ' S' = some (.ok y S'') ∧ r = (some y, S'')) ∨ (truthy S' c = some false ∧ r = (none, S'))) := by
  unfold lcG at q
  split at q
  · rename_i ρ' hb
    split at q
    · rename_i c S' hc
      split at q
      · rename_i htr
        split at q
        · rename_i y S'' hy
          exact ⟨ρ', c, S', hb, hc, .inl ⟨htr, y, S'', hy, (Option.some.inj q).symm⟩⟩
        · cases q
      · rename_i htr
        exact ⟨ρ', c, S', hb, hc, .inr ⟨htr, (Option.some.inj q).symm⟩⟩
      · cases q
    · cases q
  · cases q
/-- the reading of a comprehension over a list of the store -/
theorem lcB_read {K : PySem.W.Frag} {own : List Nat} {elt cnd : IE} {tg : Tg} {tt : TT} {bx : Bool} {src : IE} (hown : ∀ i ∈ slots tg, i ∈ own)
    (ht : ∀ σ H Q, tT g (fun _ _ _ _ => False) (evE E cnd) σ H Q → tt σ H Q) {σ : L2.St} {H : Hp} {Q : VK} (h : tE g W (evE E (.lcB bx own elt tg src cnd)) σ H Q) :
    tLc (iList K (tE g W (evE E src))) (tG g tg) tt (tE g (fun _ _ _ _ => False) (evE E elt)) own σ H Q := by
  obtain ⟨fb, m, ρ, S, o, rs, e, Gd⟩ := h
  rw [lcB_ev] at e
  refine tE_bnd e rs Gd fun t S1 v m1 H1 e1 x1 rs1 r1 Gd1 => ?_
  cases t <;> try (cases e1; done)
  rename_i k
  have e1 : (match lcBL (lcG E own elt tg cnd ρ) k E.wf 0 [] S1 with | some (ys, S2) => some (newL bx (.lst ys) S2) | none => none) = some o := e1
  split at e1
  rotate_left
  · cases e1
  rename_i ys S2 el
  simp only [Option.some.injEq] at e1
  subst e1
  have r1' := r1
  simp only [Rep] at r1'
  obtain ⟨a, hk, rfl⟩ := r1'
  have env1 := rs1.env
  have sr1 := rs1.sto
  obtain ⟨vs0, hv0⟩ : ∃ vs0, H1 a = some (.lst vs0) := by
    cases hw : E.wf with
    | zero => rw [hw] at el; cases el
    | succ f =>
      rw [hw] at el
      simp only [lcBL] at el
      split at el
      · rename_i l hl
        obtain ⟨vs, q1, q2⟩ := sr1.at_ k _ a hl hk
        exact ⟨vs, q1⟩
      · cases el
  refine ⟨a, rfl, ⟨vs0, SqL.of hv0⟩, fun D hD => ?_⟩
  have D1 : D ∉ m1 := sr1.fresh hD
  have Df : D ∉ fb := sr1.freshF hD
  have hf0 : ∀ a ∈ (D :: fb), a ∈ (g.w fb).fb ∨ H1 a = none := fun a ha => by
    rcases List.mem_cons.mp ha with q | q
    · exact .inr (by rw [q]; exact hD)
    · exact .inl q
  refine ⟨fun i f H2 => ∃ m2 S acc vs, Ext m1 H1 m2 H2 ∧ SRep (g.w (D :: fb)) m2 H2 S ∧ H2 D = some (.lst vs) ∧ RepL (g.w (D :: fb)) m2 H2 acc vs ∧ lcBL (lcG E own elt tg cnd ρ) k f i acc S = some (ys, S2), ⟨E.wf, m1, S1, [], [], Ext.new hD, ?_, upd_same, RepL.nil, el⟩, ?_⟩
  · refine ⟨sr1.len, sr1.nd, fun n ob a h1 h2 => ?_, fun a ha => ?_, tab_new sr1.tab hD⟩
    · have z := sr1.at_ n ob a h1 h2
      refine z.step (g := g.w fb) (fb' := D :: fb) (fun _ _ q => q) (fun b o q _ n f => ⟨by rw [upd_ne (ne_of_none q hD)]; exact q, n, fun z => ?_⟩) (upd_ne fun q => ?_)
      · rcases hf0 b z with z | z
        · exact f z
        · rw [q] at z; cases z
      · obtain ⟨u, e⟩ := z.there
        rw [q, hD] at e; cases e
    · rcases List.mem_cons.mp ha with q | q
      · subst q; exact ⟨⟨_, upd_same, by intro ps z; cases z⟩, D1⟩
      · obtain ⟨⟨ws, z1, z3⟩, z2⟩ := sr1.fbs a q
        exact ⟨⟨ws, by rw [upd_ne (ne_of_none z1 hD)]; exact z1, z3⟩, z2⟩
  · rintro i f H2 ⟨m2, S, acc, vs, x2, sr2, d2, rl2, el2⟩
    cases f with
    | zero => cases el2
    | succ f =>
    simp only [lcBL] at el2
    split at el2
    rotate_left
    · cases el2
    rename_i l hl
    obtain ⟨us, hu, ru⟩ := sr2.at_ k _ a hl (x2.get hk)
    cases hi : l[i]? with
    | none =>
      rw [hi] at el2
      simp only [Option.some.injEq, Prod.mk.injEq] at el2
      obtain ⟨rfl, rfl⟩ := el2
      refine .inl ⟨⟨us, SqL.of hu, ?_⟩, ?_⟩
      · rw [← ru.length]; exact List.getElem?_eq_none_iff.mp hi
      · have Dm : D ∉ m2 := (sr2.fbs D List.mem_cons_self).2
        cases bx with
        | false =>
          have low : ∀ a o, H2 a = some o → NT o → a ∉ m2 → a ∉ (g.w (D :: fb)).fb → H2 a = some o ∧ a ∉ m2 ∧ a ∉ fb := fun a o q _ n f => ⟨q, n, fun z => f (List.mem_cons_of_mem _ z)⟩
          refine Gd1 (.ref D) m2 H2 x2 ⟨sr2.len, sr2.nd, fun n ob a h1 h2 => (sr2.at_ n ob a h1 h2).step (g := g.w (D :: fb)) (fb' := fb) (fun _ _ q => q) low rfl, fun a ha => sr2.fbs a (List.mem_cons_of_mem _ ha), sr2.tab⟩ ?_
          simp only [Rep]
          exact ⟨D, vs, rfl, Dm, Df, d2, RepL.step (g := g.w (D :: fb)) (fb' := fb) (fun _ _ q => q) low _ rl2⟩
        | true =>
          have low : ∀ a o, H2 a = some o → NT o → a ∉ m2 → a ∉ (g.w (D :: fb)).fb → H2 a = some o ∧ a ∉ m2 ++ [D] ∧ a ∉ fb := fun a o q _ n f => ⟨q, fun z => by
            rcases List.mem_append.mp z with z | z
            · exact n z
            · exact f (by simp only [List.mem_singleton] at z; rw [z]; exact List.mem_cons_self), fun z => f (List.mem_cons_of_mem _ z)⟩
          have hget : ∀ (n : Nat) (a : Addr), m2[n]? = some a → (m2 ++ [D])[n]? = some a := fun n a q => by
            rw [List.getElem?_append_left (List.getElem?_eq_some_iff.mp q).1]; exact q
          obtain ⟨k, hk1, hk2⟩ := x2.grow
          refine Gd1 (.ref D) (m2 ++ [D]) H2 ⟨⟨k ++ [D], by rw [hk1, List.append_assoc], fun a ha => ?_⟩, x2.keepN, x2.there, x2.frz⟩ ⟨by simp [sr2.len], ?_, fun n ob a h1 h2 => ?_, fun a ha => ?_, sr2.tab⟩ ?_
          · rcases List.mem_append.mp ha with q | q
            · exact hk2 a q
            · simp only [List.mem_singleton] at q; rw [q]
              rintro ⟨u, e, _⟩
              rw [hD] at e; cases e
          · refine List.nodup_append.mpr ⟨sr2.nd, by simp, fun a ha b hb e => ?_⟩
            simp only [List.mem_singleton] at hb
            subst hb; subst e
            exact Dm ha
          · by_cases hn : n < S.length
            · rw [List.getElem?_append_left hn] at h1
              rw [List.getElem?_append_left (by rw [sr2.len]; exact hn)] at h2
              exact (sr2.at_ n ob a h1 h2).step (g := g.w (D :: fb)) (fb' := fb) hget low rfl
            · have e1 : n = S.length := by
                have := (List.getElem?_eq_some_iff.mp h1).1
                simp at this
                omega
              subst e1
              rw [List.getElem?_append_right (Nat.le_refl _)] at h1
              rw [List.getElem?_append_right (by rw [sr2.len]; exact Nat.le_refl _)] at h2
              simp [sr2.len] at h1 h2
              subst h1; subst h2
              exact ⟨vs, d2, RepL.step (g := g.w (D :: fb)) (fb' := fb) hget low _ rl2⟩
          · obtain ⟨z1, z2⟩ := sr2.fbs a (List.mem_cons_of_mem _ ha)
            refine ⟨z1, fun z => ?_⟩
            rcases List.mem_append.mp z with z | z
            · exact z2 z
            · simp only [List.mem_singleton] at z; exact Df (by rw [← z]; exact ha)
          · simp only [Rep]
            exact ⟨D, by rw [← sr2.len]; simp, rfl⟩
    | some t =>
      rw [hi] at el2
      dsimp only at el2
      obtain ⟨x, hx, rt⟩ := ru.get hi
      refine .inr ⟨⟨us, x, SqL.of hu, hx⟩, fun H3 => ∃ m2 S acc vs, Ext m1 H1 m2 H3 ∧ SRep (g.w (D :: fb)) m2 H3 S ∧ H3 D = some (.lst vs) ∧ RepL (g.w (D :: fb)) m2 H3 acc vs ∧ lcBL (lcG E own elt tg cnd ρ) k f (i + 1) acc S = some (ys, S2), fun H3 h3 => ⟨f, Nat.lt_succ_self _, h3⟩, ?_⟩
      rintro x' H3 ⟨rfl, hx'⟩
      have ex := hx' us (SqL.of hu)
      rw [hx] at ex
      cases ex
      have x3 := x2
      have sr3 := sr2
      have d3 := d2
      have rl3 := rl2
      have env3 : ERep (g.w (D :: fb)) m2 H3 ρ σ := ⟨env1.1, fun j u q => by
        obtain ⟨v, q1, q2⟩ := env1.2 j u q
        exact ⟨v, q1, Rep.grow x3 hf0 q2⟩⟩
      have turn : ∃ ρ' c S', bindT tg t (wipeR ρ own) = some ρ' ∧ evE E cnd ρ' S = some (.ok c S') ∧ ((truthy S' c = some true ∧ ∃ y S'', evE E elt ρ' S' = some (.ok y S'') ∧ acc.length < line ∧ lcBL (lcG E own elt tg cnd ρ) k f (i + 1) (acc ++ [y]) S'' = some (ys, S2)) ∨ (truthy S' c = some false ∧ lcBL (lcG E own elt tg cnd ρ) k f (i + 1) acc S' = some (ys, S2))) := by
        split at el2
        · rename_i y S'' q1
          split at el2
          · rename_i q2
            obtain ⟨ρ', c, S', hb, hc, q⟩ := lcG_turn q1
            rcases q with ⟨htr, y', S3, hy, er⟩ | ⟨_, er⟩
            · cases er
              exact ⟨ρ', c, S', hb, hc, .inl ⟨htr, y, S'', hy, q2, el2⟩⟩
            · cases er
          · cases el2
        · rename_i S'' q1
          obtain ⟨ρ', c, S', hb, hc, q⟩ := lcG_turn q1
          rcases q with ⟨htr, y', S3, hy, er⟩ | ⟨htr, er⟩
          · cases er
          · cases er
            exact ⟨ρ', c, S'', hb, hc, .inr ⟨htr, el2⟩⟩
        · cases el2
      obtain ⟨ρ', c, S', hb, hc, res⟩ := turn
      refine ⟨D :: fb, m2, t, wipeR ρ own, ρ', S, ⟨env3.wipe own, sr3⟩, rt, hb, fun σ2 rs2 k2 => ⟨?_, ht σ2 H3 _ ?_⟩⟩
      · rw [k2 own hown, wipe_idem]
      refine ⟨D :: fb, m2, ρ', S, .ok c S', rs2, hc, ?_⟩
      rcases res with ⟨htr, y, S'', hy, hlen, hrest⟩ | ⟨htr, hrest⟩
      · refine ⟨true, htr, fun m4 H4 x4 sr4 => iteT ⟨D :: fb, m4, ρ', S', .ok y S'', ⟨rs2.env.mono x4, sr4⟩, hy, fun v m5 H5 x5 sr5 r5 => ?_⟩⟩
        have x35 := x4.trans x5
        have Dm3 : D ∉ m2 := (sr3.fbs D List.mem_cons_self).2
        have d5 : H5 D = some (.lst vs) := x35.keep _ _ d3 Dm3
        have Dm5 : D ∉ m5 := (sr5.fbs D List.mem_cons_self).2
        have rl5 := RepL.mono x35 acc rl3
        have upk : ∀ a o, H5 a = some o → NT o → a ∉ m5 → a ∉ (g.w (D :: fb)).fb → (upd H5 D (.lst (vs ++ [v]))) a = some o ∧ a ∉ m5 ∧ a ∉ (D :: fb) := fun a o q _ n f => ⟨by
          rw [upd_ne fun z => f (by rw [z]; exact List.mem_cons_self)]; exact q, n, f⟩
        refine ⟨vs, d5, by rw [← rl5.length, ← line_eq]; exact hlen, m5, S'', acc ++ [y], vs ++ [v], ?_, ?_, upd_same, ?_, hrest⟩
        · have z := x3.trans x35
          refine ⟨z.grow, fun a o q hn n => ?_, fun a q n => ?_, fun a od u q => by rw [upd_ne (ne_of_none q hD)]; exact z.frz a od u q⟩
          · rw [upd_ne (ne_of_none q hD)]; exact z.keepN a o q hn n
          · by_cases q2 : a = D
            · rw [q2]; exact ⟨_, upd_same, by intro ps z; cases z⟩
            · obtain ⟨u, n1, n2⟩ := z.there a q n
              exact ⟨u, by rw [upd_ne q2]; exact n1, n2⟩
        · refine ⟨sr5.len, sr5.nd, fun n ob a h1 h2 => ?_, fun a ha => ?_, tab_write sr5.tab d5 (.inl ⟨_, rfl⟩)⟩
          · have z := sr5.at_ n ob a h1 h2
            have ha : a ≠ D := fun q => Dm5 (by rw [← q]; exact List.mem_of_getElem? h2)
            exact z.step (g := g.w (D :: fb)) (fb' := D :: fb) (fun _ _ q => q) upk (upd_ne ha)
          · obtain ⟨⟨ws, z1, z3⟩, z2⟩ := sr5.fbs a ha
            refine ⟨?_, z2⟩
            by_cases q2 : a = D
            · rw [q2]; exact ⟨_, upd_same, by intro ps z; cases z⟩
            · exact ⟨ws, by rw [upd_ne q2]; exact z1, z3⟩
        · exact RepL.step (g := g.w (D :: fb)) (fb' := D :: fb) (fun _ _ q => q) upk _ (rl5.append (RepL.cons r5 RepL.nil))
      · refine ⟨false, htr, fun m4 H4 x4 sr4 => iteF ?_⟩
        exact ⟨m4, S', acc, vs, x3.trans x4, sr4, x4.keep _ _ d3 (sr3.fbs D List.mem_cons_self).2, RepL.mono x4 acc rl3, hrest⟩
end
end Fw

namespace Fw
open PySem L2 PyProof.Rows

/-! ### a dict is locked while it is walked -/
section
variable {g : GW}
/-- what a box of a dict holds, free -/
def DU (g : GW) (m : List Addr) (H : Hp) (dv : DV) (l : List (T × T)) (a : Addr) (u : HO) : Prop :=
  (∃ xs, u = DkO g.pr g.wd a xs ∧ DRep g m H l a xs) ∨ (dv = .keys ∧ ∃ xs : List (Key × V), u = .dK xs ∧ l.length ≤ sizeLine ∧ KY g m H l xs ∧ (xs.map (·.1)).Nodup)
theorem DU.mut {m : List Addr} {H : Hp} {dv : DV} {l : List (T × T)} {a : Addr} {u : HO} (h : DU g m H dv l a u) : Mut (some u) ∧ (∀ od u', u ≠ .frz od u') ∧ BxO u a := by
  rcases h with ⟨xs, rfl, _⟩ | ⟨_, xs, rfl, _⟩
  · exact ⟨True.intro, fun _ _ z => (by unfold DkO at z; cases z), .inr (.inl ⟨_, _, _, rfl⟩)⟩
  · exact ⟨True.intro, fun _ _ z => (by cases z), .inr (.inr (.inr ⟨_, rfl⟩))⟩
theorem lk_at {m : List Addr} {H : Hp} {S S2 : Sto} {dv : DV} {k : Nat} {l : List (T × T)} {a : Addr} (sr : SRep g m H S) (e : lkD dv S k = some (l, S2)) (hk : m[k]? = some a) :
    ∃ u, H a = some u ∧ DU g m H dv l a u ∧ ∀ od, Ext m H m (upd H a (.frz od u)) ∧ SRep g m (upd H a (.frz od u)) S2 ∧ DU g m (upd H a (.frz od u)) dv l a u := by
  have hm := List.mem_of_getElem? hk
  unfold lkD at e
  split at e
  · rename_i l' hl
    simp only [Option.some.injEq, Prod.mk.injEq] at e
    obtain ⟨rfl, rfl⟩ := e
    obtain ⟨xs, q1, q2, q3, q4, q5⟩ := sr.at_ k _ a hl hk
    refine ⟨_, q1, .inl ⟨xs, rfl, q2, q3, q4, q5⟩, fun od => ?_⟩
    have hf : ∀ od u, H a ≠ some (.frz od u) := fun od u z => by rw [q1] at z; unfold DkO at z; cases z
    have x : Ext m H m (upd H a (.frz od (DkO g.pr g.wd a xs))) := Ext.write hm hf
    exact ⟨x, sr.writeO hk hf (q := ⟨xs, od, upd_same, q2, q3, KD.mono x q4, q5⟩), .inl ⟨xs, rfl, q2, q3, KD.mono x q4, q5⟩⟩
  · rename_i l' hl
    split at e
    · simp only [Option.some.injEq, Prod.mk.injEq] at e
      obtain ⟨rfl, rfl⟩ := e
      obtain ⟨xs, q1, q2, q4, q5⟩ := sr.at_ k _ a hl hk
      refine ⟨_, q1, .inr ⟨rfl, xs, rfl, q2, q4, q5⟩, fun od => ?_⟩
      have hf : ∀ od u, H a ≠ some (.frz od u) := fun od u z => by rw [q1] at z; cases z
      have x : Ext m H m (upd H a (.frz od (.dK xs))) := Ext.write hm hf
      exact ⟨x, sr.writeO hk hf (q := ⟨xs, od, upd_same, q2, KY.mono x q4, q5⟩), .inr ⟨rfl, xs, rfl, q2, KY.mono x q4, q5⟩⟩
    · cases e
  · cases e
theorem un_at {m m' : List Addr} {H H' : Hp} {S' S'' : Sto} {k : Nat} {a : Addr} {od : Obj} {u : HO} (hk : m[k]? = some a) (hu : H a = some u) (hf : ∀ od u', u ≠ .frz od u') (nt : NT u) (x : Ext m (upd H a (.frz od u)) m' H') (sr : SRep g m' H' S') (e : unD S' k = some S'') :
    H' a = some (.frz od u) ∧ Ext m H m' (upd H' a u) ∧ SRep g m' (upd H' a u) S'' ∧ (∀ t v, Rep g m' H' t v → Rep g m' (upd H' a u) t v) := by
  have hA : H' a = some (.frz od u) := x.frz a od u upd_same
  have hk' : m'[k]? = some a := x.get hk
  have hm' : a ∈ m' := List.mem_of_getElem? hk'
  have hkk : k < S'.length := by rw [← sr.len]; exact (List.getElem?_eq_some_iff.mp hk').1
  have st : ∀ b o, H' b = some o → NT o → b ∉ m' → b ∉ g.fb → (upd H' a u) b = some o ∧ b ∉ m' ∧ b ∉ g.fb := fun b o q _ n f => ⟨by
    rw [upd_ne fun z => n (by rw [z]; exact hm')]; exact q, n, f⟩
  have sid : ∀ (n : Nat) (b : Addr), m'[n]? = some b → m'[n]? = some b := fun _ _ q => q
  refine ⟨hA, ⟨?_, fun b o q hn n => ?_, fun b hb ⟨o, q, hn⟩ => ?_, fun b o v q => ?_⟩, ⟨?_, sr.nd, fun n ob b h1 h2 => ?_, fun b hb => ?_, tab_write sr.tab hA (.inr (.inr (.inl ⟨_, _, rfl⟩)))⟩, fun t v r => Rep.step (g := g) (fb' := g.fb) sid st t r⟩
  · obtain ⟨l, rfl, hl⟩ := x.grow
    refine ⟨l, rfl, fun b hb ⟨o, q, hn⟩ => hl b hb ?_⟩
    by_cases z : b = a
    · subst z; exact ⟨_, upd_same, fun ps z => by cases z⟩
    · exact ⟨o, by rw [upd_ne z]; exact q, hn⟩
  · have z : b ≠ a := fun z => n (by rw [z]; exact List.mem_of_getElem? hk)
    rw [upd_ne z]
    exact x.keepN b o (by rw [upd_ne z]; exact q) hn n
  · by_cases z : b = a
    · subst z; exact ⟨u, upd_same, nt⟩
    · obtain ⟨o', q1, q2⟩ := x.there b hb ⟨o, by rw [upd_ne z]; exact q, hn⟩
      exact ⟨o', by rw [upd_ne z]; exact q1, q2⟩
  · have z : b ≠ a := fun z => by
      subst z
      rw [hu] at q
      exact hf _ _ (Option.some.inj q)
    rw [upd_ne z]
    exact x.frz b o v (by rw [upd_ne z]; exact q)
  · unfold unD at e
    split at e <;> simp only [Option.some.injEq, reduceCtorEq] at e
    · rw [← e, List.length_set]; exact sr.len
    · rw [← e, List.length_set]; exact sr.len
  · unfold unD at e
    split at e <;> simp only [Option.some.injEq, reduceCtorEq] at e
    · rename_i l' hl
      subst e
      by_cases en : n = k
      · subst en
        rw [List.getElem?_set_self hkk] at h1
        cases h1
        rw [hk'] at h2; cases h2
        obtain ⟨xs, od', q1, q2, q3, q4, q5⟩ := sr.at_ n _ a hl hk'
        rw [hA] at q1
        injection q1 with q1
        injection q1 with _ q1
        exact ⟨xs, by rw [upd_same, q1], q2, q3, KD.step (g := g) (fb' := g.fb) sid st q4, q5⟩
      · rw [List.getElem?_set_ne (Ne.symm en)] at h1
        exact (sr.at_ n ob b h1 h2).step (g := g) (fb' := g.fb) sid st (upd_ne fun q => en (nd_ix sr.nd h2 (by rw [q]; exact hk')))
    · rename_i l' hl
      subst e
      by_cases en : n = k
      · subst en
        rw [List.getElem?_set_self hkk] at h1
        cases h1
        rw [hk'] at h2; cases h2
        obtain ⟨xs, od', q1, q2, q4, q5⟩ := sr.at_ n _ a hl hk'
        rw [hA] at q1
        injection q1 with q1
        injection q1 with _ q1
        exact ⟨xs, by rw [upd_same, q1], q2, KY.step (g := g) (fb' := g.fb) sid st q4, q5⟩
      · rw [List.getElem?_set_ne (Ne.symm en)] at h1
        exact (sr.at_ n ob b h1 h2).step (g := g) (fb' := g.fb) sid st (upd_ne fun q => en (nd_ix sr.nd h2 (by rw [q]; exact hk')))
  · obtain ⟨⟨vs, q1, q3⟩, q2⟩ := sr.fbs b hb
    exact ⟨⟨vs, by rw [upd_ne fun z => q2 (by rw [z]; exact hm')]; exact q1, q3⟩, q2⟩
theorem erep_of {m' : List Addr} {H' H'' : Hp} {ρ : Rho} {σ : L2.St} (h : ERep g m' H' ρ σ) (k : ∀ t v, Rep g m' H' t v → Rep g m' H'' t v) : ERep g m' H'' ρ σ :=
  ⟨h.1, fun i t q => let ⟨v, a, b⟩ := h.2 i t q; ⟨v, a, k t v b⟩⟩

/-! ### sources: a locked dict -/
def iKK (g : GW) (td : TE) : TI := fun σ H R => td σ H fun x H1 => (LkX g H1 x fun d o xs vs => R (JK g.pr g.wd d o xs) H1) ∨ ∃ d o kvs, x = .ref d ∧ H1 d = some (.frz o (.dK kvs)) ∧ R (Itk d o kvs) H1
theorem pi_KK {X : Cx} {tg e : Expr} {td : TE} (he : PE X e td) : PI X tg e (iKK g td) := by
  refine ⟨fun pins s σ H R I h => ?_⟩
  refine thn (he.run pins s σ H _ I h) fun u s1 ⟨x, H1, I1, rx, q⟩ => ?_
  rcases q with ⟨d, o, xs, vs, ex, hd, hs, hv, q⟩ | ⟨d, o, kvs, ex, hd, q⟩
  · subst ex
    obtain rfl : u = Value.ref d := rx
    obtain ⟨es, ep, hdt, raw, hx⟩ := frzX I1 hd
    exact wpAny_pyIter_dict_raw hs raw (pi_one (tk := s1.toks) I1 _ (turn_JK _ hdt) ⟨_, Heap.get?_push_size _ rfl, rfl, rfl⟩ q)
  · subst ex
    obtain rfl : u = Value.ref d := rx
    obtain ⟨hg, z⟩ := I1.hok d _ hd
    obtain ⟨z1, hs, vs, kv, dof⟩ := z
    obtain ⟨es, ep, raw, hsz, _⟩ := dof.raw
    have hl : vs.length = kvs.length := kv.length.symm
    have raw' := raw
    obtain ⟨od, r1, r2, r3⟩ := raw'
    have eo : od = o := by rw [hg] at r1; exact (Option.some.inj r1).symm
    subst eo
    refine wpAny_pyIter_dict_raw hs raw (pi_one (tk := s1.toks) I1 _ (turn_keys _ r3) ⟨_, Heap.get?_push_size _ rfl, rfl, ?_⟩ q)
    rw [hsz, hl]; rfl
theorem wk_Itk {m : List Addr} {H : Hp} {l : List (T × T)} {xs : List (Key × V)} {d : Addr} {o : Obj} (hd : H d = some (.frz o (.dK xs))) (kd : KY g m H l xs) : Wk g m H (l.map (·.1)) (Itk d o xs) := by
  have hl : (l.map (·.1)).length = xs.length := by rw [List.length_map, kd.length]
  refine ⟨fun H => H d = some (.frz o (.dK xs)), fun i H x H' => H' = H ∧ ∃ k v, xs[i]? = some (k, v) ∧ x = kV k, by rw [hl]; exact walk_keys, fun m1 H1 x => x.frz _ _ _ hd, fun i fb' m1 H1 x H2 hlt e hfb hf y => ?_⟩
  obtain ⟨rfl, k, v, hy, rfl⟩ := y
  obtain ⟨v', h1, h2⟩ := kd.keys.get (List.getElem?_eq_getElem hlt)
  rw [List.getElem?_map, hy] at h1
  cases h1
  exact ⟨_, List.getElem?_eq_getElem hlt, Rep.grow e hfb h2, .inl rfl⟩
/-- the source, by the way of walking -/
def iB (g : GW) (dv : DV) (R : It → Hp → Prop) : V → Hp → Prop := fun x H1 => match dv with
  | .keys => (LkX g H1 x fun d o xs vs => R (JK g.pr g.wd d o xs) H1) ∨ ∃ d o kvs, x = .ref d ∧ H1 d = some (.frz o (.dK kvs)) ∧ R (Itk d o kvs) H1
  | .vals => LkX g H1 x fun d o xs vs => R (JV g.pr g.wd d o xs vs) H1
  | .items => LkX g H1 x fun d o xs vs => R (JI g.pr g.wd d o xs vs) H1
def iDv (g : GW) (dv : DV) (td : TE) : TI := fun σ H R => td σ H (iB g dv R)
theorem pi_dv {X : Cx} {dv : DV} {tg e o : Expr} {td : TE} (hv : vDv dv tg e = some o) (he : PE X o td) : PI X tg e (iDv g dv td) := by
  unfold vDv at hv
  split at hv
  · cases hv; exact pi_KK he
  · split at hv
    · rename_i n ap pos h
      cases hv
      simp only [Bool.and_eq_true, beq_iff_eq] at h
      obtain ⟨rfl, h1, h2⟩ := h
      exact pi_JV he (nosup h2) (by simpa using h1)
    · cases hv
  · split at hv
    · rename_i n ap pos h
      cases hv
      simp only [Bool.and_eq_true, beq_iff_eq] at h
      obtain ⟨rfl, h1, h2⟩ := h
      exact pi_JI he (nosup h2) (by simpa using h1)
    · cases hv
  · cases hv
/-- what is walked, once locked -/
theorem iDv_go {fb m : List Addr} {H : Hp} {dv : DV} {l : List (T × T)} {a : Addr} {od : Obj} {u : HO} {R : It → Hp → Prop} (hl : H a = some (.frz od u)) (h : DU (g.w fb) m H dv l a u) (q : ∀ J, Wk (g.w fb) m H (dItems dv l) J → R J H) : iB g dv R (.ref a) H := by
  rcases h with ⟨xs, rfl, h1, h2, h3, h4⟩ | ⟨rfl, xs, rfl, h1, h3, h4⟩
  · obtain ⟨vs, r1, r2, r3⟩ := h3.vals
    cases dv with
    | keys => exact .inl ⟨a, od, xs, vs, rfl, hl, h2, r3, q _ (wk_JK (g := g.w fb) hl h3)⟩
    | vals => exact ⟨a, od, xs, vs, rfl, hl, h2, r3, q _ (wk_JV (g := g.w fb) hl h3 r1)⟩
    | items => exact ⟨a, od, xs, vs, rfl, hl, h2, r3, q _ (wk_JI (g := g.w fb) hl h3 r1)⟩
  · exact .inr ⟨a, od, xs, rfl, hl, q _ (wk_Itk (g := g.w fb) hl h3)⟩
/-- .. behind the lock -/
theorem lk_go {fb m : List Addr} {H H0 : Hp} {S S2 : Sto} {dv : DV} {k : Nat} {l : List (T × T)} {v : V} {R : It → Hp → Prop} (sr : SRep (g.w fb) m H S) (e : lkD dv S k = some (l, S2)) (r : Rep (g.w fb) m H (.box k) v)
    (q : ∀ a od u J, m[k]? = some a → H a = some u → (∀ od u', u ≠ .frz od u') → NT u → (∀ o' u', H0 a ≠ some (.frz o' u')) → Ext m H m (upd H a (.frz od u)) → SRep (g.w fb) m (upd H a (.frz od u)) S2 → Wk (g.w fb) m (upd H a (.frz od u)) (dItems dv l) J → R J (upd H a (.frz od u))) :
    ∃ d u, v = .ref d ∧ H d = some u ∧ Mut (some u) ∧ ∀ od, (∀ o' u', H0 d ≠ some (.frz o' u')) → iB g dv R v (upd H d (.frz od u)) := by
  simp only [Rep] at r
  obtain ⟨a, hk, rfl⟩ := r
  obtain ⟨u, hu, du, z⟩ := lk_at sr e hk
  obtain ⟨mu, nf, bx⟩ := du.mut
  refine ⟨a, u, rfl, hu, mu, fun od hn => ?_⟩
  obtain ⟨x, sr2, du2⟩ := z od
  exact iDv_go upd_same du2 fun J wk => q a od u J hk hu nf bx.nt hn x sr2 wk

/-! ### comprehensions over a dict -/
variable {G : Gm} {E : EV} {W : WX} {X : Cx}
theorem lcD_ev {bx : Bool} {own : List Nat} {elt : IE} {tg : Tg} {dv : DV} {src cnd : IE} {ρ : Rho} {S : Sto} : evE E (.lcD bx own elt tg dv src cnd) ρ S = bnd (evE E src ρ S) fun x S1 => (match x with
    | .box k => (match lkD dv S1 k with
      | some (l, S2) => (match lcL (lcG E own elt tg cnd ρ) (dItems dv l) [] S2 with
        | some (ys, S3) => (match unD S3 k with | some S4 => some (newL bx (.lst ys) S4) | none => none)
        | none => none)
      | none => none)
    | _ => none) := rfl
theorem unD_app {S S' : Sto} {k : Nat} {ob : Ob} (h : unD S k = some S') : unD (S ++ [ob]) k = some (S' ++ [ob]) ∧ S'.length = S.length := by
  unfold unD at h ⊢
  split at h <;> simp only [Option.some.injEq, reduceCtorEq] at h
  · rename_i l hl
    have hk := (List.getElem?_eq_some_iff.mp hl).1
    subst h
    rw [List.getElem?_append_left hk, hl]
    exact ⟨by simp only; rw [List.set_append_left _ _ hk], List.length_set⟩
  · rename_i l hl
    have hk := (List.getElem?_eq_some_iff.mp hl).1
    subst h
    rw [List.getElem?_append_left hk, hl]
    exact ⟨by simp only; rw [List.set_append_left _ _ hk], List.length_set⟩
theorem newL_un {bx : Bool} {ys : List T} {S3 S4 : Sto} {k : Nat} (h : unD S3 k = some S4) : ∃ t S S', newL bx (.lst ys) S3 = .ok t S ∧ newL bx (.lst ys) S4 = .ok t S' ∧ unD S k = some S' := by
  cases bx with
  | false => exact ⟨_, _, _, rfl, rfl, h⟩
  | true =>
    obtain ⟨h1, h2⟩ := unD_app (ob := .lst ys) h
    refine ⟨.box S3.length, _, _, rfl, ?_, h1⟩
    show Out.ok (.box S4.length) (S4 ++ [.lst ys]) = _
    rw [h2]
theorem lcD_read {H0 : Hp} {own : List Nat} {elt cnd : IE} {tg : Tg} {dv : DV} {tt : TT} {bx : Bool} {src : IE} (hown : ∀ i ∈ slots tg, i ∈ own)
    (ht : ∀ σ H Q, tT g (fun _ _ _ _ => False) (evE E cnd) σ H Q → tt σ H Q) {σ : L2.St} {H : Hp} {Q : VK} (h : tE g W (evE E (.lcD bx own elt tg dv src cnd)) σ H Q) :
    tUnlE H0 (tLc (iDv g dv (tLk H0 (tE g W (evE E src)))) (tG g tg) tt (tE g (fun _ _ _ _ => False) (evE E elt)) own) σ H Q := by
  obtain ⟨fb, m, ρ, S, o, rs, e, Gd⟩ := h
  rw [lcD_ev] at e
  refine tE_bnd e rs Gd fun t S1 v m1 H1 e1 x1 rs1 r1 Gd1 => ?_
  cases t <;> try (cases e1; done)
  rename_i k
  simp only at e1
  split at e1
  · rename_i l S2 hlk
    split at e1
    · rename_i ys S3 hys
      split at e1
      · rename_i S4 hun
        simp only [Option.some.injEq] at e1
        subst e1
        refine lk_go rs1.sto hlk r1 fun a od u J hk hu nf nt hn x2 sr2 wk => ?_
        refine lcJ_read (W := W) (bx := bx) (Q := fun v H' => ∃ d od u, H' d = some (.frz od u) ∧ (∀ o' u', H0 d ≠ some (.frz o' u')) ∧ Q v (upd H' d u)) hown ht (rs1.env.mono x2) sr2 wk hys ?_
        obtain ⟨t, S5, S6, n1, n2, n3⟩ := newL_un (bx := bx) (ys := ys) hun
        rw [n1]
        rw [n2] at Gd1
        intro v' m' H' x' sr' r'
        obtain ⟨u1, u2, u3, u4⟩ := un_at (g := g.w fb) hk hu nf nt x' sr' n3
        exact ⟨a, od, u, u1, hn, Gd1 v' m' _ u2 u3 (u4 _ _ r')⟩
      · cases e1
    · cases e1
  · cases e1
end
end Fw

namespace Fw
open PySem L2 PyProof.Rows

section
variable {G : Gm} {g : GW} {E : EV} {W : WX} {X : Cx}
theorem vVw_vals {y o : Expr} (h : vVw .vals y = some o) : ∃ ap pos, y = .Call (.Attribute o "values" ap) [] [] pos ∧ (ap.endLine == pos.line) = true ∧ noSup o = true := by
  unfold vVw at h
  split at h
  · split at h
    · rename_i h2
      cases h
      simp only [Bool.and_eq_true, beq_iff_eq] at h2
      obtain ⟨rfl, h3, h4⟩ := h2
      exact ⟨_, _, rfl, by simpa using h3, h4⟩
    · cases h
  · rename_i z
    cases z
  · cases h
theorem vVw_items {y o : Expr} (h : vVw .items y = some o) : ∃ ap pos, y = .Call (.Attribute o "items" ap) [] [] pos ∧ (ap.endLine == pos.line) = true ∧ noSup o = true := by
  unfold vVw at h
  split at h
  · rename_i z
    cases z
  · split at h
    · rename_i h2
      cases h
      simp only [Bool.and_eq_true, beq_iff_eq] at h2
      obtain ⟨rfl, h3, h4⟩ := h2
      exact ⟨_, _, rfl, by simpa using h3, h4⟩
    · cases h
  · cases h
/-! ### list(d.values()), list(d.items()) -/
theorem fin_many {m : List Addr} {σ : L2.St} {H H' : Hp} {S : Sto} {Q : VK} {ys : List T} {l : Addr} {vs : List V} (Gd : GoodE g W m σ H Q (.ok (.lst ys) S)) (sr : SRep g m H S) (up : ∀ b o, H b = some o → H' b = some o) (hl : H l = none) (at' : H' l = some (.lst vs)) (rl : RepL g m H' ys vs) : Q (.ref l) H' := by
  have x : Ext m H m H' := ⟨⟨[], by simp, by simp⟩, fun a o e _ _ => up a o e, fun a _ ⟨o, e, n⟩ => ⟨o, up a o e, n⟩, fun a od u e => up a _ e⟩
  refine Gd (.ref l) m H' x ⟨sr.len, sr.nd, fun n ob a h1 h2 => ?_, x.fbs sr.fbs, sr.tab.ext fun b u e => up b u e⟩ ?_
  · have z := sr.at_ n ob a h1 h2
    obtain ⟨o, e⟩ := z.there
    exact z.mono x (by rw [up a o e, e])
  · simp only [Rep]
    exact ⟨l, vs, rfl, sr.fresh hl, sr.freshF hl, at', rl⟩
theorem pe_dls_ {bx : Bool} {dv : DV} {a : IE} {e y o : Expr} {x : Str} (xo : XOk G g E W X) (hv : vCall e = some (x, [y])) (hw : vVw dv y = some o) (hx : x = "list") (hg : bltB G x = true) (hb : (isItems dv && bx) = false) (hs : noStar y = true) (ha : PE X o (tE g W (evE E a))) : PE X e (tE g W (evE E (.dls bx dv a))) := by
  obtain ⟨p, q, a', es', rfl, hr⟩ := vCall_eq hv
  cases hr
  subst hx
  obtain ⟨gl, db, hm, nn⟩ := bltB_gl xo hg
  -- the reading up to the view
  have rd : ∀ {σ H Q}, tE g W (evE E (.dls bx dv a)) σ H Q → ∀ R : VK, (∀ (fb m : List Addr) (ρ : Rho) (S : Sto) (k : Nat) (l : List (T × T)) (v : V) (m1 : List Addr) (H1 : Hp) (b : Addr) (xs : List (NestedKey × Addr × Value)), RS (g.w fb) m1 σ H1 ρ S → m1[k]? = some b → S[k]? = some (.dct l) → v = .ref b → H1 b = some (DkO g.pr g.wd b xs) → DRep (g.w fb) m1 H1 l b xs → dv ≠ .keys → GoodE (g.w fb) W m1 σ H1 Q (newL bx (.lst (dItems dv l)) S) → R v H1) → tE g W (evE E a) σ H R := by
    rintro σ H Q ⟨fb, m, ρ, S, o', rs, eq, Gd⟩ R hR
    simp only [evE] at eq
    refine tE_bnd eq rs Gd fun t S1 v m1 H1 e1 x1 rs1 r1 Gd1 => ?_
    cases t <;> try (cases e1; done)
    rename_i k
    simp only at e1
    split at e1
    · rename_i l hl
      simp only [Rep] at r1
      obtain ⟨b, hk, rfl⟩ := r1
      obtain ⟨xs, q1, q2⟩ := rs1.sto.at_ k _ b hl hk
      have hdv : dv ≠ .keys := fun z => by subst z; cases e1
      have e1 : some (newL bx (.lst (dItems dv l)) S1) = some o' := by
        cases dv
        · exact absurd rfl hdv
        · exact e1
        · exact e1
      simp only [Option.some.injEq] at e1
      subst e1
      exact hR fb m ρ S1 k l _ m1 H1 b xs rs1 hk hl rfl q1 q2 hdv Gd1
    · cases e1
  cases dv with
  | keys => unfold vVw at hw; split at hw <;> first | (rename_i z; cases z; done) | (cases hw; done)
  | vals =>
    obtain ⟨ap, pos, rfl, h1, h2⟩ := vVw_vals hw
    have inner := pe_vals (g := g) (apos := ap) (cpos := pos) ha (nosup h2) h1
    refine (pe_callTy (call_list_vals (g := g) xo.calm) gl hm (by decide +kernel) (pa_cons inner pa_nil (starEach_cons hs)) nn db (starEach_cons hs) rfl).of fun σ H Q z => ?_
    refine rd z _ fun fb m ρ S k l v m1 H1 b xs rs1 hk hl hv' q1 q2 hdv Gd1 => ?_
    obtain ⟨d1, d2, d3, d4⟩ := q2
    obtain ⟨vs, r1, r2, r3⟩ := d3.vals
    refine ⟨b, xs, hv', .inl q1, d2, fun p2 hp2 => ?_⟩
    have x2 : Ext m1 H1 m1 (upd H1 p2 (VwO "dict_values" p2 b)) := Ext.new hp2
    have hne : b ≠ p2 := ne_of_none q1 hp2
    refine ⟨p2, b, xs, vs, rfl, upd_same, .inl (by rw [upd_ne hne]; exact q1), by rw [← d3.length]; exact d1, r2, r3, fun q' hq' => ?_⟩
    exact fin_lst (Gd1.ext x2) (rs1.sto.new hp2) (RepL.mono x2 _ r1) q' hq'
  | items =>
    have hbx : bx = false := by
      cases bx
      · rfl
      · simp [isItems] at hb
    subst hbx
    obtain ⟨ap, pos, rfl, h1, h2⟩ := vVw_items hw
    have inner := pe_itms (g := g) (apos := ap) (cpos := pos) ha (nosup h2) h1
    refine (pe_callTy (call_list_itms (g := g) xo.calm) gl hm (by decide +kernel) (pa_cons inner pa_nil (starEach_cons hs)) nn db (starEach_cons hs) rfl).of fun σ H Q z => ?_
    refine rd z _ fun fb m ρ S k l v m1 H1 b xs rs1 hk hl hv' q1 q2 hdv Gd1 => ?_
    obtain ⟨d1, d2, d3, d4⟩ := q2
    obtain ⟨vs, r1, r2, r3⟩ := d3.vals
    refine ⟨b, xs, hv', .inl q1, d2, fun p2 hp2 => ?_⟩
    have x2 : Ext m1 H1 m1 (upd H1 p2 (VwO "dict_items" p2 b)) := Ext.new hp2
    have hne : b ≠ p2 := ne_of_none q1 hp2
    have sr2 := rs1.sto.new (o := VwO "dict_items" p2 b) hp2
    refine ⟨p2, b, xs, vs, rfl, upd_same, .inl (by rw [upd_ne hne]; exact q1), by rw [← d3.length]; exact d1, r2, r3, fun H' l' ts up hl' hts hno hat hlen hnd off att => ?_⟩
    refine fin_many (g := g.w fb) (Gd1.ext x2) sr2 up hl' hat ?_
    have x3 : Ext m1 (upd H1 p2 (VwO "dict_items" p2 b)) m1 H' := ⟨⟨[], by simp, by simp⟩, fun a o e _ _ => up a o e, fun a _ ⟨o, e, n⟩ => ⟨o, up a o e, n⟩, fun a od u e => up a _ e⟩
    have kk := RepL.mono (x2.trans x3) _ d3.keys
    have vv := RepL.mono (x2.trans x3) _ r1
    -- the pairs
    have key : ∀ (l : List (T × T)) (ks : List V) (vs : List V) (ts : List Addr), RepL (g.w fb) m1 H' (l.map (·.1)) ks → RepL (g.w fb) m1 H' (l.map (·.2)) vs → ts.length = l.length →
        (∀ (i : Nat) (t : Addr) (k v : V), ts[i]? = some t → ks[i]? = some k → vs[i]? = some v → t ∉ m1 ∧ t ∉ fb ∧ H' t = some (.tup [k, v])) → RepL (g.w fb) m1 H' (l.map fun p => T.tup [p.1, p.2]) (ts.map V.ref) := by
      intro l
      induction l with
      | nil =>
        intro ks vs ts _ _ hz _
        have : ts = [] := List.eq_nil_of_length_eq_zero hz
        subst this; exact RepL.nil
      | cons p l ih =>
        intro ks vs ts h1 h2 hz h3
        simp only [List.map_cons, RepL] at h1 h2
        obtain ⟨k, ks', rfl, k1, k2⟩ := h1
        obtain ⟨v, vs', rfl, v1, v2⟩ := h2
        cases ts with
        | nil => simp at hz
        | cons t ts =>
          refine RepL.cons ?_ (ih ks' vs' ts k2 v2 (by simpa using hz) fun i t' k' v' e1 e2 e3 => h3 (i + 1) t' k' v' (by simpa using e1) (by simpa using e2) (by simpa using e3))
          obtain ⟨n1, n2, n3⟩ := h3 0 t k v rfl rfl rfl
          simp only [Rep]
          exact ⟨t, [k, v], rfl, .inl ⟨n1, n2, .inl n3⟩, RepL.cons k1 (RepL.cons v1 RepL.nil)⟩
    refine key l _ vs ts kk vv (by rw [hlen, d3.length]) fun i t k' v' e1 e2 e3 => ?_
    have ht := hts t (List.mem_of_getElem? e1)
    refine ⟨sr2.fresh ht, sr2.freshF ht, ?_⟩
    rw [List.getElem?_map, Option.map_eq_some_iff] at e2
    obtain ⟨y, y1, rfl⟩ := e2
    exact att i t y v' e1 y1 e3
end
end Fw

namespace Fw
open PySem L2 PyProof.Rows

/-! ### sorted texts -/
def leS (a b : Str) : Prop := Spec.ltCps b.cps.toList a.cps.toList = false
theorem leS_iff {a b : Str} : leS a b ↔ a.cps.toList ≤ b.cps.toList := by
  unfold leS
  rw [ltCps_eq, decide_eq_false_iff_not]
  exact List.not_lt
theorem leS_trans {a b c : Str} (h : leS a b) (h2 : leS b c) : leS a c := leS_iff.mpr (List.le_trans (leS_iff.mp h) (leS_iff.mp h2))
theorem leS_anti {a b : Str} (h : leS a b) (h2 : leS b a) : a = b := by
  have := List.le_antisymm (leS_iff.mp h) (leS_iff.mp h2)
  cases a; cases b
  simp only at this
  rw [Array.toList_inj.mp this]
theorem leS_or {a b : Str} (h : Spec.ltCps a.cps.toList b.cps.toList = true) : leS a b := by
  rcases List.le_total a.cps.toList b.cps.toList with z | z
  · exact leS_iff.mpr z
  · have : leS b a := leS_iff.mpr z
    unfold leS at this
    rw [h] at this; cases this
theorem risingS_pw : ∀ (x : Str) (r : List Str), risingS x r = true → (x :: r).Pairwise leS
  | x, [], _ => by simp
  | x, y :: r, h => by
    rw [risingS.eq_2, Bool.and_eq_true, Bool.not_eq_true'] at h
    have ih := risingS_pw y r h.2
    refine List.pairwise_cons.mpr ⟨fun z hz => ?_, ih⟩
    rcases List.mem_cons.mp hz with e | e
    · subst e; exact h.1
    · exact leS_trans h.1 ((List.pairwise_cons.mp ih).1 z e)
theorem sortedS_pw : ∀ (l : List Str), sortedS l = true → l.Pairwise leS
  | [], _ => List.Pairwise.nil
  | x :: r, h => risingS_pw x r h
theorem insS_perm (k : Str) : ∀ l : List Str, (insS k l).Perm (k :: l)
  | [] => .refl _
  | x :: r => by
    unfold insS
    split
    · exact ((insS_perm k r).cons x).trans (.swap k x r)
    · exact .refl _
theorem insS_pw (k : Str) : ∀ l : List Str, l.Pairwise leS → (insS k l).Pairwise leS
  | [], _ => by simp [insS]
  | x :: r, h => by
    obtain ⟨h1, h2⟩ := List.pairwise_cons.mp h
    unfold insS
    split
    · rename_i hk
      refine List.pairwise_cons.mpr ⟨fun y hy => ?_, insS_pw k r h2⟩
      rcases List.mem_cons.mp ((insS_perm k r).mem_iff.mp hy) with e | e
      · subst e; exact leS_or hk
      · exact h1 y e
    · rename_i hk
      have hk : leS k x := by simpa [leS] using hk
      refine List.pairwise_cons.mpr ⟨fun y hy => ?_, h⟩
      rcases List.mem_cons.mp hy with e | e
      · subst e; exact hk
      · exact leS_trans hk (h1 y e)
theorem srtS_ok : ∀ l : List Str, (srtS l).Perm l ∧ (srtS l).Pairwise leS
  | [] => ⟨.refl _, List.Pairwise.nil⟩
  | k :: l => by
    obtain ⟨h1, h2⟩ := srtS_ok l
    exact ⟨(insS_perm k _).trans (h1.cons k), insS_pw k _ h2⟩
theorem srtS_eq {ys zs : List Str} (h : ys.Perm zs) (h2 : sortedS ys = true) : ys = srtS zs :=
  List.Perm.eq_of_pairwise (le := leS) (fun _ _ _ _ => leS_anti) (sortedS_pw _ h2) (srtS_ok zs).2 (h.trans (srtS_ok zs).1.symm)
section
variable {G : Gm} {g : GW} {E : EV} {W : WX} {X : Cx}
theorem pe_srt_ {bx : Bool} {a : IE} {e y : Expr} {x : Str} (xo : XOk G g E W X) (hv : vCall e = some (x, [y])) (hx : x = "sorted") (hg : bltB G x = true) (hs : noStar y = true) (ha : PE X y (tE g W (evE E a))) : PE X e (tE g W (evE E (.srt bx a))) := by
  obtain ⟨p, q, a', es', rfl, hr⟩ := vCall_eq hv
  cases hr
  subst hx
  obtain ⟨gl, db, hm, nn⟩ := bltB_gl xo hg
  refine (pe_callB cr_sortedS gl hm (by decide +kernel) (pa_cons ha pa_nil (starEach_cons hs)) nn db (starEach_cons hs) rfl).of fun σ H Q ⟨fb, m, ρ, S, o, rs, e, Gd⟩ => ?_
  simp only [evE] at e
  refine tE_bnd e rs Gd fun t S1 v m1 H1 e1 x1 rs1 r1 Gd1 => ?_
  split at e1
  · rename_i l hl
    split at e1
    · rename_i zs hzs
      split at e1
      · rename_i h64
        simp only [Option.some.injEq] at e1
        subst e1
        have rd := RepD.drf rs1.sto r1
        rw [hl] at rd
        obtain ⟨a', vs, rfl, q1, l1⟩ := RepD.lst rd
        have ev : vs = zs.map V.str := rep_strs l1 hzs
        subst ev
        refine ⟨a', zs, rfl, SqL.of q1, h64, fun ys p hp hso hf => ?_⟩
        rw [srtS_eq hp hso]
        exact fin_lst Gd1 rs1.sto (rep_of_strs _) p hf
      · cases e1
    · cases e1
  · cases e1

/-! ### o.pop() -/
theorem pe_pop_ {a : IE} {e o : Expr} {n : Str} (xo : XOk G g E W X) (hv : vMth e = some (o, n, [])) (hn : n = "pop") (hs : noSup o = true) (ha : PE X o (tE g W (evE E a))) : PE X e (tE g W (evE E (.pop a))) := by
  obtain ⟨ap, pos, rfl, hl⟩ := vMth_eq hv
  subst hn
  refine (pe_bm0 (apos := ap) (cpos := pos) PySem.F.plainAttrs_list PySem.F.slot_list_pop PySem.F.type_list_pop mt_pop ha (nosup hs) hl).of fun σ H Q ⟨fb, m, ρ, S, o', rs, e, Gd⟩ => ?_
  simp only [evE] at e
  refine tE_bnd e rs Gd fun t S1 v m1 H1 e1 x1 rs1 r1 Gd1 => ?_
  unfold popT at e1
  split at e1
  · rename_i k
    split at e1
    · rename_i l hS
      split at e1
      · rename_i y hy
        simp only [Option.some.injEq] at e1
        subst e1
        simp only [Rep] at r1
        obtain ⟨b, hk, rfl⟩ := r1
        obtain ⟨vs, q1, rl⟩ := rs1.sto.at_ k _ b hS hk
        obtain ⟨v, hv', rv⟩ := rl.get hy
        refine ⟨.inl ⟨rfl, vs, SqL.of q1⟩, b, vs, v, rfl, rfl, q1, by rw [← rl.length]; exact hv', ?_⟩
        have hf : ∀ od u, H1 b ≠ some (.frz od u) := fun od u z => by rw [q1] at z; cases z
        have x2 : Ext m1 H1 m1 (upd H1 b (.lst vs.dropLast)) := Ext.write (List.mem_of_getElem? hk) hf
        exact Gd1 v m1 _ x2 (rs1.sto.write hk hf (by rw [List.dropLast_eq_take, List.dropLast_eq_take, rl.length]; exact rl.take _)) (Rep.mono x2 _ rv)
      · cases e1
    · cases e1
  · cases e1
end
end Fw

namespace Fw
open PySem L2 PyProof.Rows

section
variable {g : GW} {E : EV}

theorem chn_read {o o' : CmpOp} {a b c : IE} {W : WX} {σ : L2.St} {H : Hp} {Q : VK} (h : tE g W (evE E (.chn o o' a b c)) σ H Q) : tChain (rCx g o) (rCx g o') (tE g W (evE E a)) (tE g W (evE E b)) (tE g W (evE E c)) σ H Q := by
  obtain ⟨fb, m, ρ, S, o'', rs, e, Gd⟩ := h
  simp only [evE] at e
  refine tE_bnd e rs Gd fun t S1 v m1 H1 e1 x1 rs1 r1 Gd1 => ?_
  refine tE_bnd e1 rs1 Gd1 fun u S2 w m2 H2 e2 x2 rs2 r2 Gd2 => ?_
  split at e2
  · rename_i hz
    refine ⟨fb, W, m2, σ, S2, _, _, true, rs2.sto, Rep.mono x2 _ r1, r2, hz, fun v3 m3 H3 x3 sr3 r3 => ⟨true, by simpa [Rep] using r3, iteT ?_⟩⟩
    refine tE_bnd e2 ⟨rs2.env.mono x3, sr3⟩ (Gd2.ext x3) fun u' S4 w' m4 H4 e4 x4 rs4 r4 Gd4 => ?_
    simp only [liftB] at e4
    split at e4
    · rename_i z4 hz4
      simp only [Option.some.injEq] at e4
      subst e4
      exact ⟨fb, W, m4, σ, S4, _, _, z4, rs4.sto, Rep.mono x4 _ (Rep.mono x3 _ r2), r4, hz4, Gd4⟩
    · cases e4
  · rename_i hz
    simp only [Option.some.injEq] at e2
    subst e2
    refine ⟨fb, W, m2, σ, S2, _, _, false, rs2.sto, Rep.mono x2 _ r1, r2, hz, fun v3 m3 H3 x3 sr3 r3 => ⟨false, by simpa [Rep] using r3, iteF ?_⟩⟩
    exact Gd2 _ m3 H3 x3 sr3 Rep.bl_
  · cases e2

theorem tE_mono {W : WX} {f : Rho → Sto → Res} {σ : L2.St} {H : Hp} {Q Q' : VK} (h : tE g W f σ H Q) (k : ∀ v H, Q v H → Q' v H) : tE g W f σ H Q' := by
  obtain ⟨fb, m, ρ, S, o, rs, e, G⟩ := h
  refine ⟨fb, m, ρ, S, o, rs, e, ?_⟩
  cases o with
  | ok t S' => exact fun v m' H' x sr r => k v H' (G v m' H' x sr r)
  | ex c p S' => exact G
theorem nil_read {W : WX} {σ : L2.St} {H : Hp} {Q : List V → Hp → Prop} (h : tA g W (evE E .nil) σ H Q) : Q [] H := by
  obtain ⟨fb, m, ρ, S, o, rs, e, Gd⟩ := h
  simp only [evE, Option.some.injEq] at e
  subst e
  exact Gd [] m H (Ext.refl _ _) rs.sto RepL.nil
/-- a list under way is no more -/
theorem SRep.low {fb m : List Addr} {H : Hp} {S : Sto} {p : Addr} (sr : SRep (g.w (p :: fb)) m H S) : SRep (g.w fb) m H S := by
  have low : ∀ a o, H a = some o → NT o → a ∉ m → a ∉ (g.w (p :: fb)).fb → H a = some o ∧ a ∉ m ∧ a ∉ fb := fun a o q _ n f => ⟨q, n, fun z => f (List.mem_cons_of_mem _ z)⟩
  exact ⟨sr.len, sr.nd, fun n ob a h1 h2 => (sr.at_ n ob a h1 h2).step (g := g.w (p :: fb)) (fb' := fb) (fun _ _ q => q) low rfl, fun a ha => sr.fbs a (List.mem_cons_of_mem _ ha), sr.tab⟩
/-- .. begins -/
theorem SRep.high {fb m : List Addr} {H : Hp} {S : Sto} {p : Addr} {o : HO} (sr : SRep (g.w fb) m H S) (hp : H p = none) (ho : NT o) : SRep (g.w (p :: fb)) m (upd H p o) S := by
  refine ⟨sr.len, sr.nd, fun n ob a h1 h2 => ?_, fun a ha => ?_, tab_new sr.tab hp⟩
  · have z := sr.at_ n ob a h1 h2
    refine z.step (g := g.w fb) (fb' := p :: fb) (fun _ _ q => q) (fun b o' q _ n f => ⟨by rw [upd_ne (ne_of_none q hp)]; exact q, n, fun z => ?_⟩) (upd_ne fun q => ?_)
    · rcases List.mem_cons.mp z with z | z
      · rw [z, hp] at q; cases q
      · exact f z
    · obtain ⟨u, e⟩ := z.there
      rw [q, hp] at e; cases e
  · rcases List.mem_cons.mp ha with q | q
    · subst q; exact ⟨⟨_, upd_same, ho⟩, sr.fresh hp⟩
    · obtain ⟨⟨ws, z1, z3⟩, z2⟩ := sr.fbs a q
      exact ⟨⟨ws, by rw [upd_ne (ne_of_none z1 hp)]; exact z1, z3⟩, z2⟩
theorem putK_nd {xs : List (Key × V)} {k : Key} {v : V} (h : (xs.map (·.1)).Nodup) : ((putK xs k v).map (·.1)).Nodup := by
  cases hv : valV xs k with
  | none => exact nd_putK v h hv
  | some z =>
    have : (putK xs k v).map (·.1) = xs.map (·.1) := by
      unfold putK
      rw [valV_any, hv]
      simp only [Option.isSome_some, if_true, List.map_map]
      refine List.map_congr_left fun p _ => ?_
      simp only [Function.comp]
      split <;> rfl
    rw [this]; exact h
theorem dsp_ky {m : List Addr} {H : Hp} : ∀ {ks : List Str} {l : List T} {vs : List V} {acc : List (T × T)} {xs : List (Key × V)}, RepL g m H l vs → KY g m H acc xs → (xs.map (·.1)).Nodup →
    KY g m H (dspL (ks.zip l) acc) (((ks.zip vs).map fun p => ((Sum.inr p.1 : Key), p.2)).foldl (fun a kv => putK a kv.1 kv.2) xs) ∧ ((((ks.zip vs).map fun p => ((Sum.inr p.1 : Key), p.2)).foldl (fun a kv => putK a kv.1 kv.2) xs).map (·.1)).Nodup ∧ (dspL (ks.zip l) acc).length ≤ acc.length + ks.length
  | [], l, vs, acc, xs, _, h, hn => ⟨h, hn, by simp [dspL]⟩
  | k :: ks, [], vs, acc, xs, r, h, hn => by
    simp only [RepL] at r
    subst r
    exact ⟨h, hn, by simp [dspL]⟩
  | k :: ks, t :: l, vs, acc, xs, r, h, hn => by
    simp only [RepL] at r
    obtain ⟨v, r', rfl, h1, h2⟩ := r
    obtain ⟨i1, i2, i3⟩ := dsp_ky (ks := ks) h2 (ky_put (kt := .str k) (k := Sum.inr k) (q := .text k) rfl rfl h1 h hn) (putK_nd hn)
    refine ⟨i1, i2, ?_⟩
    have := dPut_len acc (.str k) (.text k) t
    simp only [List.zip_cons_cons, dspL, List.length_cons] at i3 ⊢
    omega
/-- a written dict's reading -/
theorem dsp_read {W : WX} {ks : List Str} {es : IE} {trs : List (TE × TE)} (hr : ∀ σ H (R : List (V × V) → Hp → Prop), tA g W (evE E es) σ H (fun vs H' => R ((ks.map V.str).zip vs) H') → tPairs trs σ H R) {σ : L2.St} {H : Hp} {Q : VK} (h : tE g W (evE E (.dsp ks es)) σ H Q) : tDisp trs σ H Q := by
  obtain ⟨fb, m, ρ, S, o, rs, e, Gd⟩ := h
  intro p hp
  refine hr σ _ _ ?_
  simp only [evE] at e
  have p1 : p ∉ m := rs.sto.fresh hp
  have pf : p ∉ fb := rs.sto.freshF hp
  have nt : NT (.dK ([] : List (Key × V))) := fun ps z => by cases z
  have sr1 := SRep.high (o := .dK []) rs.sto hp nt
  have x1 : Ext m H m (upd H p (.dK [])) := Ext.new hp
  have hf0 : ∀ a ∈ (p :: fb), a ∈ (g.w fb).fb ∨ H a = none := fun a ha => by
    rcases List.mem_cons.mp ha with q | q
    · exact .inr (by rw [q]; exact hp)
    · exact .inl q
  have env1 : ERep (g.w (p :: fb)) m (upd H p (.dK [])) ρ σ := ⟨rs.env.1, fun j u q => by
    obtain ⟨v, q1, q2⟩ := rs.env.2 j u q
    exact ⟨v, q1, Rep.grow x1 hf0 q2⟩⟩
  cases ee : evE E es ρ S with
  | none => rw [ee] at e; cases e
  | some r =>
    rw [ee] at e
    refine ⟨p :: fb, m, ρ, S, r, ⟨env1, sr1⟩, ee, ?_⟩
    cases r with
    | ex c q S2 =>
      have : o = .ex c q S2 := (Option.some.inj e).symm
      subst this
      exact fun cls d m' H' x sr xr => Gd cls d m' H' (x1.trans x) sr.low xr
    | ok t S2 =>
      cases t <;> try (cases e; done)
      rename_i l
      simp only [bnd] at e
      split at e
      · rename_i hlen
        simp only [Option.some.injEq] at e
        subst e
        intro vs m' H' x sr rl
        have hp' : H' p = some (.dK []) := x.keep _ _ upd_same p1
        have pm : p ∉ m' := (sr.fbs p List.mem_cons_self).2
        have hl2 : vs.length = ks.length := by rw [← rl.length, hlen.1]
        refine ⟨hp', (ks.zip vs).map fun q => ((Sum.inr q.1 : Key), q.2), ?_, ?_, ?_⟩
        · rw [List.map_map]
          apply List.ext_getElem?
          intro i
          simp only [List.getElem?_zip_eq_some, List.getElem?_map]
          cases h1 : ks[i]? with
          | none => simp [List.zip, List.getElem?_zipWith, h1]
          | some a => cases h2 : vs[i]? with
            | none => simp [List.zip, List.getElem?_zipWith, h1, h2]
            | some b => simp [List.zip, List.getElem?_zipWith, h1, h2, kV]
        · simp only [List.length_map, List.length_zip]
          have := hlen.2; omega
        · have x2 := x1.trans x
          have low : ∀ a o, H' a = some o → NT o → a ∉ m' → a ∉ (g.w (p :: fb)).fb → (upd H' p (.dK (mergeK [] ((ks.zip vs).map fun q => ((Sum.inr q.1 : Key), q.2))))) a = some o ∧ a ∉ m' ++ [p] ∧ a ∉ fb := fun a o q _ n f => by
            have hne : a ≠ p := fun z => f (by rw [z]; exact List.mem_cons_self)
            refine ⟨by rw [upd_ne hne]; exact q, fun z => ?_, fun z => f (List.mem_cons_of_mem _ z)⟩
            rcases List.mem_append.mp z with z | z
            · exact n z
            · exact hne (List.mem_singleton.mp z)
          have hget : ∀ (n : Nat) (a : Addr), m'[n]? = some a → (m' ++ [p])[n]? = some a := fun n a q => by
            rw [List.getElem?_append_left (List.getElem?_eq_some_iff.mp q).1]; exact q
          obtain ⟨k, hk1, hk2⟩ := x2.grow
          refine Gd (.ref p) (m' ++ [p]) _ ⟨⟨k ++ [p], by rw [hk1, List.append_assoc], fun a ha => ?_⟩, fun a o q hn n => ?_, fun a q ⟨o, n, hn⟩ => ?_, fun a od u q => ?_⟩ ⟨by simp [sr.len], ?_, fun n ob a h1 h2 => ?_, fun a ha => ?_, tab_write sr.tab hp' (.inr (.inr (.inr ⟨_, rfl⟩)))⟩ ?_
          · rcases List.mem_append.mp ha with q | q
            · exact hk2 a q
            · simp only [List.mem_singleton] at q; rw [q]
              rintro ⟨u, e, _⟩
              rw [hp] at e; cases e
          · rw [upd_ne (ne_of_none q hp)]; exact x2.keepN a o q hn n
          · obtain ⟨o', n1, n2⟩ := x2.there a q ⟨o, n, hn⟩
            exact ⟨o', by rw [upd_ne (ne_of_none n hp)]; exact n1, n2⟩
          · rw [upd_ne (ne_of_none q hp)]; exact x2.frz a od u q
          · refine List.nodup_append.mpr ⟨sr.nd, by simp, fun a ha b hb e => ?_⟩
            simp only [List.mem_singleton] at hb
            subst hb; subst e
            exact pm ha
          · by_cases hn : n < S2.length
            · rw [List.getElem?_append_left hn] at h1
              rw [List.getElem?_append_left (by rw [sr.len]; exact hn)] at h2
              exact (sr.at_ n ob a h1 h2).step (g := g.w (p :: fb)) (fb' := fb) hget low (upd_ne fun z => pm (by rw [← z]; exact List.mem_of_getElem? h2))
            · have e1 : n = S2.length := by
                have := (List.getElem?_eq_some_iff.mp h1).1
                simp at this
                omega
              subst e1
              rw [List.getElem?_append_right (Nat.le_refl _)] at h1
              rw [List.getElem?_append_right (by rw [sr.len]; exact Nat.le_refl _)] at h2
              simp [sr.len] at h1 h2
              subst h1; subst h2
              obtain ⟨i1, i2, i3⟩ := dsp_ky (g := g.w (p :: fb)) (ks := ks) (acc := []) (xs := []) rl rfl (by simp)
              refine ⟨_, upd_same, ?_, KY.step (g := g.w (p :: fb)) (fb' := fb) hget low i1, i2⟩
              have := hlen.2
              have hz : (sizeLine : Nat) = 16777216 := rfl
              simp only [List.length_nil] at i3
              omega
          · obtain ⟨⟨o, q1, q3⟩, z2⟩ := sr.fbs a (List.mem_cons_of_mem _ ha)
            have hne : a ≠ p := fun z => pf (by rw [← z]; exact ha)
            refine ⟨⟨o, by rw [upd_ne hne]; exact q1, q3⟩, fun z => ?_⟩
            rcases List.mem_append.mp z with z | z
            · exact z2 z
            · exact hne (List.mem_singleton.mp z)
          · simp only [Rep]
            exact ⟨p, by rw [← sr.len]; simp, rfl⟩
      · cases e

structure Snd (g : GW) (E : EV) (ie : IE) : Prop where
  e : ∀ (G : Gm) (W : WX) (X : Cx), XOk G g E W X → ∀ e, chkE G ie e = true → PE X e (tE g W (evE E ie)) ∧ (noIf e = true → PT X e (tT g W (evE E ie)))
  a : ∀ (G : Gm) (W : WX) (X : Cx), XOk G g E W X → ∀ es, chkA G ie es = true → PA X es (tA g W (evE E ie))
  i : ∀ (G : Gm) (W : WX) (X : Cx), XOk G g E W X → ∀ tg e, isPair ie tg = true → chkI G ie e = true → PI X tg e (tI g W (evE E ie))
  d : ∀ (G : Gm) (W : WX) (X : Cx), XOk G g E W X → ∀ (pos : Pos) (ks : List Str) (keys : List (Option Expr)) (vals : List Expr), keysAre ks keys = true → chkA G ie vals = true → keys.length = vals.length →
    ∃ trs, PPs X pos keys vals trs ∧ ∀ σ H (R : List (V × V) → Hp → Prop), tA g W (evE E ie) σ H (fun vs H' => R ((ks.map V.str).zip vs) H') → tPairs trs σ H R

theorem Snd.o {ie : IE} (s : Snd g E ie) {G : Gm} {W : WX} {X : Cx} (xo : XOk G g E W X) {o : Option Expr} (h : chkO G ie o = true) : PO X o (tO g W (isNil ie) (evE E ie)) := by
  refine po_of (fun e => ?_) fun e he => ?_
  · subst e; simpa [chkO] using h
  · subst he
    simp only [chkO, Bool.and_eq_true, Bool.not_eq_true'] at h
    exact ⟨h.2, (s.e G W X xo e h.1).1⟩

/-- an expression alone -/
theorem snd_e {ie : IE} (h : ∀ (G : Gm) (W : WX) (X : Cx), XOk G g E W X → ∀ e, chkE G ie e = true → PE X e (tE g W (evE E ie)) ∧ (noIf e = true → PT X e (tT g W (evE E ie))))
    (ha : ∀ G es, chkA G ie es = false) (hi : ∀ G e, chkI G ie e = false) : Snd g E ie :=
  ⟨h, fun G W X _ es q => (by rw [ha] at q; cases q), fun G W X _ tg e _ q => (by rw [hi] at q; cases q), fun G W X _ pos ks keys vals _ q => (by rw [ha] at q; cases q)⟩
theorem snd_i {ie : IE} (h : ∀ (G : Gm) (W : WX) (X : Cx), XOk G g E W X → ∀ tg e, isPair ie tg = true → chkI G ie e = true → PI X tg e (tI g W (evE E ie)))
    (ha : ∀ G es, chkA G ie es = false) (he : ∀ G e, chkE G ie e = false) : Snd g E ie :=
  ⟨fun G W X _ e q => (by rw [he] at q; cases q), fun G W X _ es q => (by rw [ha] at q; cases q), h, fun G W X _ pos ks keys vals _ q => (by rw [ha] at q; cases q)⟩

theorem vBin_eq {e x y : Expr} {p : Operator} (h : vBin e = some (x, p, y)) : ∃ q, e = .BinOp x p y q := by
  cases e <;> simp [vBin] at h
  obtain ⟨rfl, rfl, rfl⟩ := h; exact ⟨_, rfl⟩
theorem vCmp_eq {e x y : Expr} {p : CmpOp} (h : vCmp e = some (x, p, y)) : ∃ q, e = .Compare x [p] [y] q := by
  unfold vCmp at h
  split at h
  · simp only [Option.some.injEq, Prod.mk.injEq] at h
    obtain ⟨rfl, rfl, rfl⟩ := h; exact ⟨_, rfl⟩
  · cases h
theorem vChn_eq {e x y z : Expr} {p p' : CmpOp} (h : vChn e = some (x, p, y, p', z)) : ∃ q, e = .Compare x [p, p'] [y, z] q := by
  unfold vChn at h
  split at h
  · simp only [Option.some.injEq, Prod.mk.injEq] at h
    obtain ⟨rfl, rfl, rfl, rfl, rfl⟩ := h; exact ⟨_, rfl⟩
  · cases h
theorem vNeg_eq {e x : Expr} (h : vNeg e = some x) : ∃ q, e = .UnaryOp .USub x q := by
  unfold vNeg at h
  split at h
  · simp only [Option.some.injEq] at h; subst h; exact ⟨_, rfl⟩
  · cases h
theorem vNot_eq {e x : Expr} (h : vNot e = some x) : ∃ q, e = .UnaryOp .Not x q := by
  unfold vNot at h
  split at h
  · simp only [Option.some.injEq] at h; subst h; exact ⟨_, rfl⟩
  · cases h
theorem vIfE_eq {e z x y : Expr} (h : vIfE e = some (z, x, y)) : ∃ q, e = .IfExp z x y q := by
  cases e <;> simp [vIfE] at h
  obtain ⟨rfl, rfl, rfl⟩ := h; exact ⟨_, rfl⟩
theorem vLc_eq {e x t it : Expr} {cs : List Expr} {scope : Scope} (h : vLc e = some (x, t, it, cs, scope)) : ∃ q, e = .ListComp x [⟨t, it, cs, 0⟩] scope q := by
  unfold vLc at h
  split at h
  · simp only [Option.some.injEq, Prod.mk.injEq] at h
    obtain ⟨rfl, rfl, rfl, rfl, rfl⟩ := h; exact ⟨_, rfl⟩
  · cases h
theorem isYes_eq {a : IE} (h : isYes a = true) : a = .lit (.bl true) := by
  unfold isYes at h
  split at h
  · rfl
  · cases h
theorem yes_read {W : WX} {σ : L2.St} {H : Hp} {Q : Bool → Hp → Prop} (h : tT g W (evE E (.lit (.bl true))) σ H Q) : tYes σ H Q := by
  obtain ⟨fb, m, ρ, S, o, rs, e, Gd⟩ := h
  simp only [evE, Option.some.injEq] at e
  subst e
  obtain ⟨b, eb, k⟩ := Gd
  simp only [truthy, Option.some.injEq] at eb
  subst eb
  exact k m H (Ext.refl _ _) rs.sto

theorem noset_fold {it : Expr} {env : Env} (h : noSet it = true) : ∀ x, foldedSetIterable it env x = pure x := by
  cases it <;> first | (intro _; rfl) | cases h

theorem own_map (N : List Str) (own : List Nat) : (own.map fun i => ((N.getD i "", i) : Str × Nat)).map (·.2) = own := by
  rw [List.map_map]
  conv => rhs; rw [← List.map_id own]
  rfl

/-- the parts of a comprehension, as the rules want them -/
theorem lc_parts {G : Gm} {W : WX} {X : Cx} (xo : XOk G g E W X) {bx : Bool} {own : List Nat} {elt src cnd : IE} {tg : Tg} {e : Expr} (se : Snd g E elt) (ss : Snd g E src) (sc : Snd g E cnd) (h : chkE G (.lc bx own elt tg src cnd) e = true) :
    ∃ (x t it : Expr) (cs : List Expr) (scope : Scope) (q : Pos) (wi : TI) (tt : TT) (ow : List (Str × Nat)), e = .ListComp x [⟨t, it, cs, 0⟩] scope q ∧ ow.map (·.2) = own ∧ PI X t it wi ∧ BlkOk X.N X.env.scope scope ow ∧
      (∀ (s : Shared) (H : Hp) (C : Addr) (cl : List (Str × Addr)) (fp : List Addr), PG (X.blk s H scope (compEnvC scope cl C X.env) fp) t (tG g tg)) ∧ (∀ (s : Shared) (H : Hp) (C : Addr) (cl : List (Str × Addr)) (fp : List Addr), PTs (X.blk s H scope (compEnvC scope cl C X.env) fp) cs tt) ∧
      (∀ (s : Shared) (H : Hp) (C : Addr) (cl : List (Str × Addr)) (fp : List Addr), PE (X.blk s H scope (compEnvC scope cl C X.env) fp) x (tE g (fun _ _ _ _ => False) (evE E elt))) ∧ (∀ y, foldedSetIterable it X.env y = pure y) ∧
      (∀ σ H Q, tE g W (evE E (.lc bx own elt tg src cnd)) σ H Q → tLc wi (tG g tg) tt (tE g (fun _ _ _ _ => False) (evE E elt)) own σ H Q) := by
  simp only [chkE] at h
  split at h
  · rename_i x t it cs scope hv
    obtain ⟨q, rfl⟩ := vLc_eq hv
    simp only [Bool.and_eq_true] at h
    obtain ⟨h1, h2, h3, ⟨h4, h5, h6⟩, h7, h8⟩ := h
    have hown : ∀ i ∈ slots tg, i ∈ own := by simpa using h2
    have blk := fun s H C cl fp => blk_ok xo s H scope C cl fp
    have hpg : ∀ (s : Shared) (H : Hp) (C : Addr) (cl : List (Str × Addr)) (fp : List Addr), PG (X.blk s H scope (compEnvC scope cl C X.env) fp) t (tG g tg) := fun s H C cl fp =>
      (pg_sound (blk s H C cl fp).N (blk s H C cl fp).nd (blk s H C cl fp).sc (blk s H C cl fp).calm (blk s H C cl fp).K (blk s H C cl fp).fn tg).1 t h3
    have hb : BlkOk X.N X.env.scope scope (own.map fun i => (G.N.getD i "", i)) := by rw [xo.N, xo.sc]; exact blkOk_by h1
    refine ⟨x, t, it, cs, scope, q, tI g W (evE E src), ?_⟩
    have hpe := fun s H C cl fp => (se.e _ _ _ (blk s H C cl fp) x h7).1
    have hpi := ss.i G W X xo t it h4 h5
    cases cs with
    | nil =>
      have := isYes_eq h8
      subst this
      exact ⟨tYes, _, rfl, own_map _ _, hpi, hb, hpg, fun _ _ _ _ _ => pts_nil, hpe, noset_fold h6, fun σ H Q q => lc_read hown (fun _ _ _ z => z) (fun _ _ _ z => yes_read z) q⟩
    | cons c r =>
      cases r with
      | nil =>
        simp only [Bool.and_eq_true] at h8
        exact ⟨tT g (fun _ _ _ _ => False) (evE E cnd), _, rfl, own_map _ _, hpi, hb, hpg, fun s H C cl fp => pts_one ((sc.e _ _ _ (blk s H C cl fp) c h8.1).2 h8.2), hpe, noset_fold h6, fun σ H Q q => lc_read hown (fun _ _ _ z => z) (fun _ _ _ z => z) q⟩
      | cons c2 r2 => cases h8
  · cases h

/-- .. over a list of the store -/
theorem lcB_parts {G : Gm} {W : WX} {X : Cx} (xo : XOk G g E W X) {bx : Bool} {own : List Nat} {elt src cnd : IE} {tg : Tg} {e : Expr} (se : Snd g E elt) (ss : Snd g E src) (sc : Snd g E cnd) (h : chkE G (.lcB bx own elt tg src cnd) e = true) :
    ∃ (x t it : Expr) (cs : List Expr) (scope : Scope) (q : Pos) (wi : TI) (tt : TT) (ow : List (Str × Nat)), e = .ListComp x [⟨t, it, cs, 0⟩] scope q ∧ ow.map (·.2) = own ∧ PI X t it wi ∧ BlkOk X.N X.env.scope scope ow ∧
      (∀ (s : Shared) (H : Hp) (C : Addr) (cl : List (Str × Addr)) (fp : List Addr), PG (X.blk s H scope (compEnvC scope cl C X.env) fp) t (tG g tg)) ∧ (∀ (s : Shared) (H : Hp) (C : Addr) (cl : List (Str × Addr)) (fp : List Addr), PTs (X.blk s H scope (compEnvC scope cl C X.env) fp) cs tt) ∧
      (∀ (s : Shared) (H : Hp) (C : Addr) (cl : List (Str × Addr)) (fp : List Addr), PE (X.blk s H scope (compEnvC scope cl C X.env) fp) x (tE g (fun _ _ _ _ => False) (evE E elt))) ∧ (∀ y, foldedSetIterable it X.env y = pure y) ∧
      (∀ σ H Q, tE g W (evE E (.lcB bx own elt tg src cnd)) σ H Q → tLc wi (tG g tg) tt (tE g (fun _ _ _ _ => False) (evE E elt)) own σ H Q) := by
  simp only [chkE] at h
  split at h
  · rename_i x t it cs scope hv
    obtain ⟨q, rfl⟩ := vLc_eq hv
    simp only [Bool.and_eq_true] at h
    obtain ⟨h1, h2, h3, ⟨h5, h6⟩, h7, h8⟩ := h
    have hown : ∀ i ∈ slots tg, i ∈ own := by simpa using h2
    have blk := fun s H C cl fp => blk_ok xo s H scope C cl fp
    have hpg : ∀ (s : Shared) (H : Hp) (C : Addr) (cl : List (Str × Addr)) (fp : List Addr), PG (X.blk s H scope (compEnvC scope cl C X.env) fp) t (tG g tg) := fun s H C cl fp =>
      (pg_sound (blk s H C cl fp).N (blk s H C cl fp).nd (blk s H C cl fp).sc (blk s H C cl fp).calm (blk s H C cl fp).K (blk s H C cl fp).fn tg).1 t h3
    have hb : BlkOk X.N X.env.scope scope (own.map fun i => (G.N.getD i "", i)) := by rw [xo.N, xo.sc]; exact blkOk_by h1
    refine ⟨x, t, it, cs, scope, q, iList X.K (tE g W (evE E src)), ?_⟩
    have hpe := fun s H C cl fp => (se.e _ _ _ (blk s H C cl fp) x h7).1
    have hpi := pi_list (tg := t) (ss.e G W X xo it h5).1
    cases cs with
    | nil =>
      have := isYes_eq h8
      subst this
      exact ⟨tYes, _, rfl, own_map _ _, hpi, hb, hpg, fun _ _ _ _ _ => pts_nil, hpe, noset_fold h6, fun σ H Q q => lcB_read hown (fun _ _ _ z => yes_read z) q⟩
    | cons c r =>
      cases r with
      | nil =>
        simp only [Bool.and_eq_true] at h8
        exact ⟨tT g (fun _ _ _ _ => False) (evE E cnd), _, rfl, own_map _ _, hpi, hb, hpg, fun s H C cl fp => pts_one ((sc.e _ _ _ (blk s H C cl fp) c h8.1).2 h8.2), hpe, noset_fold h6, fun σ H Q q => lcB_read hown (fun _ _ _ z => z) q⟩
      | cons c2 r2 => cases h8
  · cases h

theorem vDisp_eq {e : Expr} {ks : List (Option Expr)} {vs : List Expr} (h : vDisp e = some (ks, vs)) : ∃ p, e = .Dict ks vs p := by
  cases e <;> simp [vDisp] at h
  obtain ⟨rfl, rfl⟩ := h; exact ⟨_, rfl⟩
theorem keysAre_len : ∀ {ks : List Str} {keys : List (Option Expr)}, keysAre ks keys = true → ks.length = keys.length
  | [], [], _ => rfl
  | [], none :: _, h => by cases h
  | [], some _ :: _, h => by cases h
  | k :: ks, [], h => by cases h
  | k :: ks, none :: r, h => by cases h
  | k :: ks, some e :: r, h => by
    simp only [keysAre, Bool.and_eq_true] at h
    simp [keysAre_len h.2]
theorem keysAre_some : ∀ {ks : List Str} {keys : List (Option Expr)}, keysAre ks keys = true → keys.all (fun x => x.isSome) = true
  | [], [], _ => rfl
  | [], none :: _, h => by cases h
  | [], some _ :: _, h => by cases h
  | k :: ks, [], h => by cases h
  | k :: ks, none :: r, h => by cases h
  | k :: ks, some e :: r, h => by
    simp only [keysAre, Bool.and_eq_true] at h
    simp only [List.all_cons, Option.isSome_some, Bool.true_and]
    exact keysAre_some h.2
/-- .. over a dict -/
theorem lcD_parts {G : Gm} {W : WX} {X : Cx} (xo : XOk G g E W X) {bx : Bool} {own : List Nat} {elt src cnd : IE} {tg : Tg} {dv : DV} {e : Expr} (se : Snd g E elt) (ss : Snd g E src) (sc : Snd g E cnd) (h : chkE G (.lcD bx own elt tg dv src cnd) e = true) :
    ∃ (x t it : Expr) (cs : List Expr) (scope : Scope) (q : Pos) (wi : TI) (tt : TT) (ow : List (Str × Nat)), e = .ListComp x [⟨t, it, cs, 0⟩] scope q ∧ ow.map (·.2) = own ∧ PI X t it wi ∧ BlkOk X.N X.env.scope scope ow ∧
      (∀ (s : Shared) (H : Hp) (C : Addr) (cl : List (Str × Addr)) (fp : List Addr), PG (X.blk s H scope (compEnvC scope cl C X.env) fp) t (tG g tg)) ∧ (∀ (s : Shared) (H : Hp) (C : Addr) (cl : List (Str × Addr)) (fp : List Addr), PTs (X.blk s H scope (compEnvC scope cl C X.env) fp) cs tt) ∧
      (∀ (s : Shared) (H : Hp) (C : Addr) (cl : List (Str × Addr)) (fp : List Addr), PE (X.blk s H scope (compEnvC scope cl C X.env) fp) x (tE g (fun _ _ _ _ => False) (evE E elt))) ∧ (∀ y, foldedSetIterable it X.env y = pure y) ∧
      (∀ σ H Q, tE g W (evE E (.lcD bx own elt tg dv src cnd)) σ H Q → tUnlE X.H_0 (tLc wi (tG g tg) tt (tE g (fun _ _ _ _ => False) (evE E elt)) own) σ H Q) := by
  simp only [chkE] at h
  split at h
  · rename_i x t it cs scope hv
    obtain ⟨q, rfl⟩ := vLc_eq hv
    simp only [Bool.and_eq_true] at h
    obtain ⟨h1, h2, h3, ⟨h5, h6⟩, h7, h8⟩ := h
    split at h5
    rotate_left
    · cases h5
    rename_i od hdv
    have hown : ∀ i ∈ slots tg, i ∈ own := by simpa using h2
    have blk := fun s H C cl fp => blk_ok xo s H scope C cl fp
    have hpg : ∀ (s : Shared) (H : Hp) (C : Addr) (cl : List (Str × Addr)) (fp : List Addr), PG (X.blk s H scope (compEnvC scope cl C X.env) fp) t (tG g tg) := fun s H C cl fp =>
      (pg_sound (blk s H C cl fp).N (blk s H C cl fp).nd (blk s H C cl fp).sc (blk s H C cl fp).calm (blk s H C cl fp).K (blk s H C cl fp).fn tg).1 t h3
    have hb : BlkOk X.N X.env.scope scope (own.map fun i => (G.N.getD i "", i)) := by rw [xo.N, xo.sc]; exact blkOk_by h1
    refine ⟨x, t, it, cs, scope, q, iDv g dv (tLk X.H_0 (tE g W (evE E src))), ?_⟩
    have hpe := fun s H C cl fp => (se.e _ _ _ (blk s H C cl fp) x h7).1
    have hpi := pi_dv (g := g) hdv (pe_lk (ss.e G W X xo od h5).1)
    cases cs with
    | nil =>
      have := isYes_eq h8
      subst this
      exact ⟨tYes, _, rfl, own_map _ _, hpi, hb, hpg, fun _ _ _ _ _ => pts_nil, hpe, noset_fold h6, fun σ H Q q => lcD_read hown (fun _ _ _ z => yes_read z) q⟩
    | cons c r =>
      cases r with
      | nil =>
        simp only [Bool.and_eq_true] at h8
        exact ⟨tT g (fun _ _ _ _ => False) (evE E cnd), _, rfl, own_map _ _, hpi, hb, hpg, fun s H C cl fp => pts_one ((sc.e _ _ _ (blk s H C cl fp) c h8.1).2 h8.2), hpe, noset_fold h6, fun σ H Q q => lcD_read hown (fun _ _ _ z => z) q⟩
      | cons c2 r2 => cases h8
  · cases h

theorem sound : ∀ ie : IE, Snd g E ie := by
  intro ie
  induction ie with
  | lit v =>
    refine snd_e (fun G W X xo e h => ?_) (fun _ _ => by simp [chkA]) fun _ _ => by simp [chkI]
    have h' : lits G v e = true := by simpa [chkE] using h
    have pe : PE X e (tE g W (evE E (.lit v))) := pe_lit xo h'
    refine ⟨pe, fun _ => pt_tr xo pe ?_⟩
    have : (∃ c k p, e = .Constant c k p) ∨ ∃ x p, e = .Name x p := by
      cases v <;> simp only [lits] at h' <;> first | (cases h'; done) | skip
      all_goals
        split at h'
        · rename_i q
          first
            | (obtain ⟨k, p, rfl⟩ := vConst_eq q; exact .inl ⟨_, _, _, rfl⟩)
            | (obtain ⟨p, rfl⟩ := vName_eq q; exact .inr ⟨_, _, rfl⟩)
        · cases h'
    rcases this with ⟨c, k, p, rfl⟩ | ⟨x, p, rfl⟩ <;> (intro _; rfl)
  | var i =>
    refine snd_e (fun G W X xo e h => ?_) (fun _ _ => by simp [chkA]) fun _ _ => by simp [chkI]
    have pe := pe_v xo h
    refine ⟨pe, fun _ => pt_tr xo pe ?_⟩
    simp only [chkE] at h
    split at h
    · rename_i x q
      obtain ⟨p, rfl⟩ := vName_eq q
      intro _; rfl
    · cases h
  | cst c =>
    refine snd_e (fun G W X xo e h => ?_) (fun _ _ => by simp [chkA]) fun _ _ => by simp [chkI]
    have pe := pe_k xo h
    refine ⟨pe, fun _ => pt_tr xo pe ?_⟩
    simp only [chkE] at h
    split at h
    · rename_i x q
      obtain ⟨p, rfl⟩ := vName_eq q
      intro _; rfl
    · cases h
  | nil =>
    refine ⟨fun G W X xo e h => (by simp [chkE] at h), fun G W X xo es h => ?_, fun G W X xo tg e _ h => (by simp [chkI] at h), fun G W X xo pos ks keys vals hk h hl => ?_⟩
    · simp only [chkA, List.isEmpty_iff] at h
      subst h
      exact pa_n
    · simp only [chkA, List.isEmpty_iff] at h
      subst h
      have : keys = [] := List.eq_nil_of_length_eq_zero hl
      subst this
      cases ks with
      | nil => exact ⟨[], pps_nil, fun σ H R q => nil_read q⟩
      | cons k ks => cases hk
  | cons a b iha ihb =>
    refine ⟨fun G W X xo e h => (by simp [chkE] at h), fun G W X xo es h => ?_, fun G W X xo tg e _ h => (by simp [chkI] at h), fun G W X xo pos ks keys vals hk h hl => ?_⟩
    · cases es with
      | nil => simp [chkA] at h
      | cons e r =>
        simp only [chkA, Bool.and_eq_true] at h
        exact pa_c (iha.e G W X xo e h.1).1 (ihb.a G W X xo r h.2.2) h.2.1
    · cases vals with
      | nil => simp [chkA] at h
      | cons e r =>
        simp only [chkA, Bool.and_eq_true] at h
        cases keys with
        | nil => simp at hl
        | cons ko keys =>
          cases ko with
          | none => cases ks <;> cases hk
          | some k0 =>
            cases ks with
            | nil => cases hk
            | cons k ks =>
              simp only [keysAre, Bool.and_eq_true] at hk
              obtain ⟨hk1, hk2⟩ := hk
              obtain ⟨trs, t1, t2⟩ := ihb.d G W X xo pos ks keys r hk2 h.2.2 (by simpa using hl)
              split at hk1
              · rename_i c hc
                obtain ⟨kk, p, rfl⟩ := vConst_eq hc
                obtain rfl : k = c := by simpa using hk1
                refine ⟨_, pps_cons pe_str (iha.e G W X xo e h.1).1 t1, fun σ H R q => ?_⟩
                exact tE_mono (cons_read q) fun v H1 q1 => t2 σ H1 _ q1
              · cases hk1
  | tup es ih =>
    refine snd_e (fun G W X xo e h => ?_) (fun _ _ => by simp [chkA]) fun _ _ => by simp [chkI]
    simp only [chkE] at h
    split at h
    · rename_i xs q
      obtain ⟨k, p, rfl⟩ := vTup_eq q
      have pe := pe_tu (k := k) (p := p) (ih.a G W X xo xs h)
      exact ⟨pe, fun _ => pt_tr xo pe fun _ => rfl⟩
    · cases h
  | lst bx es ih =>
    refine snd_e (fun G W X xo e h => ?_) (fun _ _ => by simp [chkA]) fun _ _ => by simp [chkI]
    simp only [chkE] at h
    split at h
    · rename_i xs q
      obtain ⟨p, rfl⟩ := vLst_eq q
      have pe := pe_ls (bx := bx) (p := p) (ih.a G W X xo xs h)
      exact ⟨pe, fun _ => pt_tr xo pe fun _ => rfl⟩
    · cases h
  | op bx o a b iha ihb =>
    refine snd_e (fun G W X xo e h => ?_) (fun _ _ => by simp [chkA]) fun _ _ => by simp [chkI]
    simp only [chkE] at h
    split at h
    · rename_i x p y hv
      obtain ⟨q, rfl⟩ := vBin_eq hv
      simp only [Bool.and_eq_true, decide_eq_true_eq] at h
      obtain ⟨rfl, h1, h2⟩ := h
      have pe := pe_o (bx := bx) (o := o) (p := q) xo (iha.e G W X xo x h1).1 (ihb.e G W X xo y h2).1
      exact ⟨pe, fun _ => pt_tr xo pe fun _ => rfl⟩
    · cases h
  | cmp o a b iha ihb =>
    refine snd_e (fun G W X xo e h => ?_) (fun _ _ => by simp [chkA]) fun _ _ => by simp [chkI]
    simp only [chkE] at h
    split at h
    · rename_i x p y hv
      obtain ⟨q, rfl⟩ := vCmp_eq hv
      simp only [Bool.and_eq_true, decide_eq_true_eq] at h
      obtain ⟨rfl, h1, h2, h3⟩ := h
      exact ⟨pe_cm xo (iha.e G W X xo x h1).1 (ihb.e G W X xo y h2).1 h3, fun _ => pt_cm xo (iha.e G W X xo x h1).1 (ihb.e G W X xo y h2).1 h3⟩
    · cases h
  | chn o o' a b c iha ihb ihc =>
    refine snd_e (fun G W X xo e h => ?_) (fun _ _ => by simp [chkA]) fun _ _ => by simp [chkI]
    simp only [chkE] at h
    split at h
    · rename_i x p y p' z hv
      obtain ⟨q, rfl⟩ := vChn_eq hv
      simp only [Bool.and_eq_true, decide_eq_true_eq] at h
      obtain ⟨rfl, rfl, h1, h2, h3, h4, h5⟩ := h
      have pa := (iha.e G W X xo x h1).1
      have pb := (ihb.e G W X xo y h2).1
      have pc := (ihc.e G W X xo z h3).1
      refine ⟨pe_ch xo pa pb pc h4 h5, fun _ => ?_⟩
      exact (pt_chain (op_cx xo.K xo.pr xo.wd xo.un o) (op_cx xo.K xo.pr xo.wd xo.un o') pa pb pc (by show lastMarks [o'] [z] = false; exact noset_mark h5)).of fun σ H Q h => chn_read (tT_bool h chn_bl)
    · cases h
  | neg a ih =>
    refine snd_e (fun G W X xo e h => ?_) (fun _ _ => by simp [chkA]) fun _ _ => by simp [chkI]
    simp only [chkE] at h
    split at h
    · rename_i x hv
      obtain ⟨q, rfl⟩ := vNeg_eq hv
      have pe := pe_ng (p := q) (ih.e G W X xo x h).1
      exact ⟨pe, fun _ => pt_tr xo pe fun _ => rfl⟩
    · cases h
  | not a ih =>
    refine snd_e (fun G W X xo e h => ?_) (fun _ _ => by simp [chkA]) fun _ _ => by simp [chkI]
    simp only [chkE] at h
    split at h
    · rename_i x hv
      obtain ⟨q, rfl⟩ := vNot_eq hv
      simp only [Bool.and_eq_true] at h
      obtain ⟨p1, p2⟩ := ih.e G W X xo x h.1
      exact ⟨pe_nt xo p1, fun _ => pt_nt (p2 h.2)⟩
    · cases h
  | and a b iha ihb =>
    refine snd_e (fun G W X xo e h => ?_) (fun _ _ => by simp [chkA]) fun _ _ => by simp [chkI]
    simp only [chkE] at h
    split at h
    · rename_i x y hv
      simp only [Bool.and_eq_true] at h
      obtain ⟨h1, h2, h3, h4⟩ := h
      obtain ⟨p1, p2⟩ := iha.e G W X xo x h1
      obtain ⟨q1, q2⟩ := ihb.e G W X xo y h2
      exact ⟨pe_an xo hv p1 q1, fun _ => pt_an hv (p2 h3) (q2 h4)⟩
    · cases h
  | or a b iha ihb =>
    refine snd_e (fun G W X xo e h => ?_) (fun _ _ => by simp [chkA]) fun _ _ => by simp [chkI]
    simp only [chkE] at h
    split at h
    · rename_i x y hv
      simp only [Bool.and_eq_true] at h
      obtain ⟨h1, h2, h3, h4⟩ := h
      obtain ⟨p1, p2⟩ := iha.e G W X xo x h1
      obtain ⟨q1, q2⟩ := ihb.e G W X xo y h2
      exact ⟨pe_orr xo hv p1 q1, fun _ => pt_orr hv (p2 h3) (q2 h4)⟩
    · cases h
  | ite c a b ihc iha ihb =>
    refine snd_e (fun G W X xo e h => ?_) (fun _ _ => by simp [chkA]) fun _ _ => by simp [chkI]
    simp only [chkE] at h
    split at h
    · rename_i z x y hv
      obtain ⟨q, rfl⟩ := vIfE_eq hv
      simp only [Bool.and_eq_true] at h
      obtain ⟨h1, h2, h3, h4⟩ := h
      exact ⟨pe_if ((ihc.e G W X xo z h1).2 h4) (iha.e G W X xo x h2).1 (ihb.e G W X xo y h3).1, fun z => by cases z⟩
    · cases h
  | ix a b iha ihb =>
    refine snd_e (fun G W X xo e h => ?_) (fun _ _ => by simp [chkA]) fun _ _ => by simp [chkI]
    simp only [chkE] at h
    split at h
    · rename_i x y hv
      simp only [Bool.and_eq_true] at h
      have pe := pe_i xo hv (iha.e G W X xo x h.1).1 (ihb.e G W X xo y h.2).1
      obtain ⟨p, rfl, _⟩ := vIx_eq hv
      exact ⟨pe, fun _ => pt_tr xo pe fun _ => rfl⟩
    · cases h
  | sl bx a lo hi iha ihl ihh =>
    refine snd_e (fun G W X xo e h => ?_) (fun _ _ => by simp [chkA]) fun _ _ => by simp [chkI]
    simp only [chkE] at h
    split at h
    · rename_i x l hh hv
      simp only [Bool.and_eq_true] at h
      have pe := pe_s (bx := bx) xo hv (iha.e G W X xo x h.1).1 (ihl.o xo h.2.1) (ihh.o xo h.2.2)
      obtain ⟨p, p2, rfl⟩ := vSl_eq hv
      exact ⟨pe, fun _ => pt_tr xo pe fun _ => rfl⟩
    · cases h
  | rev bx a ih =>
    refine snd_e (fun G W X xo e h => ?_) (fun _ _ => by simp [chkA]) fun _ _ => by simp [chkI]
    simp only [chkE] at h
    split at h
    · rename_i x hv
      have pe := pe_r (bx := bx) xo hv (ih.e G W X xo x h).1
      obtain ⟨k, p1, p2, p3, p, rfl⟩ := vRev_eq hv
      exact ⟨pe, fun _ => pt_tr xo pe fun _ => rfl⟩
    · cases h
  | call f es ih =>
    refine snd_e (fun G W X xo e h => ?_) (fun _ _ => by simp [chkA]) fun _ _ => by simp [chkI]
    simp only [chkE] at h
    split at h
    · rename_i x r hv
      simp only [Bool.and_eq_true] at h
      have pe := pe_ca xo hv (isNm_eq h.1) h.2.1 h.2.2 (ih.a G W X xo r h.2.2)
      obtain ⟨p, q, a, es', rfl, _⟩ := vCall_eq hv
      exact ⟨pe, fun _ => pt_tr xo pe fun _ => rfl⟩
    · cases h
  | call0 f =>
    refine snd_e (fun G W X xo e h => ?_) (fun _ _ => by simp [chkA]) fun _ _ => by simp [chkI]
    simp only [chkE] at h
    split at h
    · rename_i x hv
      simp only [Bool.and_eq_true] at h
      have pe := pe_ca0 xo hv (isNm_eq h.1) h.2
      obtain ⟨p, q, rfl⟩ := vCall0_eq hv
      exact ⟨pe, fun _ => pt_tr xo pe fun _ => rfl⟩
    · cases h
  | callL f es ih =>
    refine snd_e (fun G W X xo e h => ?_) (fun _ _ => by simp [chkA]) fun _ _ => by simp [chkI]
    simp only [chkE] at h
    split at h
    · rename_i x r hv
      simp only [Bool.and_eq_true] at h
      have pe := pe_cal xo hv (isNm_eq h.1) h.2.1 h.2.2 (ih.a G W X xo r h.2.2)
      obtain ⟨p, q, a, es', rfl, _⟩ := vCall_eq hv
      exact ⟨pe, fun _ => pt_tr xo pe fun _ => rfl⟩
    · cases h
  | callv i es ih =>
    refine snd_e (fun G W X xo e h => ?_) (fun _ _ => by simp [chkA]) fun _ _ => by simp [chkI]
    simp only [chkE] at h
    split at h
    · rename_i x r hv
      simp only [Bool.and_eq_true, Bool.not_eq_true', decide_eq_true_eq] at h
      have pe : PE X e (tE g W (evE E (.callv i es))) := pe_cv xo hv (xo.callv h.1) h.2.1 h.2.2.1 h.2.2.2.1 h.2.2.2.2 (ih.a G W X xo r h.2.2.2.2)
      obtain ⟨p, q, a, es', rfl, _⟩ := vCall_eq hv
      exact ⟨pe, fun _ => pt_tr xo pe fun _ => rfl⟩
    · cases h
  | callvL i es ih =>
    refine snd_e (fun G W X xo e h => ?_) (fun _ _ => by simp [chkA]) fun _ _ => by simp [chkI]
    simp only [chkE] at h
    split at h
    · rename_i x r hv
      simp only [Bool.and_eq_true, Bool.not_eq_true', decide_eq_true_eq] at h
      have pe : PE X e (tE g W (evE E (.callvL i es))) := pe_cv xo hv (xo.callvL h.1) h.2.1 h.2.2.1 h.2.2.2.1 h.2.2.2.2 (ih.a G W X xo r h.2.2.2.2)
      obtain ⟨p, q, a, es', rfl, _⟩ := vCall_eq hv
      exact ⟨pe, fun _ => pt_tr xo pe fun _ => rfl⟩
    · cases h
  | blt bx b es ih =>
    refine snd_e (fun G W X xo e h => ?_) (fun _ _ => by simp [chkA]) fun _ _ => by simp [chkI]
    simp only [chkE] at h
    split at h
    · rename_i x r hv
      simp only [Bool.and_eq_true] at h
      have pe := pe_bl_ (bx := bx) xo hv (by simpa using h.1) h.2.1 h.2.2 (ih.a G W X xo r h.2.2)
      obtain ⟨p, q, a, es', rfl, _⟩ := vCall_eq hv
      exact ⟨pe, fun _ => pt_tr xo pe fun _ => rfl⟩
    · cases h
  | isi a ty ih =>
    refine snd_e (fun G W X xo e h => ?_) (fun _ _ => by simp [chkA]) fun _ _ => by simp [chkI]
    simp only [chkE] at h
    split at h
    · rename_i x y z hv
      split at h
      · rename_i w hw
        simp only [Bool.and_eq_true, beq_iff_eq] at h
        obtain ⟨h1, h2, h3, h4, h5, h6, h7⟩ := h
        have pe := pe_is xo hv hw h1 h2 h3 h4 (by simpa using h5) (ih.e G W X xo y h6).1 h7
        obtain ⟨p, q, a, es', rfl, _⟩ := vCall_eq hv
        exact ⟨pe, fun _ => pt_tr xo pe fun _ => rfl⟩
      · cases h
    · cases h
  | mkE c a ih =>
    refine snd_e (fun G W X xo e h => ?_) (fun _ _ => by simp [chkA]) fun _ _ => by simp [chkI]
    simp only [chkE] at h
    split at h
    · rename_i x y hv
      simp only [Bool.and_eq_true, Option.isNone_iff_eq_none] at h
      obtain ⟨h1, h2, h3, h4, h5⟩ := h
      have pe := pe_mkE_ xo hv (isNm_eq h1) h3 h2 h4 (ih.e G W X xo y h5).1
      obtain ⟨p, q, a, es', rfl, _⟩ := vCall_eq hv
      exact ⟨pe, fun _ => pt_tr xo pe fun _ => rfl⟩
    · cases h
  | mkX c f a ih =>
    refine snd_e (fun G W X xo e h => ?_) (fun _ _ => by simp [chkA]) fun _ _ => by simp [chkI]
    simp only [chkE] at h
    split at h
    · rename_i x y hv
      simp only [Bool.and_eq_true] at h
      obtain ⟨h1, h2, h3, h4, h5⟩ := h
      have pe := pe_mkX_ xo hv (isNm_eq h1) (isNm_eq h3) h2 h4 (ih.e G W X xo y h5).1
      obtain ⟨p, q, a, es', rfl, _⟩ := vCall_eq hv
      exact ⟨pe, fun _ => pt_tr xo pe fun _ => rfl⟩
    · cases h
  | isx a x yes ih =>
    refine snd_e (fun G W X xo e h => ?_) (fun _ _ => by simp [chkA]) fun _ _ => by simp [chkI]
    simp only [chkE] at h
    split at h
    · rename_i n y z hv
      split at h
      · rename_i w hw
        simp only [Bool.and_eq_true, beq_iff_eq] at h
        obtain ⟨h1, h2, h3, h4, h5, h6, h7⟩ := h
        have pe := pe_isx_ xo hv hw h1 h2 h3 h4 (by simpa using h5) (ih.e G W X xo y h6).1 h7
        obtain ⟨p, q, a, es', rfl, _⟩ := vCall_eq hv
        exact ⟨pe, fun _ => pt_tr xo pe fun _ => rfl⟩
      · cases h
    · cases h
  | repl a y z ih => exact snd_e (fun G W X xo e h => by simp [chkE] at h) (fun _ _ => by simp [chkA]) fun _ _ => by simp [chkI]
  | fld a f cs ih =>
    refine snd_e (fun G W X xo e h => ?_) (fun _ _ => by simp [chkA]) fun _ _ => by simp [chkI]
    simp only [chkE] at h
    split at h
    · rename_i o n hv
      simp only [Bool.and_eq_true, beq_iff_eq, List.all_eq_true] at h
      obtain ⟨h1, h2, h3, h4⟩ := h
      subst h1
      have pe := pe_fld_ xo hv h2 (fun c hc => by
        have z := h3 c hc
        obtain ⟨z1, z2⟩ := z
        obtain ⟨x, hx⟩ := Option.isSome_iff_exists.mp z2
        exact ⟨x, hx, isNm_eq z1⟩) (ih.e G W X xo o h4).1
      obtain ⟨p, rfl⟩ := vAtt_eq hv
      exact ⟨pe, fun _ => pt_tr xo pe fun _ => rfl⟩
    · cases h
  | mt0 m o ih =>
    refine snd_e (fun G W X xo e h => ?_) (fun _ _ => by simp [chkA]) fun _ _ => by simp [chkI]
    simp only [chkE] at h
    split at h
    · rename_i x n hv
      simp only [Bool.and_eq_true, beq_iff_eq] at h
      have pe := pe_m0_ xo hv h.1 h.2.1 h.2.2.1 (ih.e G W X xo x h.2.2.2).1
      obtain ⟨p, q, rfl, _⟩ := vMth_eq hv
      exact ⟨pe, fun _ => pt_tr xo pe fun _ => rfl⟩
    · cases h
  | mt1 m o a iho iha =>
    refine snd_e (fun G W X xo e h => ?_) (fun _ _ => by simp [chkA]) fun _ _ => by simp [chkI]
    simp only [chkE] at h
    split at h
    · rename_i x n y hv
      simp only [Bool.and_eq_true, beq_iff_eq, Bool.not_eq_true'] at h
      obtain ⟨h1, h2, h3, h4, h5, h6⟩ := h
      have pe := pe_m1_ xo hv h1 h2 h3 h4 (iho.e G W X xo x h5).1 (iha.e G W X xo y h6).1
      obtain ⟨p, q, rfl, _⟩ := vMth_eq hv
      exact ⟨pe, fun _ => pt_tr xo pe fun _ => rfl⟩
    · cases h
  | lc bx own elt tg src cnd ihe ihs ihc =>
    refine snd_e (fun G W X xo e h => ?_) (fun _ _ => by simp [chkA]) fun _ _ => by simp [chkI]
    obtain ⟨x, t, it, cs, scope, q, wi, tt, ow, rfl, ho, h1, h2, h3, h4, h5, h6, h7⟩ := lc_parts xo ihe ihs ihc h
    have pe : PE X (.ListComp x [⟨t, it, cs, 0⟩] scope q) (tE g W (evE E (.lc bx own elt tg src cnd))) :=
      (pe_lc xo.calm (by rw [xo.N]; exact xo.nd) h1 h2 h3 h4 h5 h6).of fun σ H Q z => by rw [ho]; exact h7 σ H Q z
    exact ⟨pe, fun _ => pt_tr xo pe fun _ => rfl⟩
  | lcB bx own elt tg src cnd ihe ihs ihc =>
    refine snd_e (fun G W X xo e h => ?_) (fun _ _ => by simp [chkA]) fun _ _ => by simp [chkI]
    obtain ⟨x, t, it, cs, scope, q, wi, tt, ow, rfl, ho, h1, h2, h3, h4, h5, h6, h7⟩ := lcB_parts xo ihe ihs ihc h
    have pe : PE X (.ListComp x [⟨t, it, cs, 0⟩] scope q) (tE g W (evE E (.lcB bx own elt tg src cnd))) :=
      (pe_lc xo.calm (by rw [xo.N]; exact xo.nd) h1 h2 h3 h4 h5 h6).of fun σ H Q z => by rw [ho]; exact h7 σ H Q z
    exact ⟨pe, fun _ => pt_tr xo pe fun _ => rfl⟩
  | sq a ih =>
    refine snd_i (fun G W X xo tg e hp h => ?_) (fun _ _ => by simp [chkA]) fun _ _ => by simp [chkE]
    simp only [chkI, Bool.and_eq_true] at h
    exact pi_sq xo (ih.e G W X xo e h.1).1
  | sqS a ih =>
    refine snd_i (fun G W X xo tg e hp h => ?_) (fun _ _ => by simp [chkA]) fun _ _ => by simp [chkE]
    simp only [chkI, Bool.and_eq_true] at h
    exact pi_sqS (ih.e G W X xo e h.1).1
  | rg1 a ih =>
    refine snd_i (fun G W X xo tg e hp h => ?_) (fun _ _ => by simp [chkA]) fun _ _ => by simp [chkE]
    simp only [chkI] at h
    split at h
    · rename_i x y hv
      simp only [Bool.and_eq_true, beq_iff_eq] at h
      exact pi_r1 xo hv h.1 h.2.1 (ih.e G W X xo y h.2.2.1).1 h.2.2.2
    · cases h
  | rg2 a b iha ihb =>
    refine snd_i (fun G W X xo tg e hp h => ?_) (fun _ _ => by simp [chkA]) fun _ _ => by simp [chkE]
    simp only [chkI] at h
    split at h
    · rename_i x y z hv
      simp only [Bool.and_eq_true, beq_iff_eq] at h
      obtain ⟨h1, h2, h3, h4, h5, h6⟩ := h
      exact pi_r2 xo hv h1 h2 (iha.e G W X xo y h3).1 (ihb.e G W X xo z h4).1 h5 h6
    · cases h
  | zp a b iha ihb =>
    refine snd_i (fun G W X xo tg e hp h => ?_) (fun _ _ => by simp [chkA]) fun _ _ => by simp [chkE]
    simp only [isPair, Option.isSome_iff_exists] at hp
    obtain ⟨ts, ht⟩ := hp
    simp only [chkI] at h
    split at h
    · rename_i x y z hv
      simp only [Bool.and_eq_true, beq_iff_eq] at h
      obtain ⟨h1, h2, h3, h4, h5, h6⟩ := h
      exact pi_z xo hv h1 h2 ht (iha.e G W X xo y h3).1 (ihb.e G W X xo z h4).1 h5 h6
    · cases h
  | en a ih =>
    refine snd_i (fun G W X xo tg e hp h => ?_) (fun _ _ => by simp [chkA]) fun _ _ => by simp [chkE]
    simp only [isPair, Option.isSome_iff_exists] at hp
    obtain ⟨ts, ht⟩ := hp
    simp only [chkI] at h
    split at h
    · rename_i x y hv
      simp only [Bool.and_eq_true, beq_iff_eq] at h
      exact pi_e xo hv h.1 h.2.1 ht (ih.e G W X xo y h.2.2.1).1 h.2.2.2
    · cases h
  | lrg bx a b iha ihb =>
    refine snd_e (fun G W X xo e h => ?_) (fun _ _ => by simp [chkA]) fun _ _ => by simp [chkI]
    simp only [chkE] at h
    split at h
    · rename_i x y hv
      split at h
      · rename_i z u v hv2
        simp only [Bool.and_eq_true, beq_iff_eq] at h
        obtain ⟨h1, h2, h3, h4, h5, h6, h7, h8, h9⟩ := h
        have pe := pe_lrg (bx := bx) xo hv hv2 h1 h2 h3 h4 h5 (iha.e G W X xo u h6).1 (ihb.e G W X xo v h7).1 h8 h9
        obtain ⟨p, q, a, es', rfl, _⟩ := vCall_eq hv
        exact ⟨pe, fun _ => pt_tr xo pe fun _ => rfl⟩
      · cases h
    · cases h
  | pop a ih =>
    refine snd_e (fun G W X xo e h => ?_) (fun _ _ => by simp [chkA]) fun _ _ => by simp [chkI]
    simp only [chkE] at h
    split at h
    · rename_i x n hv
      simp only [Bool.and_eq_true, beq_iff_eq] at h
      have pe := pe_pop_ xo hv h.1 h.2.1 (ih.e G W X xo x h.2.2).1
      obtain ⟨p, q, rfl, _⟩ := vMth_eq hv
      exact ⟨pe, fun _ => pt_tr xo pe fun _ => rfl⟩
    · cases h
  | srt bx a ih =>
    refine snd_e (fun G W X xo e h => ?_) (fun _ _ => by simp [chkA]) fun _ _ => by simp [chkI]
    simp only [chkE] at h
    split at h
    · rename_i x y hv
      simp only [Bool.and_eq_true, beq_iff_eq] at h
      have pe := pe_srt_ (bx := bx) xo hv h.1 h.2.1 h.2.2.1 (ih.e G W X xo y h.2.2.2).1
      obtain ⟨p, q, a, es', rfl, _⟩ := vCall_eq hv
      exact ⟨pe, fun _ => pt_tr xo pe fun _ => rfl⟩
    · cases h
  | dls bx dv a ih =>
    refine snd_e (fun G W X xo e h => ?_) (fun _ _ => by simp [chkA]) fun _ _ => by simp [chkI]
    simp only [chkE] at h
    split at h
    · rename_i x y hv
      split at h
      · rename_i o hw
        simp only [Bool.and_eq_true, beq_iff_eq, Bool.not_eq_true'] at h
        obtain ⟨h1, h2, h3, h4, h5⟩ := h
        have pe := pe_dls_ (bx := bx) xo hv hw h1 h2 h3 h4 (ih.e G W X xo o h5).1
        obtain ⟨p, q, a, es', rfl, _⟩ := vCall_eq hv
        exact ⟨pe, fun _ => pt_tr xo pe fun _ => rfl⟩
      · cases h
    · cases h
  | dsp ks es ih =>
    refine snd_e (fun G W X xo e h => ?_) (fun _ _ => by simp [chkA]) fun _ _ => by simp [chkI]
    simp only [chkE] at h
    split at h
    · rename_i keys vals hv
      simp only [Bool.and_eq_true, Bool.not_eq_true', decide_eq_true_eq] at h
      obtain ⟨h1, h2, h3, h4⟩ := h
      obtain ⟨pos, rfl⟩ := vDisp_eq hv
      obtain ⟨trs, t1, t2⟩ := ih.d G W X xo pos ks keys vals h1 h4 h3.1
      have pe : PE X (.Dict keys vals pos) (tE g W (evE E (.dsp ks es))) := by
        refine (pe_disp t1 (keysAre_some h1) h3.1 (fun z => ?_) h3.2).of fun σ H Q z => dsp_read t2 z
        subst z
        cases ks with
        | nil => cases h2
        | cons k ks => cases h1
      exact ⟨pe, fun _ => pt_tr xo pe fun _ => rfl⟩
    · cases h
  | lcD bx own elt tg dv src cnd ihe ihs ihc =>
    refine snd_e (fun G W X xo e h => ?_) (fun _ _ => by simp [chkA]) fun _ _ => by simp [chkI]
    obtain ⟨x, t, it, cs, scope, q, wi, tt, ow, rfl, ho, h1, h2, h3, h4, h5, h6, h7⟩ := lcD_parts xo ihe ihs ihc h
    have pe : PE X (.ListComp x [⟨t, it, cs, 0⟩] scope q) (tE g W (evE E (.lcD bx own elt tg dv src cnd))) :=
      (pe_unl (pe_lc xo.calm (by rw [xo.N]; exact xo.nd) h1 h2 h3 h4 h5 h6)).of fun σ H Q z => by rw [ho]; exact h7 σ H Q z
    exact ⟨pe, fun _ => pt_tr xo pe fun _ => rfl⟩
  | dnew ki =>
    refine snd_e (fun G W X xo e h => ?_) (fun _ _ => by simp [chkA]) fun _ _ => by simp [chkI]
    simp only [chkE] at h
    split at h
    · rename_i pos
      have pe := pe_dnew_ (ki := ki) (pos := pos) xo
      exact ⟨pe, fun _ => pt_tr xo pe fun _ => rfl⟩
    · cases h
  | dct a ih =>
    refine snd_e (fun G W X xo e h => ?_) (fun _ _ => by simp [chkA]) fun _ _ => by simp [chkI]
    simp only [chkE] at h
    split at h
    · rename_i x y hv
      simp only [Bool.and_eq_true, beq_iff_eq] at h
      obtain ⟨h1, h2, h3, h4⟩ := h
      have pe := pe_dct_ xo hv h1 h2 h3 (ih.e G W X xo y h4).1
      obtain ⟨p, q, a, es', rfl, _⟩ := vCall_eq hv
      exact ⟨pe, fun _ => pt_tr xo pe fun _ => rfl⟩
    · cases h
  | sst bx a ih =>
    refine snd_e (fun G W X xo e h => ?_) (fun _ _ => by simp [chkA]) fun _ _ => by simp [chkI]
    simp only [chkE] at h
    split at h
    · rename_i x y hv
      split at h
      · rename_i z u hv2
        simp only [Bool.and_eq_true, beq_iff_eq] at h
        obtain ⟨h1, h2, h3, h4, h5, h6, h7⟩ := h
        have pe := pe_sst_ (bx := bx) xo hv hv2 h1 h2 h3 h4 h5 h6 (ih.e G W X xo u h7).1
        obtain ⟨p, q, a, es', rfl, _⟩ := vCall_eq hv
        exact ⟨pe, fun _ => pt_tr xo pe fun _ => rfl⟩
      · cases h
    · cases h
  | lam f b ih =>
    refine snd_e (fun G W X xo e h => ?_) (fun _ _ => by simp [chkA]) fun _ _ => by simp [chkI]
    simp only [chkE] at h
    split at h
    · rename_i x ps body sc hv
      simp only [Bool.and_eq_true] at h
      have pe := pe_lm xo hv (isNm_eq h.1) h.2.1 h.2.2.1 h.2.2.2.1 fun W' X' xo' => (ih.e _ W' X' xo' body h.2.2.2.2).1
      obtain ⟨p, lp, q, rfl⟩ := vLam_eq hv
      exact ⟨pe, fun _ => pt_tr xo pe fun _ => rfl⟩
    · cases h
end
end Fw

namespace Fw
open PySem L2 PyProof.Rows

def GoodS (g : GW) (W : WX) (m : List Addr) (H : Hp) (D : Ends) : OutS → Prop
  | .nx ρ S => ∀ σ m' H', Ext m H m' H' → RS g m' σ H' ρ S → D.nx σ H'
  | .bk ρ S => ∀ σ m' H', Ext m H m' H' → RS g m' σ H' ρ S → D.bk σ H'
  | .ct ρ S => ∀ σ m' H', Ext m H m' H' → RS g m' σ H' ρ S → D.ct σ H'
  | .rt t S => ∀ v m' H', Ext m H m' H' → SRep g m' H' S → Rep g m' H' t v → D.rt v H'
  | .ex c p ρ S => ∀ cls d σ m' H', Ext m H m' H' → RS g m' σ H' ρ S → XRep g H' c p cls d → W cls d σ H'
theorem GoodS.ext {g : GW} {W : WX} {m m' : List Addr} {H H' : Hp} {D : Ends} {o : OutS} (h : GoodS g W m H D o) (x : Ext m H m' H') : GoodS g W m' H' D o := by
  cases o with
  | nx ρ S => exact fun σ m2 H2 x2 => h σ m2 H2 (x.trans x2)
  | bk ρ S => exact fun σ m2 H2 x2 => h σ m2 H2 (x.trans x2)
  | ct ρ S => exact fun σ m2 H2 x2 => h σ m2 H2 (x.trans x2)
  | rt t S => exact fun v m2 H2 x2 => h v m2 H2 (x.trans x2)
  | ex c p ρ S => exact fun cls d σ m2 H2 x2 => h cls d σ m2 H2 (x.trans x2)
def tS (g : GW) (W : WX) (f : Rho → Sto → ResS) : TS := fun D σ H => ∃ fb m ρ S o, RS (g.w fb) m σ H ρ S ∧ f ρ S = some o ∧ GoodS (g.w fb) W m H D o

structure SOk (G : Gm) (g : GW) (E : EV) (W : WX) (X : Cx) : Prop where
  xo : XOk G g E W X
  po : PassesOwn (model X.prog X.w) X.A X.env X.xe
  kd : X.env.scope.kind = .function
  exc : ∀ c x, G.ename c = some x → G.exf c = none → ∃ (B newId initId : String) (bmB : List Value), ExcBaseFacts B newId initId bmB ∧ PySem.W.excIn X.K (g.ea c) bmB newId = true ∧ X.mg x = some (.ref (g.ea c)) ∧ PySem.W.keepIn X.K (.ref (g.ea c)) = true ∧ Raises X (.ref (g.ea c))
  st : X.stack = X.env :: X.outer
  fr : X.env.frame = some X.env.locals
  xm : ∀ c c', (c, c') ∈ G.xms → PySem.W.exmOne X.K (.ref (g.ea c)) (.ref (g.ea c')) = some (decide (c = c'))
  xmg : ∀ c x, G.ename c = some x → X.mg x = some (.ref (g.ea c))

section
variable {g : GW} {E : EV} {G : Gm} {W : WX} {X : Cx}

theorem tS_bnd {fb : List Addr} {f : Rho → Sto → Res} {k : T → Sto → ResS} {m : List Addr} {σ : L2.St} {H : Hp} {ρ : Rho} {S : Sto} {o : OutS} {D : Ends} {R : VK}
    (h : bndS (f ρ S) ρ k = some o) (rs : RS (g.w fb) m σ H ρ S) (Gd : GoodS (g.w fb) W m H D o)
    (hk : ∀ t S1 v m1 H1, k t S1 = some o → Ext m H m1 H1 → RS (g.w fb) m1 σ H1 ρ S1 → Rep (g.w fb) m1 H1 t v → GoodS (g.w fb) W m1 H1 D o → R v H1) : tE g W f σ H R := by
  cases e : f ρ S with
  | none => rw [e] at h; cases h
  | some r =>
    rw [e] at h
    refine ⟨fb, m, ρ, S, r, rs, e, ?_⟩
    cases r with
    | ok t S1 => exact fun v m1 H1 x sr rp => hk t S1 v m1 H1 h x ⟨rs.env.mono x, sr⟩ rp (Gd.ext x)
    | ex c p S1 =>
      have : o = .ex c p ρ S1 := (Option.some.inj h).symm
      subst this
      exact fun cls d m1 H1 x sr xr => Gd cls d σ m1 H1 x ⟨rs.env.mono x, sr⟩ xr
theorem tS_tst {fb : List Addr} {f : Rho → Sto → Res} {k : T → Sto → ResS} {m : List Addr} {σ : L2.St} {H : Hp} {ρ : Rho} {S : Sto} {o : OutS} {D : Ends} {R : Bool → Hp → Prop}
    (h : bndS (f ρ S) ρ k = some o) (rs : RS (g.w fb) m σ H ρ S) (Gd : GoodS (g.w fb) W m H D o)
    (hk : ∀ t S1, k t S1 = some o → ∃ b, truthy S1 t = some b ∧ ∀ m1 H1, Ext m H m1 H1 → RS (g.w fb) m1 σ H1 ρ S1 → GoodS (g.w fb) W m1 H1 D o → R b H1) : tT g W f σ H R := by
  cases e : f ρ S with
  | none => rw [e] at h; cases h
  | some r =>
    rw [e] at h
    refine ⟨fb, m, ρ, S, r, rs, e, ?_⟩
    cases r with
    | ok t S1 =>
      obtain ⟨b, hb, q⟩ := hk t S1 h
      exact ⟨b, hb, fun m1 H1 x sr => q m1 H1 x ⟨rs.env.mono x, sr⟩ (Gd.ext x)⟩
    | ex c p S1 =>
      have : o = .ex c p ρ S1 := (Option.some.inj h).symm
      subst this
      exact fun cls d m1 H1 x sr xr => Gd cls d σ m1 H1 x ⟨rs.env.mono x, sr⟩ xr
theorem tS_args {fb : List Addr} {f : Rho → Sto → Res} {k : T → Sto → ResS} {m : List Addr} {σ : L2.St} {H : Hp} {ρ : Rho} {S : Sto} {o : OutS} {D : Ends} {R : List V → Hp → Prop}
    (h : bndS (f ρ S) ρ k = some o) (rs : RS (g.w fb) m σ H ρ S) (Gd : GoodS (g.w fb) W m H D o)
    (hk : ∀ t S1, k t S1 = some o → ∃ l, t = .tup l ∧ ∀ vs m1 H1, Ext m H m1 H1 → RS (g.w fb) m1 σ H1 ρ S1 → RepL (g.w fb) m1 H1 l vs → GoodS (g.w fb) W m1 H1 D o → R vs H1) : tA g W f σ H R := by
  cases e : f ρ S with
  | none => rw [e] at h; cases h
  | some r =>
    rw [e] at h
    refine ⟨fb, m, ρ, S, r, rs, e, ?_⟩
    cases r with
    | ok t S1 =>
      obtain ⟨l, rfl, q⟩ := hk t S1 h
      exact fun vs m1 H1 x sr rp => q vs m1 H1 x ⟨rs.env.mono x, sr⟩ rp (Gd.ext x)
    | ex c p S1 =>
      have : o = .ex c p ρ S1 := (Option.some.inj h).symm
      subst this
      exact fun cls d m1 H1 x sr xr => Gd cls d σ m1 H1 x ⟨rs.env.mono x, sr⟩ xr

theorem nocomp_sw {v : Expr} {t : Option Expr} {l : Nat} {env : Env} (h : noComp v = true) : swapsWith v t l env = pure false := by
  cases v <;> first | rfl | cases h
theorem swf_sole {G : Gm} {x : Str} {px : Pos} {v : Expr} {l : Nat} {env : Env} (hsc : env.scope = G.sc) (h : swF G x px.line v = true) : swapsWithSole [.Name x px] v l env = pure false := by
  show swapsWith v (some (.Name x px)) l env = pure false
  cases v <;> try (cases h; done)
  rename_i elt gs scope pos
  unfold swapsWith
  simp only [swF, isKind, Bool.or_eq_true, Bool.not_eq_true', decide_eq_false_iff_not] at h
  rcases h with h | h
  · have : (env.kindOf x == some .local) = false := by
      unfold Env.kindOf
      rw [hsc]
      cases q : (G.sc.names.lookup x == some NameKind.local) with
      | false => rfl
      | true => exact absurd (by simpa using q) h
    simp [this]
  · have e : (Expr.ListComp elt gs scope pos).pos = pos := rfl
    simp [h, e]
theorem nocomp_sole {t v : Expr} {l : Nat} {env : Env} (h : noComp v = true) : swapsWithSole [t] v l env = pure false := nocomp_sw h
theorem ite5 (c1 c2 c3 c4 c5 : Bool) (n : List Str) (u : Sem Unit) (r : Option (List Str)) (h : (if c1 = true then some none else if c2 = true then some none else if c3 = true then some none else if c4 = true then some none else if c5 = true then none else some (some n)) = some r) :
    (if (c1 || (ScopeKind.function != ScopeKind.function)) = true then (pure none : Sem (Option (List Str))) else if c2 = true then pure none else if c3 = true then pure none else if c4 = true then pure none else if c5 = true then (do u; pure (some n)) else pure (some n)) = pure r := by
  have hf : (ScopeKind.function != ScopeKind.function) = false := rfl
  rw [hf]
  cases c1 <;> cases c2 <;> cases c3 <;> cases c4 <;> cases c5 <;> simp at h ⊢ <;> rw [h]
theorem swN_ok {env : Env} {ts vs : List Expr} {k k2 : Nat} {p p2 : Pos} {r : Option (List Str)} (hk : env.scope.kind = .function) (h : swN env.scope ts vs = some r) : swappedStores [.Tuple ts k p] (.Tuple vs k2 p2) env = pure r := by
  have hb : env.blockKind = .function := by unfold Env.blockKind; rw [hk]; rfl
  unfold swappedStores
  simp only [hb]
  exact ite5 _ _ _ _ _ _ _ r h
theorem notup_sw {t v : Expr} {env : Env} (h : vTup v = none) : swappedStores [t] v env = pure none := by
  cases v <;> first | rfl | (simp [vTup] at h; done) | (cases t <;> rfl)
theorem asOne_ok {ts : List Expr} {v : Expr} {k : Nat} {p : Pos} (sc : X.env.scope = G.sc) (kd : X.env.scope.kind = .function) (h : asOne G ts v = true) : swappedStores [.Tuple ts k p] v X.env = pure none := by
  unfold asOne at h
  cases e : vTup v with
  | none => exact notup_sw e
  | some vs =>
    rw [e] at h
    obtain ⟨k2, p2, rfl⟩ := vTup_eq e
    simp only [decide_eq_true_eq] at h
    exact swN_ok kd (by rw [sc]; exact h)

theorem vS_asg {s : Stmt} {t v : Expr} {l : Nat} (h : vS s = some (.asg t v l)) : ∃ p, s = .Assign [t] v p ∧ l = t.pos.line := by
  unfold vS at h
  split at h <;> simp only [Option.some.injEq, reduceCtorEq, VS.asg.injEq] at h <;> try (cases h; done)
  obtain ⟨rfl, rfl, rfl⟩ := h
  exact ⟨_, rfl, rfl⟩

/-! ### loops -/
theorem forL_cons {gt : T → Rho → Sto → ResS} {x : T} {xs : List T} {ρ : Rho} {S : Sto} {r : OutS} (h : forL gt (x :: xs) ρ S = some r) :
    ∃ q, gt x ρ S = some q ∧ (match q with
      | .nx ρ' S' => forL gt xs ρ' S' = some r
      | .ct ρ' S' => forL gt xs ρ' S' = some r
      | .bk ρ' S' => r = .nx ρ' S'
      | .rt t S' => r = .rt t S'
      | .ex c p ρ' S' => r = .ex c p ρ' S') := by
  simp only [forL] at h
  cases e : gt x ρ S with
  | none => rw [e] at h; cases h
  | some q =>
    rw [e] at h
    refine ⟨q, rfl, ?_⟩
    cases q with
    | nx ρ' S' => exact h
    | ct ρ' S' => exact h
    | bk ρ' S' => exact (Option.some.inj h).symm
    | rt t S' => exact (Option.some.inj h).symm
    | ex c p ρ' S' => exact (Option.some.inj h).symm
def forG (E : EV) (tg : Tg) (b : IS) : T → Rho → Sto → ResS := fun t ρ S => match bindT tg t ρ with | some ρ' => evS E b ρ' S | none => none
theorem forB_read {K : PySem.W.Frag} {tg : Tg} {e : IE} {b : IS} {D : Ends} {σ : L2.St} {H : Hp} (h : tS g W (evS E (.forB tg e b)) D σ H) : tFor (iList K (tE g W (evE E e))) (tG g tg) (tS g W (evS E b)) D σ H := by
  obtain ⟨fb, m, ρ, S, o, rs, eq, Gd⟩ := h
  simp only [evS] at eq
  refine tS_bnd eq rs Gd fun t S1 v m1 H1 e1 x1 rs1 r1 Gd1 => ?_
  cases t <;> try (cases e1; done)
  rename_i k
  have e1 : forB (forG E tg b) k E.wf 0 ρ S1 = some o := e1
  have r1' := r1
  simp only [Rep] at r1'
  obtain ⟨a, hk, rfl⟩ := r1'
  have at_ : ∀ {i f : Nat} {m2 : List Addr} {H2 : Hp} {σ2 : L2.St} {ρ2 : Rho} {S2 : Sto}, Ext m1 H1 m2 H2 → RS (g.w fb) m2 σ2 H2 ρ2 S2 → forB (forG E tg b) k f i ρ2 S2 = some o → ∃ f' l vs, f = f' + 1 ∧ S2[k]? = some (.lst l) ∧ H2 a = some (.lst vs) ∧ RepL (g.w fb) m2 H2 l vs ∧ (match l[i]? with
      | some x => (match forG E tg b x ρ2 S2 with
        | some (.nx ρ' S') => forB (forG E tg b) k f' (i + 1) ρ' S'
        | some (.ct ρ' S') => forB (forG E tg b) k f' (i + 1) ρ' S'
        | some (.bk ρ' S') => some (.nx ρ' S')
        | r => r)
      | none => some (.nx ρ2 S2)) = some o := by
    intro i f m2 H2 σ2 ρ2 S2 x2 rs2 ef
    cases f with
    | zero => cases ef
    | succ f' =>
      simp only [forB] at ef
      split at ef
      · rename_i l hl
        obtain ⟨vs, q1, q2⟩ := rs2.sto.at_ k _ a hl (x2.get hk)
        exact ⟨f', l, vs, rfl, hl, q1, q2, ef⟩
      · cases ef
  obtain ⟨f0, l0, vs0, _, _, hv0, _, _⟩ := at_ (Ext.refl m1 H1) rs1 e1
  refine ⟨a, rfl, ⟨vs0, SqL.of hv0⟩, fun i f σ2 H2 => ∃ m2 ρ2 S2, Ext m1 H1 m2 H2 ∧ RS (g.w fb) m2 σ2 H2 ρ2 S2 ∧ forB (forG E tg b) k f i ρ2 S2 = some o, ⟨E.wf, m1, ρ, S1, Ext.refl _ _, rs1, e1⟩, ?_⟩
  rintro i f σ2 H2 ⟨m2, ρ2, S2, x2, rs2, ef⟩
  obtain ⟨f', l, vs, rfl, hl, hv, rl, e2⟩ := at_ x2 rs2 ef
  cases hi : l[i]? with
  | none =>
    rw [hi] at e2
    simp only [Option.some.injEq] at e2
    subst e2
    refine .inl ⟨⟨vs, SqL.of hv, ?_⟩, Gd1 σ2 m2 H2 x2 rs2⟩
    rw [← rl.length]
    exact List.getElem?_eq_none_iff.mp hi
  | some t =>
    rw [hi] at e2
    dsimp only at e2
    obtain ⟨x, hx, rx⟩ := rl.get hi
    refine .inr ⟨⟨vs, x, SqL.of hv, hx⟩, fun σ3 H3 => ∃ m3 ρ3 S3, Ext m1 H1 m3 H3 ∧ RS (g.w fb) m3 σ3 H3 ρ3 S3 ∧ forB (forG E tg b) k f' (i + 1) ρ3 S3 = some o, fun σ3 H3 h3 => ⟨f', Nat.lt_succ_self _, h3⟩, ?_⟩
    rintro x' H' ⟨rfl, hx'⟩
    have ex := hx' vs (SqL.of hv)
    rw [hx] at ex
    cases ex
    cases hg : forG E tg b t ρ2 S2 with
    | none => rw [hg] at e2; cases e2
    | some q =>
      rw [hg] at e2
      have q1 := hg
      unfold forG at q1
      split at q1
      · rename_i ρ' hb
        refine ⟨fb, m2, t, ρ2, ρ', S2, rs2, rx, hb, fun σ4 rs4 _ => ?_⟩
        refine ⟨fb, m2, ρ', S2, q, rs4, q1, ?_⟩
        cases q with
        | nx ρ5 S5 => exact fun σ5 m5 H5 x5 rs5 => ⟨m5, ρ5, S5, x2.trans x5, rs5, e2⟩
        | ct ρ5 S5 => exact fun σ5 m5 H5 x5 rs5 => ⟨m5, ρ5, S5, x2.trans x5, rs5, e2⟩
        | bk ρ5 S5 =>
          simp only [Option.some.injEq] at e2
          subst e2
          exact fun σ5 m5 H5 x5 rs5 => Gd1 σ5 m5 H5 (x2.trans x5) rs5
        | rt t5 S5 =>
          simp only [Option.some.injEq] at e2
          subst e2
          exact fun v m5 H5 x5 sr5 r5 => Gd1 v m5 H5 (x2.trans x5) sr5 r5
        | ex c p ρ5 S5 =>
          simp only [Option.some.injEq] at e2
          subst e2
          exact fun cls d σ5 m5 H5 x5 rs5 xr => Gd1 cls d σ5 m5 H5 (x2.trans x5) rs5 xr
      · cases q1
theorem forJ_read {tg : Tg} {b : IS} {D : Ends} {σ : L2.St} {fb m1 : List Addr} {H1 : Hp} {ρ : Rho} {S1 : Sto} {l : List T} {o : OutS} {J : It} (rs1 : RS (g.w fb) m1 σ H1 ρ S1) (wk : Wk (g.w fb) m1 H1 l J)
    (e : forL (forG E tg b) l ρ S1 = some o) (Gd1 : GoodS (g.w fb) W m1 H1 D o) : tFor (fun _ H R => R J H) (tG g tg) (tS g W (evS E b)) D σ H1 := by
  obtain ⟨GG, Y, w, hG, hY⟩ := wk.ex
  refine for_it w (fun i σ2 H2 => ∃ m2 ρ2 S2, Ext m1 H1 m2 H2 ∧ RS (g.w fb) m2 σ2 H2 ρ2 S2 ∧ (i ≤ l.length → forL (forG E tg b) (l.drop i) ρ2 S2 = some o)) ?_ ?_ ?_ ?_
  · exact ⟨m1, ρ, S1, Ext.refl _ _, rs1, fun _ => e⟩
  · rintro i σ2 H2 _ ⟨m2, ρ2, S2, x2, _⟩
    exact hG m2 H2 x2
  · rintro i x σ2 H2 H3 hi ⟨m2, ρ2, S2, x2, rs2, el⟩ y
    obtain ⟨t, ht', rt, hH⟩ := hY i fb m2 H2 x H3 hi x2 (fun a ha => .inl ha) (fun a ha => ⟨rs2.sto.fresh ha, rs2.sto.freshF ha⟩) y
    have x23 : Ext m2 H2 m2 H3 := by
      rcases hH with rfl | ⟨p, o, hp, rfl⟩
      · exact Ext.refl _ _
      · exact Ext.new hp
    have sr3 : SRep (g.w fb) m2 H3 S2 := by
      rcases hH with rfl | ⟨p, o, hp, rfl⟩
      · exact rs2.sto
      · exact rs2.sto.new hp
    have hdrop : l.drop i = t :: l.drop (i + 1) := by
      obtain ⟨hlt, e⟩ := List.getElem?_eq_some_iff.mp ht'
      rw [List.drop_eq_getElem_cons hlt, e]
    have el := el (Nat.le_of_lt hi)
    rw [hdrop] at el
    obtain ⟨q, q1, q2⟩ := forL_cons el
    unfold forG at q1
    split at q1
    · rename_i ρ' hb
      refine ⟨fb, m2, t, ρ2, ρ', S2, ⟨rs2.env.mono x23, sr3⟩, rt, hb, fun σ4 rs4 _ => ?_⟩
      refine ⟨fb, m2, ρ', S2, q, rs4, q1, ?_⟩
      have x3 := x2.trans x23
      cases q with
      | nx ρ5 S5 => exact fun σ5 m5 H5 x5 rs5 => ⟨m5, ρ5, S5, x3.trans x5, rs5, fun _ => q2⟩
      | ct ρ5 S5 => exact fun σ5 m5 H5 x5 rs5 => ⟨m5, ρ5, S5, x3.trans x5, rs5, fun _ => q2⟩
      | bk ρ5 S5 =>
        subst q2
        exact fun σ5 m5 H5 x5 rs5 => Gd1 σ5 m5 H5 (x3.trans x5) rs5
      | rt t5 S5 =>
        subst q2
        exact fun v m5 H5 x5 sr5 r5 => Gd1 v m5 H5 (x3.trans x5) sr5 r5
      | ex c p ρ5 S5 =>
        subst q2
        exact fun cls d σ5 m5 H5 x5 rs5 xr => Gd1 cls d σ5 m5 H5 (x3.trans x5) rs5 xr
    · cases q1
  · rintro σ2 H2 ⟨m2, ρ2, S2, x2, rs2, el⟩
    have el := el (Nat.le_refl _)
    rw [List.drop_length] at el
    simp only [forL, Option.some.injEq] at el
    subst el
    exact Gd1 σ2 m2 H2 x2 rs2

theorem for_read {tg : Tg} {src : IE} {b : IS} {D : Ends} {σ : L2.St} {H : Hp} (h : tS g W (evS E (.for_ tg src b)) D σ H) : tFor (tI g W (evE E src)) (tG g tg) (tS g W (evS E b)) D σ H := by
  obtain ⟨fb, m, ρ, S, o, rs, e, Gd⟩ := h
  simp only [evS] at e
  cases es : evE E src ρ S with
  | none => rw [es] at e; cases e
  | some r0 =>
    rw [es] at e
    refine ⟨fb, m, ρ, S, r0, rs, es, ?_⟩
    cases r0 with
    | ex c p S1 =>
      have : o = .ex c p ρ S1 := (Option.some.inj e).symm
      subst this
      exact fun cls d m1 H1 x sr xr => Gd cls d σ m1 H1 x ⟨rs.env.mono x, sr⟩ xr
    | ok t S1 =>
      cases t <;> try (cases e; done)
      rename_i l
      have e : forL (forG E tg b) l ρ S1 = some o := e
      intro J m1 H1 x1 sr1 wk
      exact forJ_read ⟨rs.env.mono x1, sr1⟩ wk e (Gd.ext x1)

theorem forD_ev {dv : DV} {tg : Tg} {e : IE} {b : IS} {ρ : Rho} {S : Sto} : evS E (.forD dv tg e b) ρ S = bndS (evE E e ρ S) ρ fun x S1 => (match x with
    | .box k => (match lkD dv S1 k with
      | some (l, S2) => unS k (forL (forG E tg b) (dItems dv l) ρ S2)
      | none => none)
    | _ => none) := rfl
/-- a walk over a dict, locked -/
theorem forD_read {H0 : Hp} {dv : DV} {tg : Tg} {e : IE} {b : IS} {D : Ends} {σ : L2.St} {H : Hp} (h : tS g W (evS E (.forD dv tg e b)) D σ H) : tUnl H0 (tFor (iDv g dv (tLk H0 (tE g W (evE E e)))) (tG g tg) (tS g W (evS E b))) D σ H := by
  obtain ⟨fb, m, ρ, S, o, rs, eq, Gd⟩ := h
  rw [forD_ev] at eq
  refine tS_bnd eq rs Gd fun t S1 v m1 H1 e1 x1 rs1 r1 Gd1 => ?_
  cases t <;> try (cases e1; done)
  rename_i k
  simp only at e1
  split at e1
  · rename_i l S2 hlk
    refine lk_go rs1.sto hlk r1 fun a od u J hk hu nf nt hn x2 sr2 wk => ?_
    cases ef : forL (forG E tg b) (dItems dv l) ρ S2 with
    | none => rw [ef] at e1; cases e1
    | some r =>
      rw [ef] at e1
      refine forJ_read (W := W) (D := ⟨fun σ' H' => ∃ d od u, H' d = some (.frz od u) ∧ (∀ o' u', H0 d ≠ some (.frz o' u')) ∧ D.nx σ' (upd H' d u), fun v H' => ∃ d od u, H' d = some (.frz od u) ∧ (∀ o' u', H0 d ≠ some (.frz o' u')) ∧ D.rt v (upd H' d u),
        fun σ' H' => ∃ d od u, H' d = some (.frz od u) ∧ (∀ o' u', H0 d ≠ some (.frz o' u')) ∧ D.bk σ' (upd H' d u), fun σ' H' => ∃ d od u, H' d = some (.frz od u) ∧ (∀ o' u', H0 d ≠ some (.frz o' u')) ∧ D.ct σ' (upd H' d u)⟩) ⟨rs1.env.mono x2, sr2⟩ wk ef ?_
      cases r with
      | nx ρ' S' =>
        simp only [unS] at e1
        split at e1
        · rename_i S'' hun
          simp only [Option.some.injEq] at e1
          subst e1
          intro σ' m' H' x' rs'
          obtain ⟨u1, u2, u3, u4⟩ := un_at (g := g.w fb) hk hu nf nt x' rs'.sto hun
          exact ⟨a, od, u, u1, hn, Gd1 σ' m' _ u2 ⟨erep_of rs'.env u4, u3⟩⟩
        · cases e1
      | rt t S' =>
        simp only [unS] at e1
        split at e1
        · rename_i S'' hun
          simp only [Option.some.injEq] at e1
          subst e1
          intro v' m' H' x' sr' r'
          obtain ⟨u1, u2, u3, u4⟩ := un_at (g := g.w fb) hk hu nf nt x' sr' hun
          exact ⟨a, od, u, u1, hn, Gd1 v' m' _ u2 u3 (u4 _ _ r')⟩
        · cases e1
      | bk ρ' S' => cases e1
      | ct ρ' S' => cases e1
      | ex c p ρ' S' => cases e1
  · cases e1

theorem whl_read {c : IE} {b : IS} {D : Ends} {σ : L2.St} {H : Hp} (h : tS g W (evS E (.whl c b)) D σ H) : tWhile (tT g W (evE E c)) (tS g W (evS E b)) D σ H := by
  obtain ⟨fb, m, ρ, S, o, rs, e, Gd⟩ := h
  simp only [evS] at e
  refine ⟨fun n σ2 H2 => ∃ m2 ρ2 S2, Ext m H m2 H2 ∧ RS (g.w fb) m2 σ2 H2 ρ2 S2 ∧ whlL (fun ρ S => evE E c ρ S) (fun ρ S => evS E b ρ S) n ρ2 S2 = some o, ⟨_, m, ρ, S, Ext.refl _ _, rs, e⟩, ?_⟩
  rintro n σ2 H2 ⟨m2, ρ2, S2, x2, rs2, e2⟩
  cases n with
  | zero => cases e2
  | succ n =>
    simp only [whlL] at e2
    cases ec : evE E c ρ2 S2 with
    | none => rw [ec] at e2; cases e2
    | some r =>
      rw [ec] at e2
      refine ⟨fb, m2, ρ2, S2, r, rs2, ec, ?_⟩
      cases r with
      | ex c p S3 =>
        have : o = .ex c p ρ2 S3 := (Option.some.inj e2).symm
        subst this
        exact fun cls d m3 H3 x3 sr xr => Gd cls d σ2 m3 H3 (x2.trans x3) ⟨rs2.env.mono x3, sr⟩ xr
      | ok t S3 =>
        simp only at e2
        split at e2
        · rename_i ht
          refine ⟨true, ht, fun m3 H3 x3 sr3 => iteT ⟨fun σ4 H4 => ∃ m4 ρ4 S4, Ext m H m4 H4 ∧ RS (g.w fb) m4 σ4 H4 ρ4 S4 ∧ whlL (fun ρ S => evE E c ρ S) (fun ρ S => evS E b ρ S) n ρ4 S4 = some o, fun σ4 H4 q => ⟨n, Nat.lt_succ_self n, q⟩, ?_⟩⟩
          have x3' := x2.trans x3
          cases eb : evS E b ρ2 S3 with
          | none => rw [eb] at e2; cases e2
          | some q =>
            rw [eb] at e2
            refine ⟨fb, m3, ρ2, S3, q, ⟨rs2.env.mono x3, sr3⟩, eb, ?_⟩
            cases q with
            | nx ρ5 S5 => exact fun σ5 m5 H5 x5 rs5 => ⟨m5, ρ5, S5, x3'.trans x5, rs5, e2⟩
            | ct ρ5 S5 => exact fun σ5 m5 H5 x5 rs5 => ⟨m5, ρ5, S5, x3'.trans x5, rs5, e2⟩
            | bk ρ5 S5 =>
              have := (Option.some.inj e2).symm
              subst this
              exact fun σ5 m5 H5 x5 rs5 => Gd σ5 m5 H5 (x3'.trans x5) rs5
            | rt t5 S5 =>
              have := (Option.some.inj e2).symm
              subst this
              exact fun v m5 H5 x5 sr5 r5 => Gd v m5 H5 (x3'.trans x5) sr5 r5
            | ex c p ρ5 S5 =>
              have := (Option.some.inj e2).symm
              subst this
              exact fun cls d σ5 m5 H5 x5 rs5 xr => Gd cls d σ5 m5 H5 (x3'.trans x5) rs5 xr
        · rename_i ht
          have := (Option.some.inj e2).symm
          subst this
          exact ⟨false, ht, fun m3 H3 x3 sr3 => iteF (Gd σ2 m3 H3 (x2.trans x3) ⟨rs2.env.mono x3, sr3⟩)⟩
        · cases e2
end
end Fw

namespace Fw
open PySem L2 PyProof.Rows

section
variable {g : GW} {E : EV} {G : Gm} {W : WX} {X : Cx}

/-! ### stores into lists -/
def rWApp (g : GW) : V → List V → Hp → VK → Prop := fun x vs H Q => ∃ fb m S S' o t y, vs = [y] ∧ SRep (g.w fb) m H S ∧ Rep (g.w fb) m H o x ∧ Rep (g.w fb) m H t y ∧ wApp S o t = some S' ∧ ∀ m' H', Ext m H m' H' → SRep (g.w fb) m' H' S' → Q .non H'
theorem mt_wapp : MtM X "list.append" (rWApp g) := by
  intro pins s σ H x xs v us Q I rx rs h
  obtain ⟨fb, m, S, S', o, t, y, rfl, sr, ro, rt, e, k⟩ := h
  unfold wApp at e
  split at e
  · rename_i n
    split at e
    · rename_i l hl
      split at e
      · rename_i hlen
        simp only [Option.some.injEq] at e
        subst e
        simp only [Rep] at ro
        obtain ⟨a, h1, rfl⟩ := ro
        obtain ⟨vs, q1, rl⟩ := sr.at_ n _ a hl h1
        refine mt_append pins s σ H _ _ v us Q I rx rs ⟨a, vs, y, rfl, rfl, q1, by rw [← rl.length, ← line_eq]; exact hlen, ?_⟩
        have hf : ∀ od u, H a ≠ some (.frz od u) := fun od u z => by rw [q1] at z; cases z
        exact k m _ (Ext.write (List.mem_of_getElem? h1) hf) (sr.write h1 hf (rl.append (RepL.cons rt RepL.nil)))
      · cases e
    · cases e
  · cases e
def rWSub (g : GW) : V → V → V → Hp → (Hp → Prop) → Prop := fun x i y H Q => ∃ fb m S S' o j t, SRep (g.w fb) m H S ∧ Rep (g.w fb) m H o x ∧ Rep (g.w fb) m H j i ∧ Rep (g.w fb) m H t y ∧ wSub S o j t = some S' ∧ ∀ m' H', Ext m H m' H' → SRep (g.w fb) m' H' S' → Q H'
theorem set_wsub (hK : X.K = g.K) (hp : X.prog = g.pr) (hw : X.w = g.wd) (hu : X.A.units + 64 < cLine) : PSet X (rWSub g) := by
  intro pins s σ H o i v ov iv u Q I ro ri rv h
  obtain ⟨fb, m, S, S', o', j, t, sr, rep1, rep2, rep3, e, k⟩ := h
  unfold wSub at e
  split at e
  · rename_i n
    split at e
    · rename_i l hl
      split at e
      · rename_i kk
        split at e
        · rename_i z hz
          simp only [Option.some.injEq] at e
          subst e
          simp only [Rep] at rep1
          obtain ⟨a, h1, rfl⟩ := rep1
          cases RepD.int (RepD.of rep2)
          obtain ⟨vs, q1, rl⟩ := sr.at_ n _ a hl h1
          refine set_list pins s σ H _ _ v ov iv u Q I ro ri rv ⟨a, vs, kk, z, rfl, rfl, q1, by rw [← rl.length]; exact hz, ?_⟩
          have hf : ∀ od u, H a ≠ some (.frz od u) := fun od u z => by rw [q1] at z; cases z
          exact k m _ (Ext.write (List.mem_of_getElem? h1) hf) (sr.write h1 hf (rl.set z rep3))
        · cases e
      · cases e
    · rename_i l hl
      split at e
      · rename_i hlen
        split at e
        · rename_i q hq
          simp only [Option.some.injEq] at e
          subst e
          exact dct_put (g := g.w fb) hK hp hw hu I sr rep2 ri rep1 ro hl hq (by rw [← line_eq]; exact hlen) rep3 rv fun s' H' x I' sr' => ⟨H', I', k m H' x sr'⟩
        · cases e
      · cases e
    · rename_i l hl
      split at e
      · rename_i hlen
        split at e
        · rename_i q hq
          simp only [Option.some.injEq] at e
          subst e
          exact dki_put (g := g.w fb) hu I sr rep2 ri rep1 ro hl hq (by rw [← line_eq]; exact hlen) rep3 rv fun s' H' x I' sr' => ⟨H', I', k m H' x sr'⟩
        · cases e
      · cases e
    · cases e
  · cases e

theorem vS_pass {s : Stmt} (h : vS s = some .pass) : ∃ p, s = .Pass p := by
  unfold vS at h
  split at h <;> simp only [Option.some.injEq, reduceCtorEq] at h <;> try (cases h; done)
  exact ⟨_, rfl⟩
theorem vS_brk {s : Stmt} (h : vS s = some .brk) : ∃ p, s = .Break p := by
  unfold vS at h
  split at h <;> simp only [Option.some.injEq, reduceCtorEq] at h <;> try (cases h; done)
  exact ⟨_, rfl⟩
theorem vS_cnt {s : Stmt} (h : vS s = some .cnt) : ∃ p, s = .Continue p := by
  unfold vS at h
  split at h <;> simp only [Option.some.injEq, reduceCtorEq] at h <;> try (cases h; done)
  exact ⟨_, rfl⟩
theorem vS_ret {s : Stmt} {e : Option Expr} (h : vS s = some (.ret e)) : ∃ p, s = .Return e p := by
  unfold vS at h
  split at h <;> simp only [Option.some.injEq, reduceCtorEq, VS.ret.injEq] at h <;> try (cases h; done)
  subst h; exact ⟨_, rfl⟩
theorem vS_expr {s : Stmt} {e : Expr} (h : vS s = some (.expr e)) : ∃ p, s = .Expr e p := by
  unfold vS at h
  split at h <;> simp only [Option.some.injEq, reduceCtorEq, VS.expr.injEq] at h <;> try (cases h; done)
  subst h; exact ⟨_, rfl⟩
theorem vS_iff {s : Stmt} {e : Expr} {a b : List Stmt} (h : vS s = some (.iff e a b)) : ∃ p, s = .If e a b p := by
  unfold vS at h
  split at h <;> simp only [Option.some.injEq, reduceCtorEq, VS.iff.injEq] at h <;> try (cases h; done)
  obtain ⟨rfl, rfl, rfl⟩ := h; exact ⟨_, rfl⟩
theorem vS_for {s : Stmt} {t e : Expr} {a : List Stmt} (h : vS s = some (.for_ t e a)) : ∃ p, s = .For t e a [] p := by
  unfold vS at h
  split at h <;> simp only [Option.some.injEq, reduceCtorEq, VS.for_.injEq] at h <;> try (cases h; done)
  obtain ⟨rfl, rfl, rfl⟩ := h; exact ⟨_, rfl⟩
theorem vS_whl {s : Stmt} {e : Expr} {a : List Stmt} (h : vS s = some (.whl e a)) : ∃ p, s = .While e a [] p := by
  unfold vS at h
  split at h <;> simp only [Option.some.injEq, reduceCtorEq, VS.whl.injEq] at h <;> try (cases h; done)
  obtain ⟨rfl, rfl⟩ := h; exact ⟨_, rfl⟩
theorem vS_rs {s : Stmt} {e : Expr} (h : vS s = some (.rs e)) : ∃ p, s = .Raise (some e) none p := by
  unfold vS at h
  split at h <;> simp only [Option.some.injEq, reduceCtorEq, VS.rs.injEq] at h <;> try (cases h; done)
  subst h; exact ⟨_, rfl⟩
theorem vSub_eq {e a b : Expr} (h : vSub e = some (a, b)) : ∃ p, e = .Subscript a b p ∧ ∀ env v, assign (.Subscript a b p) env v = (do
      let ov ← holding [v] (eval a env)
      let iv ← holding [v, ov] (eval b env)
      standAt p
      holding [v, ov, iv] (setItem ov iv v)
      release [v, ov, iv] []) := by
  cases e with
  | Subscript x y p =>
    cases y <;> simp [vSub] at h
    all_goals
      obtain ⟨rfl, rfl⟩ := h
      exact ⟨p, rfl, fun _ _ => rfl⟩
  | _ => simp [vSub] at h
theorem vRs_eq {e : Expr} {x : Str} (h : vRs e = some x) : ∃ p z k p2 q, e = .Call (.Name x p) [.Constant (.str z) k p2] [] q := by
  unfold vRs at h
  split at h
  · simp only [Option.some.injEq] at h; subst h; exact ⟨_, _, _, _, _, rfl⟩
  · cases h
theorem vName2_eq {l : List Expr} {x y : Str} (h : vName2 l = some (x, y)) : ∃ p q, l = [.Name x p, .Name y q] := by
  unfold vName2 at h
  split at h
  · simp only [Option.some.injEq, Prod.mk.injEq] at h; obtain ⟨rfl, rfl⟩ := h; exact ⟨_, _, rfl⟩
  · cases h
theorem vName3_eq {l : List Expr} {x y z : Str} (h : vName3 l = some (x, y, z)) : ∃ p q r, l = [.Name x p, .Name y q, .Name z r] := by
  unfold vName3 at h
  split at h
  · simp only [Option.some.injEq, Prod.mk.injEq] at h; obtain ⟨rfl, rfl, rfl⟩ := h; exact ⟨_, _, _, rfl⟩
  · cases h

theorem asg_read {tg : Tg} {e : IE} {D : Ends} {σ : L2.St} {H : Hp} (h : tS g W (evS E (.asg tg e)) D σ H) : tAsg (tE g W (evE E e)) (tG g tg) D σ H := by
  obtain ⟨fb, m, ρ, S, o, rs, eq, Gd⟩ := h
  simp only [evS] at eq
  refine tS_bnd eq rs Gd fun t S1 v m1 H1 e1 x1 rs1 r1 Gd1 => ?_
  split at e1
  · rename_i ρ' hb
    simp only [Option.some.injEq] at e1
    subst e1
    exact ⟨fb, m1, t, ρ, ρ', S1, rs1, r1, hb, fun σ' rs' _ => Gd1 σ' m1 H1 (Ext.refl _ _) rs'⟩
  · cases e1

/-- a comprehension's list goes to its name -/
theorem ps_swc {i : Nat} {x : Str} {v : Expr} {px p : Pos} {e : IE} (so : SOk G g E W X) (hi : G.N[i]? = some x) (hc : chkE G e v = true) (hs : swC G x px.line v = true) (hnd : noLcD e = true) : PS X (.Assign [.Name x px] v p) (tS g W (evS E (.asg (.nm i) e))) := by
  have xo := so.xo
  cases v <;> try (cases hs; done)
  rename_i elt gs scope pos
  simp only [swC, Bool.and_eq_true, Bool.not_eq_true', isKind, decide_eq_true_eq] at hs
  obtain ⟨⟨h1, h2⟩, h3⟩ := hs
  have key : (∃ bx own elt' tg src cnd, e = .lc bx own elt' tg src cnd) ∨ ∃ bx own elt' tg src cnd, e = .lcB bx own elt' tg src cnd := by
    cases e <;> simp only [chkE] at hc <;> first
      | exact .inl ⟨_, _, _, _, _, _, rfl⟩
      | exact .inr ⟨_, _, _, _, _, _, rfl⟩
      | (exfalso; cases hnd; done)
      | (exfalso; revert hc; simp [lits, vName, vTup, vLst, vBin, vCmp, vChn, vNeg, vNot, vAnd, vOr, vIfE, vIx, vSl, vRev, vCall, vMth, vLam, vAtt, vDisp, vCall0]; done)
      | skip
    rename_i vv
    exfalso
    revert hc
    cases vv <;> simp [lits, vConst, vName]
  rcases key with ⟨bx, own, elt', tg, src, cnd, rfl⟩ | ⟨bx, own, elt', tg, src, cnd, rfl⟩
  · obtain ⟨x', t, it, cs, scope', q, wi, tt, ow, he, ho, k1, k2, k3, k4, k5, k6, k7⟩ := lc_parts xo (sound elt') (sound src) (sound cnd) hc
    cases he
    have hN : X.N.Nodup := by rw [xo.N]; exact xo.nd
    have hi' : X.N[i]? = some x := by rw [xo.N]; exact hi
    have hl : X.env.scope.names.lookup x = some .local := by rw [xo.sc]; exact h1
    refine (ps_setLc (i := i) xo.calm hN hi' hl (sw_true so.kd hl h2 h3) k1 k2 k3 k4 k5 k6).of fun D σ H h => ?_
    obtain ⟨fb, m, ρ, S, o, rs, eq, Gd⟩ := h
    simp only [evS] at eq
    rw [ho]
    refine k7 σ H _ (tS_bnd (f := evE E (.lc bx own elt' tg src cnd)) eq rs Gd fun t S1 v m1 H1 e1 x1 rs1 r1 Gd1 => ?_)
    simp only [bindT, Option.some.injEq] at e1
    subst e1
    exact Gd1 _ m1 H1 (Ext.refl _ _) ⟨rs1.env.set i r1, rs1.sto⟩
  · obtain ⟨x', t, it, cs, scope', q, wi, tt, ow, he, ho, k1, k2, k3, k4, k5, k6, k7⟩ := lcB_parts xo (sound elt') (sound src) (sound cnd) hc
    cases he
    have hN : X.N.Nodup := by rw [xo.N]; exact xo.nd
    have hi' : X.N[i]? = some x := by rw [xo.N]; exact hi
    have hl : X.env.scope.names.lookup x = some .local := by rw [xo.sc]; exact h1
    refine (ps_setLc (i := i) xo.calm hN hi' hl (sw_true so.kd hl h2 h3) k1 k2 k3 k4 k5 k6).of fun D σ H h => ?_
    obtain ⟨fb, m, ρ, S, o, rs, eq, Gd⟩ := h
    simp only [evS] at eq
    rw [ho]
    refine k7 σ H _ (tS_bnd (f := evE E (.lcB bx own elt' tg src cnd)) eq rs Gd fun t S1 v m1 H1 e1 x1 rs1 r1 Gd1 => ?_)
    simp only [bindT, Option.some.injEq] at e1
    subst e1
    exact Gd1 _ m1 H1 (Ext.refl _ _) ⟨rs1.env.set i r1, rs1.sto⟩

theorem vS_try {s : Stmt} {b : List Stmt} {hs : List ExceptHandler} (h : vS s = some (.try_ b hs)) : ∃ p, s = .Try b hs [] [] p := by
  unfold vS at h
  split at h <;> simp only [Option.some.injEq, reduceCtorEq, VS.try_.injEq] at h <;> try (cases h; done)
  obtain ⟨rfl, rfl⟩ := h; exact ⟨_, rfl⟩
theorem vRsX_eq {e y : Expr} {x : Str} (h : vRsX e = some (x, y)) : ∃ p q, e = .Call (.Name x p) [y] [] q := by
  unfold vRsX at h
  split at h
  · simp only [Option.some.injEq, Prod.mk.injEq] at h; obtain ⟨rfl, rfl⟩ := h; exact ⟨_, _, rfl⟩
  · cases h

/-! ### try, except -/
theorem XOk.tr (xo : XOk G g E W X) {W' : WX} {pn : List (Addr × Obj)} {xe : Value → Shared → Prop} (tk : Takes (X.tr pn xe) W') : XOk G g E W' (X.tr pn xe) :=
  ⟨xo.N, xo.nd, xo.sc, xo.K, xo.pr, xo.wd, xo.calm, xo.fn, tk, xo.un, xo.blt, xo.call, xo.callL, xo.callv, fun f x h1 h2 => by
    obtain ⟨a1, a2, a3, a4, a5, a6, a7, a8, a9, a10, a11, a12, a13, a14, a15, a16, a17, a18, a19, a20⟩ := xo.lam f x h1 h2
    exact .mk (X := X.tr pn xe) a1 a2 a3 a4 a5 a6 a7 a8 a9 a10 a11 a12 a13 a14 a15 a16 a17 a18 a19 a20, xo.callvL, xo.errP, xo.errX, xo.isx, xo.cst⟩
theorem SOk.tr (so : SOk G g E W X) {W' : WX} {pn : List (Addr × Obj)} {xe : Value → Shared → Prop} (tk : Takes (X.tr pn xe) W') (po : PassesOwn (model X.prog X.w) X.A X.env xe) : SOk G g E W' (X.tr pn xe) :=
  ⟨so.xo.tr tk, po, so.kd, so.exc, so.st, so.fr, so.xm, so.xmg⟩

theorem fldP_rep {c : Nat} {H : Hp} {p : Option T} {d : Option Addr} {f : Str} {v : Int} (h : fldP f p = some v) (xr : (p = none ∧ d = none) ∨ ∃ f i dd, p = some (.err c f [.int i]) ∧ d = some dd ∧ H dd = some (.xd [(f, V.int i)])) : ∃ dd, d = some dd ∧ H dd = some (.xd [(f, V.int v)]) := by
  rcases xr with ⟨rfl, _⟩ | ⟨f', i, dd, rfl, h2, h3⟩
  · cases h
  · simp only [fldP] at h
    split at h
    · rename_i ef
      subst ef
      cases h
      exact ⟨dd, h2, h3⟩
    · cases h
def tFld (a C : Addr) (cls : Value) (d : Option Addr) (i : Nat) (f : Str) : TE := fun σ H Q => ∃ (v : Int) (dd : Addr), cls = .ref C ∧ d = some dd ∧ H dd = some (.xd [(f, V.int v)]) ∧ σ[i]? = some (some (.ref a)) ∧ Q (.int v) H
def tTxt (a C : Addr) (cls : Value) (d : Option Addr) (s : Str) (i : Nat) (f : Str) : TE := fun σ H Q => ∃ (v : Int) (dd : Addr), cls = .ref C ∧ d = some dd ∧ H dd = some (.xd [(f, V.int v)]) ∧ σ[i]? = some (some (.ref a)) ∧ v.natAbs.log2 < 1920 ∧ s.length + (Str.ofString (toString v)).length ≤ sizeLine ∧ Q (.str (s ++ Str.ofString (toString v))) H
def litV : T → V
  | .bl b => .bl b
  | .int i => .int i
  | .str s => .str s
  | _ => .non
def HK.ts (g : GW) (c : Nat) : HK → Addr → Value → Option Addr → TS
  | .lit t => fun _ _ _ => tRet (tC (litV t))
  | .fld i f => fun a cls d => tRet (tFld a (g.ea c) cls d i f)
  | .txt s i f => fun a cls d => tRet (tTxt a (g.ea c) cls d s i f)
def HK.sl : HK → Option Nat
  | .lit _ => none
  | .fld i _ => some i
  | .txt _ i _ => some i
def hTx (g : GW) (hs : List (Nat × HK)) : List (Value × Option Nat × (Addr → Value → Option Addr → TS)) := hs.map fun h => (.ref (g.ea h.1), h.2.sl, h.2.ts g h.1)
theorem pe_litK {X : Cx} {t : T} {v : Expr} (h : litK t v = true) : PE X v (tC (litV t)) := by
  unfold litK at h
  split at h
  · split at h
    · rename_i q
      obtain ⟨k, p, rfl⟩ := vConst_eq q
      exact pe_non
    · cases h
  · split at h
    · rename_i c q
      obtain ⟨k, p, rfl⟩ := vConst_eq q
      obtain rfl := by simpa using h
      exact pe_bl
    · cases h
  · split at h
    · rename_i c q
      obtain ⟨k, p, rfl⟩ := vConst_eq q
      obtain rfl := by simpa using h
      exact pe_int
    · cases h
  · split at h
    · rename_i c q
      obtain ⟨k, p, rfl⟩ := vConst_eq q
      obtain rfl := by simpa using h
      exact pe_str
    · cases h
  · cases h
theorem isFld_eq {n f : Str} {e : Expr} (h : isFld n f e = true) : ∃ p q, e = .Attribute (.Name n p) f q := by
  unfold isFld at h
  split at h
  · simp only [Bool.and_eq_true, beq_iff_eq] at h
    obtain ⟨rfl, rfl⟩ := h
    exact ⟨_, _, rfl⟩
  · cases h
theorem isTxt_eq {s n f : Str} {e : Expr} (h : isTxt s n f e = true) : ∃ k p1 p2 p3 p4 p5 p6, e = .BinOp (.Constant (.str s) k p1) .Add (.Call (.Name "str" p2) [.Attribute (.Name n p3) f p4] [] p5) p6 := by
  unfold isTxt at h
  split at h
  · simp only [Bool.and_eq_true, beq_iff_eq] at h
    obtain ⟨rfl, rfl, rfl, rfl⟩ := h
    exact ⟨_, _, _, _, _, _, _, rfl⟩
  · cases h
theorem pe_xfn {a : Addr} {oe : Obj} {cls : Value} {d : Option Addr} {pn : List (Addr × Obj)} {C : Addr} {n f : Str} {i : Nat} {p q : Pos} (T : XfC X.K C) (hno : PySem.W.findIn X.K (.ref C) f = some none) (hz : Zc cls d oe) (hf : ∃ vs, oe.data = .fields vs)
    (hi : X.N[i]? = some n) (hl : X.env.scope.names.lookup n = some .local) (hd : dbg n = true) : PE (X.suite a ((a, oe) :: pn)) (.Attribute (.Name n p) f q) (tFld a C cls d i f) := by
  simp only [dbg, Bool.and_eq_true, Bool.not_eq_true'] at hd
  refine (pe_xf T hno hz hf (pe_var (X := X.suite a ((a, oe) :: pn)) (i := i) hi (.inl hl) hd.1 hd.2)).of fun σ H Q h => ?_
  obtain ⟨v, dd, h1, h2, h3, h4, h5⟩ := h
  exact ⟨.ref a, h4, rfl, h1, dd, _, .int v, h2, h3, by simp [List.lookup], h5⟩
theorem hdsA_ok (so : SOk G g E W X) : ∀ {hs : List (Nat × HK)} {es : List ExceptHandler}, chkHs G hs es = true → HdsA X es (hTx g hs)
  | [], [], _ => .nil
  | [], _ :: _, h => by cases h
  | _ :: _, [], h => by cases h
  | h :: hs, e :: es, hc => by
    simp only [chkHs, Bool.and_eq_true] at hc
    obtain ⟨h1, h2⟩ := hc
    have r := hdsA_ok so h2
    unfold chkH at h1
    split at h1
    · rename_i x px as_ v p1 p2
      simp only [Bool.and_eq_true] at h1
      obtain ⟨h1, h3, h4⟩ := h1
      obtain ⟨gl, db⟩ := glb_gl so.xo h3
      have nm : Names X x (.ref (g.ea h.1)) := ⟨gl, db, .inl (so.xmg _ _ (isNm_eq h1))⟩
      obtain ⟨c, hk⟩ := h
      cases hk with
      | lit t =>
        cases as_ with
        | some n => cases h4
        | none => exact .plain nm (fun a oe cls d pn _ _ => pss_one (ps_ret (pe_litK h4))) r
      | fld i f =>
        cases as_ with
        | none => cases h4
        | some n =>
          simp only [Bool.and_eq_true, decide_eq_true_eq, isKind] at h4
          obtain ⟨k1, k2, k3, k4, k5⟩ := h4
          obtain ⟨q1, q2, rfl⟩ := isFld_eq k4
          obtain ⟨⟨_, _, T, hno, _⟩, _⟩ := so.xo.errX c x f (isNm_eq h1) (isNm_eq k5)
          have hi : X.N[i]? = some n := by rw [so.xo.N]; exact k1
          have hl : X.env.scope.names.lookup n = some .local := by rw [so.xo.sc]; exact k2
          exact .named nm hi hl (fun a oe cls d pn hz hf => pss_one (ps_ret (pe_xfn T hno hz hf hi hl k3))) r
      | txt s i f =>
        cases as_ with
        | none => cases h4
        | some n =>
          simp only [Bool.and_eq_true, decide_eq_true_eq, isKind] at h4
          obtain ⟨k1, k2, k3, k4, k5, k6⟩ := h4
          obtain ⟨j, q1, q2, q3, q4, q5, q6, rfl⟩ := isTxt_eq k4
          obtain ⟨⟨_, _, T, hno, _⟩, _⟩ := so.xo.errX c x f (isNm_eq h1) (isNm_eq k6)
          have hi : X.N[i]? = some n := by rw [so.xo.N]; exact k1
          have hl : X.env.scope.names.lookup n = some .local := by rw [so.xo.sc]; exact k2
          obtain ⟨gs, ds, ms, ns⟩ := bltB_gl so.xo k5
          refine .named nm hi hl (fun a oe cls d pn hz hf => pss_one (ps_ret ((pe_op op_add_str pe_str (pe_callTy (X := X.suite a ((a, oe) :: pn)) call_str_int gs ms (by decide +kernel) (pa_cons (pe_xfn T hno hz hf hi hl k3) pa_nil rfl) ns ds)).of fun σ H Q h => ?_))) r
          obtain ⟨v, dd, h1, h2, h3, h4, h5, h6, h7⟩ := h
          refine ⟨v, dd, h1, h2, h3, h4, ?_⟩
          exact ⟨v, rfl, h5, _, _, rfl, rfl, h6, h7⟩
    · cases h1
/-- the clauses that are asked, up to the one that takes the error -/
def XmOk (K : PySem.W.Frag) (g : GW) (c : Nat) : List (Nat × HK) → Prop
  | [] => True
  | h :: r => PySem.W.exmOne K (.ref (g.ea c)) (.ref (g.ea h.1)) = some (decide (c = h.1)) ∧ (c ≠ h.1 → XmOk K g c r)
theorem hnd_ok {g : GW} {K : PySem.W.Frag} {D : Ends} {c : Nat} {p : Option T} {ρ : Rho} {S : Sto} {o : OutS} {W : WX} {cls : Value} {d : Option Addr} {σ : L2.St} {m : List Addr} {H : Hp} : ∀ {hs : List (Nat × HK)},
    XmOk K g c hs → hnd hs c p ρ S = some o → GoodS g W m H D o → RS g m σ H ρ S → XRep g H c p cls d → wMix K W D (hTx g hs) cls d σ H
  | [], _, e, Gd, rs, xr => by
    simp only [hnd, Option.some.injEq] at e
    subst e
    exact Gd cls d σ m H (Ext.refl _ _) rs xr
  | (c', h) :: r, hx, e, Gd, rs, xr => by
    obtain ⟨rfl, xr'⟩ := id xr
    refine ⟨_, hx.1, fun hb a na => ?_, fun hb => ?_⟩
    · have ec : c = c' := of_decide_eq_true hb
      subst ec
      simp only [hnd, if_true] at e
      cases h with
      | lit t =>
        simp only [HK.go] at e
        split at e <;> first | (cases e; done) | skip
        rename_i hl
        simp only [Option.some.injEq] at e
        subst e
        show D.rt (litV t) H
        refine Gd _ m H (Ext.refl _ _) rs.sto ?_
        cases t <;> first | (cases hl; done) | (simp [litV, Rep]; done)
      | fld i f =>
        simp only [HK.go] at e
        split at e
        · rename_i v hv
          split at e
          · rename_i hi
            simp only [Option.some.injEq] at e
            subst e
            obtain ⟨dd, f1, f2⟩ := fldP_rep hv xr'
            exact ⟨v, dd, rfl, f1, f2, List.getElem?_set_self (by rw [rs.env.1]; exact hi), Gd _ m H (Ext.refl _ _) rs.sto Rep.int_⟩
          · cases e
        · cases e
      | txt s i f =>
        simp only [HK.go] at e
        split at e
        · rename_i v hv
          split at e
          · rename_i hi
            simp only [Option.some.injEq] at e
            subst e
            obtain ⟨dd, f1, f2⟩ := fldP_rep hv xr'
            exact ⟨v, dd, rfl, f1, f2, List.getElem?_set_self (by rw [rs.env.1]; exact hi.1), hi.2.1, by rw [← line_eq]; exact hi.2.2, Gd _ m H (Ext.refl _ _) rs.sto Rep.str_⟩
          · cases e
        · cases e
    · have ec : ¬ c = c' := of_decide_eq_false hb
      simp only [hnd, if_neg ec] at e
      exact hnd_ok (hx.2 ec) e Gd rs xr

theorem okH_ok (so : SOk G g E W X) {fb : List Addr} {c : Nat} : ∀ {hs : List (Nat × HK)}, okH G c hs = true → XmOk X.K (g.w fb) c hs
  | [], _ => trivial
  | h :: r, q => by
    simp only [okH, Bool.and_eq_true, Bool.or_eq_true, beq_iff_eq] at q
    exact ⟨so.xm _ _ (by simpa using q.1), fun ne => okH_ok so (q.2.resolve_left ne)⟩

/-! ### list.extend, stores of several -/
def rWExt (g : GW) : V → List V → Hp → VK → Prop := fun x vs H Q => ∃ fb m S S' o t y, vs = [y] ∧ SRep (g.w fb) m H S ∧ Rep (g.w fb) m H o x ∧ Rep (g.w fb) m H t y ∧ wExt S o t = some S' ∧ ∀ m' H', Ext m H m' H' → SRep (g.w fb) m' H' S' → Q .non H'
theorem mt_wext : MtM X "list.extend" (rWExt g) := by
  intro pins s σ H x xs v us Q I rx rs h
  obtain ⟨fb, m, S, S', o, t, y, rfl, sr, ro, rt, e, k⟩ := h
  unfold wExt at e
  split at e
  · rename_i n
    split at e
    · rename_i l hl
      split at e
      · rename_i l2 hd
        split at e
        · rename_i hlen
          simp only [Option.some.injEq] at e
          subst e
          simp only [Rep] at ro
          obtain ⟨a, h1, rfl⟩ := ro
          obtain ⟨vs, q1, rl⟩ := sr.at_ n _ a hl h1
          have rd := RepD.drf sr rt
          rw [hd] at rd
          obtain ⟨b, ws, rfl, q2, r2⟩ := RepD.lst rd
          refine mt_extend pins s σ H _ _ v us Q I rx rs ⟨a, b, vs, ws, rfl, rfl, q1, q2, by rw [← rl.length, ← r2.length, ← line_eq]; exact hlen, ?_⟩
          have hf : ∀ od u, H a ≠ some (.frz od u) := fun od u z => by rw [q1] at z; cases z
          exact k m _ (Ext.write (List.mem_of_getElem? h1) hf) (sr.write h1 hf (rl.append r2))
        · cases e
      · cases e
    · cases e
  · cases e
/-- several targets: names, subscripts -/
theorem chkX_star {env : Env} : ∀ {ts : List TX} {es : List Expr}, chkX G ts es = true → (assignEach es env).length = es.length ∧ (assignEach es env).findIdx? (·.1) = none
  | [], [], _ => ⟨rfl, rfl⟩
  | [], _ :: _, h => by cases h
  | .nm i :: r, [], h => by cases h
  | .sb o i :: r, [], h => by cases h
  | .nm i :: r, e :: es, h => by
    simp only [chkX, Bool.and_eq_true] at h
    obtain ⟨h1, h2⟩ := chkX_star (env := env) h.2
    rw [assignEach_cons (chkT_tgt h.1)]
    refine ⟨by simp [h1], ?_⟩
    rw [List.findIdx?_cons]
    simp [h2]
  | .sb o i :: r, e :: es, h => by
    simp only [chkX, Bool.and_eq_true] at h
    obtain ⟨h1, h2⟩ := chkX_star (env := env) h.2
    have ht : isTgt e = true := by
      have h0 := h.1
      split at h0
      · rename_i x y hv
        obtain ⟨p, rfl, _⟩ := vSub_eq hv
        rfl
      · cases h0
    rw [assignEach_cons ht]
    refine ⟨by simp [h1], ?_⟩
    rw [List.findIdx?_cons]
    simp [h2]
theorem chkX_len : ∀ {ts : List TX} {es : List Expr}, chkX G ts es = true → ts.length = es.length
  | [], [], _ => rfl
  | [], _ :: _, h => by cases h
  | .nm i :: r, [], h => by cases h
  | .sb o i :: r, [], h => by cases h
  | .nm i :: r, e :: es, h => by
    simp only [chkX, Bool.and_eq_true] at h
    simp [chkX_len h.2]
  | .sb o i :: r, e :: es, h => by
    simp only [chkX, Bool.and_eq_true] at h
    simp [chkX_len h.2]
theorem stX_len : ∀ {ts : List TX} {l : List T} {ρ ρ' : Rho} {S S' : Sto}, stX E ts l ρ S = some (ρ', S') → l.length = ts.length
  | [], [], _, _, _, _, _ => rfl
  | [], _ :: _, _, _, _, _, h => by cases h
  | .nm i :: r, [], _, _, _, _, h => by cases h
  | .sb o i :: r, [], _, _, _, _, h => by cases h
  | .nm i :: r, t :: l, _, _, _, _, h => by
    simp only [stX] at h
    simp [stX_len h]
  | .sb o i :: r, t :: l, _, _, _, _, h => by
    simp only [stX] at h
    split at h <;> try (cases h; done)
    split at h <;> try (cases h; done)
    split at h <;> try (cases h; done)
    simp [stX_len h]
def tGX (g : GW) (W : WX) (E : EV) (ts : List TX) : TGs := fun vs σ H Q => ∃ fb m l ρ ρ' S S', RS (g.w fb) m σ H ρ S ∧ RepL (g.w fb) m H l vs ∧ stX E ts l ρ S = some (ρ', S') ∧ ∀ σ' m' H', Ext m H m' H' → RS (g.w fb) m' σ' H' ρ' S' → Q σ' H'
theorem pgs_x (so : SOk G g E W X) : ∀ (ts : List TX) (es : List Expr), chkX G ts es = true → PGs X es (tGX g W E ts)
  | [], [], _ => pgs_nil.of fun vs σ H Q ⟨fb, m, l, ρ, ρ', S, S', rs, r, e, k⟩ => by
    cases l with
    | nil =>
      simp only [stX, Option.some.injEq, Prod.mk.injEq] at e
      obtain ⟨rfl, rfl⟩ := e
      simp only [RepL] at r
      exact ⟨r, k σ m H (Ext.refl _ _) rs⟩
    | cons t l => cases e
  | [], _ :: _, h => by cases h
  | .nm i :: r, [], h => by cases h
  | .sb o i :: r, [], h => by cases h
  | .nm i :: r, e :: es, h => by
    simp only [chkX, Bool.and_eq_true] at h
    have xo := so.xo
    refine (pgs_cons ((pg_sound xo.N xo.nd xo.sc xo.calm xo.K xo.fn (.nm i)).1 e h.1) (pgs_x so r es h.2) (by rw [assignEach_cons (chkT_tgt h.1)]; rfl)).of fun vs σ H Q ⟨fb, m, l, ρ, ρ', S, S', rs, rl, eq, k⟩ => ?_
    cases l with
    | nil => cases eq
    | cons t l =>
      simp only [RepL] at rl
      obtain ⟨v, vr, rfl, r1, r2⟩ := rl
      exact ⟨v, vr, rfl, fb, m, t, ρ, _, S, rs, r1, rfl, fun σ' rs' _ => ⟨fb, m, l, _, ρ', S, S', rs', r2, eq, k⟩⟩
  | .sb o i :: r, e :: es, h => by
    simp only [chkX, Bool.and_eq_true] at h
    obtain ⟨h1, h2⟩ := h
    split at h1
    rotate_left
    · cases h1
    rename_i x y hv
    obtain ⟨p2, rfl, has⟩ := vSub_eq hv
    simp only [Bool.and_eq_true] at h1
    have xo := so.xo
    refine (pgs_cons (pg_sub ((sound (g := g) (E := E) o).e G W X xo x h1.1).1 ((sound (g := g) (E := E) i).e G W X xo y h1.2).1 (set_wsub (g := g) xo.K xo.pr xo.wd xo.un) (has X.env)) (pgs_x so r es h2) (by rw [assignEach_cons rfl]; rfl)).of fun vs σ H Q ⟨fb, m, l, ρ, ρ', S, S', rs, rl, eq, k⟩ => ?_
    cases l with
    | nil => cases eq
    | cons t l =>
      simp only [RepL] at rl
      obtain ⟨v, vr, rfl, r1, r2⟩ := rl
      refine ⟨v, vr, rfl, ?_⟩
      simp only [stX] at eq
      split at eq <;> try (cases eq; done)
      rename_i a S1 ea
      split at eq <;> try (cases eq; done)
      rename_i b S2 eb
      split at eq <;> try (cases eq; done)
      rename_i S3 ew
      refine ⟨fb, m, ρ, S, _, rs, ea, fun va m1 H1 x1 sr1 ra => ?_⟩
      have rs1 : RS (g.w fb) m1 σ H1 ρ S1 := ⟨rs.env.mono x1, sr1⟩
      refine ⟨fb, m1, ρ, S1, _, rs1, eb, fun vb m2 H2 x2 sr2 rb => ?_⟩
      have x12 := x1.trans x2
      refine ⟨fb, m2, S2, S3, a, b, t, sr2, Rep.mono x2 _ ra, rb, Rep.mono x12 _ r1, ew, fun m3 H3 x3 sr3 => ?_⟩
      have x13 := x12.trans x3
      exact ⟨fb, m3, l, ρ, ρ', S3, S', ⟨rs.env.mono x13, sr3⟩, RepL.mono x13 _ r2, eq, fun σ' m' H' x' rs' => k σ' m' H' (x13.trans x') rs'⟩

structure SndS (g : GW) (E : EV) (st : IS) : Prop where
  s : ∀ (G : Gm) (W : WX) (X : Cx), SOk G g E W X → ∀ s, chkS G st s = true → PS X s (tS g W (evS E st))
  b : ∀ (G : Gm) (W : WX) (X : Cx), SOk G g E W X → ∀ l, chkB G st l = true → PSs X l (tS g W (evS E st))
theorem snd_s {st : IS} (h : ∀ (G : Gm) (W : WX) (X : Cx), SOk G g E W X → ∀ s, chkS G st s = true → PS X s (tS g W (evS E st))) (hb : ∀ G l, chkB G st l = false) : SndS g E st :=
  ⟨h, fun G W X _ l q => (by rw [hb] at q; cases q)⟩

theorem soundS : ∀ st : IS, SndS g E st := by
  intro st
  induction st with
  | skip =>
    refine ⟨fun G W X so s h => (by simp [chkS] at h), fun G W X so l h => ?_⟩
    simp only [chkB, List.isEmpty_iff] at h
    subst h
    refine pss_nil.of fun D σ H ⟨fb, m, ρ, S, o, rs, e, Gd⟩ => ?_
    simp only [evS, Option.some.injEq] at e
    subst e
    exact Gd σ m H (Ext.refl _ _) rs
  | seq a b iha ihb =>
    refine ⟨fun G W X so s h => (by simp [chkS] at h), fun G W X so l h => ?_⟩
    simp only [chkB] at h
    split at h
    · rename_i s r
      simp only [Bool.and_eq_true] at h
      refine (pss_cons (iha.s G W X so s h.1) (ihb.b G W X so r h.2)).of fun D σ H ⟨fb, m, ρ, S, o, rs, e, Gd⟩ => ?_
      simp only [evS] at e
      cases ea : evS E a ρ S with
      | none => rw [ea] at e; cases e
      | some q =>
        rw [ea] at e
        refine ⟨fb, m, ρ, S, q, rs, ea, ?_⟩
        cases q with
        | nx ρ' S' => exact fun σ' m' H' x rs' => ⟨fb, m', ρ', S', o, rs', e, Gd.ext x⟩
        | _ =>
          have := (Option.some.inj e).symm
          subst this
          exact Gd
    · cases h
  | pass =>
    refine snd_s (fun G W X so s h => ?_) fun _ _ => by simp [chkB]
    simp only [chkS] at h
    split at h
    · rename_i hv
      obtain ⟨p, rfl⟩ := vS_pass hv
      refine ps_pass.of fun D σ H ⟨fb, m, ρ, S, o, rs, e, Gd⟩ => ?_
      simp only [evS, Option.some.injEq] at e
      subst e
      exact Gd σ m H (Ext.refl _ _) rs
    · cases h
  | brk =>
    refine snd_s (fun G W X so s h => ?_) fun _ _ => by simp [chkB]
    simp only [chkS] at h
    split at h
    · rename_i hv
      obtain ⟨p, rfl⟩ := vS_brk hv
      refine ps_break.of fun D σ H ⟨fb, m, ρ, S, o, rs, e, Gd⟩ => ?_
      simp only [evS, Option.some.injEq] at e
      subst e
      exact Gd σ m H (Ext.refl _ _) rs
    · cases h
  | cnt =>
    refine snd_s (fun G W X so s h => ?_) fun _ _ => by simp [chkB]
    simp only [chkS] at h
    split at h
    · rename_i hv
      obtain ⟨p, rfl⟩ := vS_cnt hv
      refine ps_continue.of fun D σ H ⟨fb, m, ρ, S, o, rs, e, Gd⟩ => ?_
      simp only [evS, Option.some.injEq] at e
      subst e
      exact Gd σ m H (Ext.refl _ _) rs
    · cases h
  | ret e =>
    refine snd_s (fun G W X so s h => ?_) fun _ _ => by simp [chkB]
    simp only [chkS] at h
    split at h
    · rename_i x hv
      obtain ⟨p, rfl⟩ := vS_ret hv
      refine (ps_ret ((sound e).e G W X so.xo x h).1).of fun D σ H ⟨fb, m, ρ, S, o, rs, eq, Gd⟩ => ?_
      simp only [evS] at eq
      refine tS_bnd eq rs Gd fun t S1 v m1 H1 e1 x1 rs1 r1 Gd1 => ?_
      simp only [Option.some.injEq] at e1
      subst e1
      exact Gd1 v m1 H1 (Ext.refl _ _) rs1.sto r1
    · rename_i hv
      obtain ⟨p, rfl⟩ := vS_ret hv
      split at h
      · refine ps_retN.of fun D σ H ⟨fb, m, ρ, S, o, rs, eq, Gd⟩ => ?_
        simp only [evS, evE, bndS, Option.some.injEq] at eq
        subst eq
        exact Gd .non m H (Ext.refl _ _) rs.sto Rep.non_
      · cases h
    · cases h
  | expr e =>
    refine snd_s (fun G W X so s h => ?_) fun _ _ => by simp [chkB]
    simp only [chkS] at h
    split at h
    · rename_i x hv
      obtain ⟨p, rfl⟩ := vS_expr hv
      simp only [Bool.and_eq_true] at h
      refine (ps_expr ((sound e).e G W X so.xo x h.1).1 (nocomp_sw h.2)).of fun D σ H ⟨fb, m, ρ, S, o, rs, eq, Gd⟩ => ?_
      simp only [evS] at eq
      refine tS_bnd eq rs Gd fun t S1 v m1 H1 e1 x1 rs1 r1 Gd1 => ?_
      simp only [Option.some.injEq] at e1
      subst e1
      exact Gd1 σ m1 H1 (Ext.refl _ _) rs1
    · cases h
  | asg tg e =>
    refine snd_s (fun G W X so s h => ?_) fun _ _ => by simp [chkB]
    simp only [chkS] at h
    split at h
    · rename_i t v l hv
      obtain ⟨p, rfl, rfl⟩ := vS_asg hv
      simp only [Bool.and_eq_true] at h
      obtain ⟨h1, h2, h3⟩ := h
      have xo := so.xo
      have pe := ((sound (g := g) (E := E) e).e G W X xo v h2).1
      have pg := (pg_sound xo.N xo.nd xo.sc xo.calm xo.K xo.fn tg).1 t h1
      split at h3
      · rename_i x hn
        obtain ⟨px, rfl⟩ := vName_eq hn
        rcases Bool.or_eq_true_iff.mp h3 with h3 | h3
        · have hs : swapsWithSole [.Name x px] v p.line X.env = pure false := by
            rcases Bool.or_eq_true_iff.mp h3 with h3 | h3
            · exact nocomp_sole h3
            · exact swf_sole xo.sc h3
          refine (ps_asg pe pg hs (by cases v <;> rfl) rfl).of fun D σ H z => asg_read z
        · simp only [Bool.and_eq_true] at h3
          cases tg with
          | nm i =>
            simp only [chkT, vName, Bool.and_eq_true, decide_eq_true_eq] at h1
            exact ps_swc so h1.1 h2 h3.1 h3.2
          | tp a => simp [chkT, vTup] at h1
          | nl => simp [chkT] at h1
          | cn a b => simp [chkT] at h1
      · split at h3
        · rename_i ts ht
          obtain ⟨k, p2, rfl⟩ := vTup_eq ht
          simp only [Bool.and_eq_true] at h3
          exact (ps_asg pe pg (nocomp_sole h3.1) (asOne_ok xo.sc so.kd h3.2) rfl).of fun D σ H z => asg_read z
        · cases h3
    · cases h
  | par2 i j es =>
    refine snd_s (fun G W X so s h => ?_) fun _ _ => by simp [chkB]
    simp only [chkS] at h
    split at h
    · rename_i t v l hv
      obtain ⟨p, rfl, rfl⟩ := vS_asg hv
      split at h
      · rename_i ts ht
        obtain ⟨k1, p1, rfl⟩ := vTup_eq ht
        split at h
        · rename_i vs hvs
          obtain ⟨k2, p2, rfl⟩ := vTup_eq hvs
          split at h
          · rename_i x y hxy
            obtain ⟨q1, q2, rfl⟩ := vName2_eq hxy
            simp only [Bool.and_eq_true, decide_eq_true_eq, isKind] at h
            obtain ⟨h1, h2, h3, h4, h5, h6, h7, h8⟩ := h
            have xo := so.xo
            obtain ⟨a, b, rfl⟩ : ∃ a b, vs = [a, b] := by
              match vs, h8 with
              | [a, b], _ => exact ⟨a, b, rfl⟩
            have pa := (sound (g := g) (E := E) es).a G W X xo _ h7
            refine (ps_par (i := i) (j := j) xo.calm (by rw [xo.N]; exact xo.nd) (by rw [xo.N]; exact h1) (by rw [xo.N]; exact h2) h3 (by rw [xo.sc]; exact h4) (by rw [xo.sc]; exact h5) pa (swN_ok so.kd (by rw [xo.sc]; exact h6)) rfl).of fun D σ H ⟨fb, m, ρ, S, o, rs, eq, Gd⟩ => ?_
            simp only [evS] at eq
            refine tS_args eq rs Gd fun t S1 e1 => ?_
            split at e1
            · rename_i t1 t2
              simp only [Option.some.injEq] at e1
              subst e1
              refine ⟨_, rfl, fun us m1 H1 x1 rs1 rp Gd1 => ?_⟩
              obtain ⟨u1, u2, rfl, r1, r2⟩ := rp.two
              exact ⟨u1, u2, rfl, Gd1 _ m1 H1 (Ext.refl _ _) ⟨(rs1.env.set i r1).set j r2, rs1.sto⟩⟩
            · cases e1
          · cases h
        · cases h
      · cases h
    · cases h
  | par3 i j kk es =>
    refine snd_s (fun G W X so s h => ?_) fun _ _ => by simp [chkB]
    simp only [chkS] at h
    split at h
    · rename_i t v l hv
      obtain ⟨p, rfl, rfl⟩ := vS_asg hv
      split at h
      · rename_i ts ht
        obtain ⟨k1, p1, rfl⟩ := vTup_eq ht
        split at h
        · rename_i vs hvs
          obtain ⟨k2, p2, rfl⟩ := vTup_eq hvs
          split at h
          · rename_i x y z hxy
            obtain ⟨q1, q2, q3, rfl⟩ := vName3_eq hxy
            simp only [Bool.and_eq_true, decide_eq_true_eq, isKind] at h
            obtain ⟨h1, h2, h2', h3, h3', h3'', h4, h5, h5', h6, h7, h8⟩ := h
            have xo := so.xo
            obtain ⟨a, b, c, rfl⟩ : ∃ a b c, vs = [a, b, c] := by
              match vs, h8 with
              | [a, b, c], _ => exact ⟨a, b, c, rfl⟩
            have pa := (sound (g := g) (E := E) es).a G W X xo _ h7
            refine (ps_par3 (i := i) (j := j) (l := kk) xo.calm (by rw [xo.N]; exact xo.nd) (by rw [xo.N]; exact h1) (by rw [xo.N]; exact h2) (by rw [xo.N]; exact h2') h3 h3' h3'' (by rw [xo.sc]; exact h4) (by rw [xo.sc]; exact h5) (by rw [xo.sc]; exact h5') pa (swN_ok so.kd (by rw [xo.sc]; exact h6)) rfl).of fun D σ H ⟨fb, m, ρ, S, o, rs, eq, Gd⟩ => ?_
            simp only [evS] at eq
            refine tS_args eq rs Gd fun t S1 e1 => ?_
            split at e1
            · rename_i t1 t2 t3
              simp only [Option.some.injEq] at e1
              subst e1
              refine ⟨_, rfl, fun us m1 H1 x1 rs1 rp Gd1 => ?_⟩
              simp only [RepL] at rp
              obtain ⟨u1, _, rfl, r1, u2, _, rfl, r2, u3, _, rfl, r3, rfl⟩ := rp
              exact ⟨u1, u2, u3, rfl, Gd1 _ m1 H1 (Ext.refl _ _) ⟨((rs1.env.set i r1).set j r2).set kk r3, rs1.sto⟩⟩
            · cases e1
          · cases h
        · cases h
      · cases h
    · cases h
  | sub o i e =>
    refine snd_s (fun G W X so s h => ?_) fun _ _ => by simp [chkB]
    simp only [chkS] at h
    split at h
    · rename_i t v l hv
      obtain ⟨p, rfl, rfl⟩ := vS_asg hv
      split at h
      · rename_i x y ht
        obtain ⟨p2, rfl, has⟩ := vSub_eq ht
        simp only [Bool.and_eq_true] at h
        obtain ⟨h1, h2, h3⟩ := h
        have xo := so.xo
        have hs : swapsWithSole [.Subscript x y p2] v p.line X.env = pure false := by
          show swapsWith v (some (.Subscript x y p2)) p.line X.env = pure false
          cases v <;> rfl
        have hw : swappedStores [.Subscript x y p2] v X.env = pure none := by cases v <;> rfl
        refine (ps_asg ((sound (g := g) (E := E) e).e G W X xo v h3).1 (pg_sub ((sound (g := g) (E := E) o).e G W X xo x h1).1 ((sound (g := g) (E := E) i).e G W X xo y h2).1 (set_wsub (g := g) xo.K xo.pr xo.wd xo.un) (has X.env)) hs hw rfl).of fun D σ H ⟨fb, m, ρ, S, o', rs, eq, Gd⟩ => ?_
        simp only [evS] at eq
        refine tS_bnd eq rs Gd fun t S1 v1 m1 H1 e1 x1 rs1 r1 Gd1 => ?_
        refine tS_bnd e1 rs1 Gd1 fun t2 S2 v2 m2 H2 e2 x2 rs2 r2 Gd2 => ?_
        refine tS_bnd e2 rs2 Gd2 fun t3 S3 v3 m3 H3 e3 x3 rs3 r3 Gd3 => ?_
        split at e3
        · rename_i S4 hS
          simp only [Option.some.injEq] at e3
          subst e3
          exact ⟨fb, m3, S3, S4, t2, t3, t, rs3.sto, Rep.mono x3 _ r2, r3, Rep.mono x3 _ (Rep.mono x2 _ r1), hS, fun m' H' x' sr' => Gd3 σ m' H' x' ⟨rs3.env.mono x', sr'⟩⟩
        · cases e3
      · cases h
    · cases h
  | app o e =>
    refine snd_s (fun G W X so s h => ?_) fun _ _ => by simp [chkB]
    simp only [chkS] at h
    split at h
    · rename_i x hv
      obtain ⟨p, rfl⟩ := vS_expr hv
      split at h
      · rename_i ob n y hm
        obtain ⟨ap, pos, rfl, hl⟩ := vMth_eq hm
        simp only [Bool.and_eq_true, beq_iff_eq] at h
        obtain ⟨rfl, h2, h3, h4, h5⟩ := h
        have xo := so.xo
        have po := ((sound (g := g) (E := E) o).e G W X xo ob h4).1
        have pe := ((sound (g := g) (E := E) e).e G W X xo y h5).1
        have pm := pe_bm (apos := ap) (cpos := pos) PySem.F.plainAttrs_list PySem.F.slot_list_append PySem.F.type_list_append (mt_wapp (X := X) (g := g)) po (pa_cons pe pa_nil (starEach_cons h3)) (nosup h2) (by rw [star1 h3]; rfl) hl (starEach_cons h3) rfl
        refine (ps_expr pm rfl).of fun D σ H ⟨fb, m, ρ, S, o', rs, eq, Gd⟩ => ?_
        simp only [evS] at eq
        refine tS_bnd eq rs Gd fun t1 S1 v1 m1 H1 e1 x1 rs1 r1 Gd1 => ?_
        split at e1
        · rename_i hb
          have ty : tyV X.K "list" v1 H1 := by
            unfold isLst at hb
            split at hb
            · rename_i nn
              split at hb
              · rename_i l hl
                have r1' := r1
                simp only [Rep] at r1'
                obtain ⟨a, k1, rfl⟩ := r1'
                obtain ⟨vs, q1, _⟩ := rs1.sto.at_ nn _ a hl k1
                exact .inl ⟨rfl, vs, SqL.of q1⟩
              · cases hb
            · cases hb
          refine ⟨ty, tS_bnd e1 rs1 Gd1 fun t2 S2 v2 m2 H2 e2 x2 rs2 r2 Gd2 => ?_⟩
          split at e2
          · rename_i S3 hS
            simp only [Option.some.injEq] at e2
            subst e2
            exact ⟨fb, m2, S2, S3, t1, t2, v2, rfl, rs2.sto, Rep.mono x2 _ r1, r2, hS, fun m' H' x' sr' => Gd2 σ m' H' x' ⟨rs2.env.mono x', sr'⟩⟩
          · cases e2
        · cases e1
      · cases h
    · cases h
  | ext o e =>
    refine snd_s (fun G W X so s h => ?_) fun _ _ => by simp [chkB]
    simp only [chkS] at h
    split at h
    · rename_i x hv
      obtain ⟨p, rfl⟩ := vS_expr hv
      split at h
      · rename_i ob n y hm
        obtain ⟨ap, pos, rfl, hl⟩ := vMth_eq hm
        simp only [Bool.and_eq_true, beq_iff_eq] at h
        obtain ⟨rfl, h2, h3, h4, h5⟩ := h
        have xo := so.xo
        have po := ((sound (g := g) (E := E) o).e G W X xo ob h4).1
        have pe := ((sound (g := g) (E := E) e).e G W X xo y h5).1
        have pm := pe_bm (apos := ap) (cpos := pos) PySem.F.plainAttrs_list PySem.F.slot_list_extend PySem.F.type_list_extend (mt_wext (X := X) (g := g)) po (pa_cons pe pa_nil (starEach_cons h3)) (nosup h2) (by rw [star1 h3]; rfl) hl (starEach_cons h3) rfl
        refine (ps_expr pm rfl).of fun D σ H ⟨fb, m, ρ, S, o', rs, eq, Gd⟩ => ?_
        simp only [evS] at eq
        refine tS_bnd eq rs Gd fun t1 S1 v1 m1 H1 e1 x1 rs1 r1 Gd1 => ?_
        split at e1
        · rename_i hb
          have ty : tyV X.K "list" v1 H1 := by
            unfold isLst at hb
            split at hb
            · rename_i nn
              split at hb
              · rename_i l hl
                have r1' := r1
                simp only [Rep] at r1'
                obtain ⟨a, k1, rfl⟩ := r1'
                obtain ⟨vs, q1, _⟩ := rs1.sto.at_ nn _ a hl k1
                exact .inl ⟨rfl, vs, SqL.of q1⟩
              · cases hb
            · cases hb
          refine ⟨ty, tS_bnd e1 rs1 Gd1 fun t2 S2 v2 m2 H2 e2 x2 rs2 r2 Gd2 => ?_⟩
          split at e2
          · rename_i S3 hS
            simp only [Option.some.injEq] at e2
            subst e2
            exact ⟨fb, m2, S2, S3, t1, t2, v2, rfl, rs2.sto, Rep.mono x2 _ r1, r2, hS, fun m' H' x' sr' => Gd2 σ m' H' x' ⟨rs2.env.mono x', sr'⟩⟩
          · cases e2
        · cases e1
      · cases h
    · cases h
  | forD dv tg e b ihb =>
    refine snd_s (fun G W X so s h => ?_) fun _ _ => by simp [chkB]
    simp only [chkS] at h
    split at h
    · rename_i t it p hv
      obtain ⟨ps, rfl⟩ := vS_for hv
      simp only [Bool.and_eq_true] at h
      obtain ⟨h1, h2⟩ := h
      split at h2
      · rename_i od hdv
        simp only [Bool.and_eq_true] at h2
        obtain ⟨h2, h3, h4⟩ := h2
        have xo := so.xo
        exact (ps_unl (ps_for so.po xo.calm (pi_dv (g := g) hdv (pe_lk ((sound (g := g) (E := E) e).e G W X xo od h2).1)) ((pg_sound xo.N xo.nd xo.sc xo.calm xo.K xo.fn tg).1 t h1) (ihb.b G W X so p h4) (noset_fold h3))).of fun D σ H z => forD_read z
      · cases h2
    · cases h
  | asgX ts es =>
    refine snd_s (fun G W X so s h => ?_) fun _ _ => by simp [chkB]
    simp only [chkS] at h
    split at h
    · rename_i t v l hv
      obtain ⟨p, rfl, rfl⟩ := vS_asg hv
      split at h
      · rename_i us ht
        obtain ⟨k1, p1, rfl⟩ := vTup_eq ht
        split at h
        · rename_i vs hvs
          obtain ⟨k2, p2, rfl⟩ := vTup_eq hvs
          simp only [Bool.and_eq_true] at h
          obtain ⟨h1, h2, h3⟩ := h
          have xo := so.xo
          have pe := pe_tu (k := k2) (p := p2) ((sound (g := g) (E := E) es).a G W X xo vs h3)
          obtain ⟨z1, z2⟩ := chkX_star h1
          have pg := pg_tup (pos := p1) (k := k1) (n := us.length) xo.calm (pgs_x so ts us h1) z1 z2
          refine (ps_asg pe pg (nocomp_sole rfl) (asOne_ok xo.sc so.kd h2) rfl).of fun D σ H ⟨fb, m, ρ, S, o, rs, eq, Gd⟩ => ?_
          simp only [evS] at eq
          refine tS_bnd eq rs Gd fun t S1 v1 m1 H1 e1 x1 rs1 r1 Gd1 => ?_
          split at e1
          · rename_i l
            split at e1
            · rename_i ρ' S' hst
              simp only [Option.some.injEq] at e1
              subst e1
              obtain ⟨a, ws, rfl, q1, q2, q3⟩ := rep_tup r1
              have q2 : SqT g.K H1 a ws := q2
              rw [← xo.K] at q2
              exact ⟨a, ws, rfl, q2, by rw [← q3.length, stX_len hst, chkX_len h1], fb, m1, l, ρ, ρ', S1, S', rs1, q3, hst, fun σ' m' H' x' rs' => Gd1 σ' m' H' x' rs'⟩
            · cases e1
          · cases e1
        · cases h
      · cases h
    · cases h
  | iff c a b iha ihb =>
    refine snd_s (fun G W X so s h => ?_) fun _ _ => by simp [chkB]
    simp only [chkS] at h
    split at h
    · rename_i x p q hv
      obtain ⟨ps, rfl⟩ := vS_iff hv
      simp only [Bool.and_eq_true] at h
      obtain ⟨h1, h2, h3, h4⟩ := h
      refine (ps_if (((sound (g := g) (E := E) c).e G W X so.xo x h1).2 h2) (iha.b G W X so p h3) (ihb.b G W X so q h4)).of fun D σ H ⟨fb, m, ρ, S, o, rs, eq, Gd⟩ => ?_
      simp only [evS] at eq
      refine tS_tst eq rs Gd fun t S1 e1 => ?_
      split at e1
      · rename_i hb
        exact ⟨true, hb, fun m1 H1 x1 rs1 Gd1 => iteT ⟨fb, m1, ρ, S1, o, rs1, e1, Gd1⟩⟩
      · rename_i hb
        exact ⟨false, hb, fun m1 H1 x1 rs1 Gd1 => iteF ⟨fb, m1, ρ, S1, o, rs1, e1, Gd1⟩⟩
      · cases e1
    · cases h
  | for_ tg src b ihb =>
    refine snd_s (fun G W X so s h => ?_) fun _ _ => by simp [chkB]
    simp only [chkS] at h
    split at h
    · rename_i t it p hv
      obtain ⟨ps, rfl⟩ := vS_for hv
      simp only [Bool.and_eq_true] at h
      obtain ⟨h1, h2, h3, h4, h5⟩ := h
      have xo := so.xo
      exact (ps_for so.po xo.calm ((sound (g := g) (E := E) src).i G W X xo t it h2 h3) ((pg_sound xo.N xo.nd xo.sc xo.calm xo.K xo.fn tg).1 t h1) (ihb.b G W X so p h5) (noset_fold h4)).of fun D σ H z => for_read z
    · cases h
  | forB tg e b ihb =>
    refine snd_s (fun G W X so s h => ?_) fun _ _ => by simp [chkB]
    simp only [chkS] at h
    split at h
    · rename_i t it p hv
      obtain ⟨ps, rfl⟩ := vS_for hv
      simp only [Bool.and_eq_true] at h
      obtain ⟨h1, h2, h3, h4⟩ := h
      have xo := so.xo
      exact (ps_for so.po xo.calm (pi_list ((sound (g := g) (E := E) e).e G W X xo it h2).1) ((pg_sound xo.N xo.nd xo.sc xo.calm xo.K xo.fn tg).1 t h1) (ihb.b G W X so p h4) (noset_fold h3)).of fun D σ H z => forB_read z
    · cases h
  | whl c b ihb =>
    refine snd_s (fun G W X so s h => ?_) fun _ _ => by simp [chkB]
    simp only [chkS] at h
    split at h
    · rename_i x p hv
      obtain ⟨ps, rfl⟩ := vS_whl hv
      simp only [Bool.and_eq_true] at h
      obtain ⟨h1, h2, h3⟩ := h
      exact (ps_while so.po (((sound (g := g) (E := E) c).e G W X so.xo x h1).2 h2) (ihb.b G W X so p h3)).of fun D σ H z => whl_read z
    · cases h
  | rs c =>
    refine snd_s (fun G W X so s h => ?_) fun _ _ => by simp [chkB]
    simp only [chkS] at h
    split at h
    · rename_i e hv
      obtain ⟨ps, rfl⟩ := vS_rs hv
      split at h
      · rename_i x hx
        obtain ⟨p, z, k, p2, q, rfl⟩ := vRs_eq hx
        simp only [Bool.and_eq_true] at h
        obtain ⟨gl, db⟩ := glb_gl so.xo h.2.1
        obtain ⟨B, n1, n2, bm, F, h1, h2, h3, h4⟩ := so.exc c x (isNm_eq h.1) (Option.isNone_iff_eq_none.mp h.2.2)
        refine (ps_raise so.xo.calm so.xo.tk (pmk_own F h1 h2 h3 h4 gl db)).of fun D σ H ⟨fb, m, ρ, S, o, rs, eq, Gd⟩ => ?_
        simp only [evS, Option.some.injEq] at eq
        subst eq
        exact Gd _ _ σ m H (Ext.refl _ _) rs ⟨rfl, .inl ⟨rfl, rfl⟩⟩
      · cases h
    · cases h
  | rsX c f a =>
    refine snd_s (fun G W X so s h => ?_) fun _ _ => by simp [chkB]
    simp only [chkS] at h
    split at h
    · rename_i e hv
      obtain ⟨ps, rfl⟩ := vS_rs hv
      split at h
      · rename_i x y hx
        obtain ⟨p, q, rfl⟩ := vRsX_eq hx
        simp only [Bool.and_eq_true] at h
        obtain ⟨h1, h2, h3, h4, h5⟩ := h
        obtain ⟨gl, db⟩ := glb_gl so.xo h2
        obtain ⟨⟨T, hm, _, _, fI, fd, ps', iC, tI, hps, hb, F⟩, hroom⟩ := so.xo.errX c x f (isNm_eq h1) (isNm_eq h3)
        have pa := pa_cons ((sound (g := g) (E := E) a).e G W X so.xo y h5).1 pa_nil (starEach_cons h4)
        by_cases hdp : 2 ≤ E.dp
        · refine (ps_raise so.xo.calm so.xo.tk (pmk_oex (dvs := []) (ds := []) T iC tI (F 0) (hroom hdp) hb .nil (fun pins σ H s e s' I c => takes_no' e s' (XE.of_call I (fun _ _ _ h => h) c)) gl hm pa db (starEach_cons h4) rfl)).of fun D σ H ⟨fb, m, ρ, S, o, rs, eq, Gd⟩ => ?_
          simp only [evS, if_pos hdp] at eq
          refine tS_bnd eq rs Gd fun t S1 v m1 H1 e1 x1 rs1 r1 Gd1 => ?_
          split at e1
          · rename_i i
            simp only [Option.some.injEq] at e1
            subst e1
            cases RepD.int (RepD.of r1)
            refine ⟨by simp, fun b hb' => ⟨b, .int i, rfl, upd_same, fun dx hdx hne => ⟨rfl, dx, [(f, .int i)], upd_same, ?_, ?_, ?_⟩⟩⟩
            · rw [upd_ne hne, upd_same]
            · rw [upd_ne hne] at hdx; exact hdx
            · rw [upd_ne hne] at hdx
              have eH : upd (del (upd (upd (upd H1 b (exo b (g.ea c) none)) dx (exd dx [(f, .int i)])) b (exo b (g.ea c) (some dx))) b) dx (.xd [(f, .int i)]) = upd H1 dx (.xd [(f, .int i)]) := by
                funext z
                by_cases z1 : z = dx
                · rw [z1, upd_same, upd_same]
                · rw [upd_ne z1, upd_ne z1]
                  by_cases z2 : z = b
                  · rw [z2, del_same, hb']
                  · rw [del_ne z2, upd_ne z2, upd_ne z1, upd_ne z2]
              rw [eH]
              exact Gd1 _ _ σ m1 _ (Ext.new hdx) ⟨rs1.env.mono (Ext.new hdx), rs1.sto.new hdx⟩ ⟨rfl, .inr ⟨f, i, dx, rfl, rfl, upd_same⟩⟩
          · cases e1
        · refine ⟨fun pins s σ H D I ⟨fb, m, ρ, S, o, rs, eq, Gd⟩ => ?_⟩
          simp only [evS, if_neg hdp] at eq
          cases eq
      · cases h
    · cases h
  | tryS b cs hs ihb =>
    refine snd_s (fun G W X so s h => ?_) fun _ _ => by simp [chkB]
    simp only [chkS] at h
    split at h
    · rename_i p e es hv
      obtain ⟨ps, rfl⟩ := vS_try hv
      simp only [Bool.and_eq_true] at h
      obtain ⟨h1, h2, h3⟩ := h
      refine (ps_try_mix so.st so.fr (by rw [so.xo.N]; exact so.xo.nd) so.xo.tk (fun W' pn xe tk po => ihb.b G W' (X.tr pn xe) (so.tr tk po) p h1) (hdsA_ok so h2)).of fun D σ H ⟨fb, m, ρ, S, o, rs, eq, Gd⟩ => ?_
      simp only [evS] at eq
      cases eb : evS E b ρ S with
      | none => rw [eb] at eq; cases eq
      | some r =>
        rw [eb] at eq
        refine ⟨fb, m, ρ, S, r, rs, eb, ?_⟩
        cases r with
        | ex c p' ρ' S' =>
          simp only at eq
          split at eq
          · rename_i hcs
            intro cls d σ' m' H' x' rs' xr
            exact hnd_ok (g := g.w fb) (ρ := ρ') (okH_ok so (List.all_eq_true.mp h3 c (by simpa using hcs))) eq (Gd.ext x') rs' xr
          · cases eq
        | _ =>
          have := (Option.some.inj eq).symm
          subst this
          exact Gd
    · cases h
end
end Fw

namespace Fw
open PySem L2 PyProof.Rows

/-! ### the def that calls a lambda and tells how it ended -/
def chkHds (en : Nat → Option Str) (sc : Scope) : List ExceptHandler → List (Nat × Str) → Bool
  | [], [] => true
  | h :: hs, p :: r => (match h with
    | .ExceptHandler (some (.Name x _)) none [.Return (some (.Constant (.str s) _ _)) _] _ => isNm (en p.1) x && (isKind sc x .globalImplicit && (dbg x && (s == p.2 && chkHds en sc hs r)))
    | _ => false)
  | _, _ => false
def chkLi (en : Nat → Option Str) (sc : Scope) (a : Str) (hds : List (Nat × Str)) (r : Str) : List Stmt → Bool
  | [.Try [.Expr (.Call (.Name y _) [] [] _) _] (h :: hs) [] [] _, .Return (some (.Constant (.str s) _ _)) _] => (y == a) && ((s == r) && chkHds en sc (h :: hs) hds)
  | _ => false
def hTs (g : GW) (hds : List (Nat × Str)) : List (Value × (Addr → Value → Option Addr → TS)) := hds.map fun p => (.ref (g.ea p.1), fun _ _ _ => tRet (tC (.str p.2)))
theorem hds_ok {X : Cx} {g : GW} {en : Nat → Option Str} {sc : Scope} (hsc : X.env.scope = sc) (hm : ∀ c x, en c = some x → X.mg x = some (.ref (g.ea c))) : ∀ {hs : List ExceptHandler} {hds : List (Nat × Str)}, chkHds en sc hs hds = true → HdsOk X hs (hTs g hds)
  | [], [], _ => .nil
  | [], _ :: _, h => by cases h
  | _ :: _, [], h => by cases h
  | h :: hs, p :: r, hc => by
    unfold chkHds at hc
    split at hc
    · rename_i x px s j p1 p2 p3
      simp only [Bool.and_eq_true, beq_iff_eq] at hc
      obtain ⟨h1, h2, h3, h4, h5⟩ := hc
      subst h4
      simp only [dbg, Bool.and_eq_true, Bool.not_eq_true'] at h3
      simp only [isKind, decide_eq_true_eq] at h2
      have gl : Gl X x := by
        show X.env.scope.names.lookup x = _
        rw [hsc]; exact h2
      exact .cons ⟨gl, h3.1, .inl (hm _ _ (isNm_eq h1))⟩ (fun a oe cls d pn _ _ => pss_one (ps_ret pe_str)) (hds_ok hsc hm h5)
    · cases hc
theorem hOk_many {K : PySem.W.Frag} {g : GW} {Q : VK} {D : Ends} (hD : D.rt = Q) : ∀ {hds : List (Nat × Str)} {cls : Value} {d : Option Addr} {σ : L2.St} {H : Hp}, hOk K g Q hds cls d H → wMany K (fun _ _ _ _ => False) D (hTs g hds) cls d σ H
  | [], _, _, _, _, h => h
  | (c, s) :: r, cls, d, σ, H, h => by
    obtain ⟨b, h1, h2, h3⟩ := h
    refine ⟨b, h1, fun hb a _ => ?_, fun hb => hOk_many hD (h3 hb)⟩
    show D.rt (.str s) H
    rw [hD]; exact h2 hb
theorem gives {X : Cx} {g : GW} {en : Nat → Option Str} {x a q r : Str} {sg : Scope} {g0 : Addr} {cdv : Value} {Ng : List Str} {hds : List (Nat × Str)} {bg : List Stmt} (hc : chkLi en sg a hds r bg = true) (hm : ∀ c x, en c = some x → X.mg x = some (.ref (g.ea c))) (h0 : ∀ f : Addr, (L2.start Ng [V.ref f])[0]? = some (some (V.ref f))) :
    LamX.GivesTo X Ng x sg g0 cdv bg a q (TTm X.K g hds r) := by
  unfold chkLi at hc
  split at hc
  · rename_i y p1 p2 p3 hd hs p4 s j p5 p6
    simp only [Bool.and_eq_true, beq_iff_eq] at hc
    obtain ⟨e1, e2, hc⟩ := hc
    subst e1; subst e2
    intro f c' s1 H Q tl act hcc ht
    have hh := hds_ok (X := (cxOf C8.CX0 X.prog X.w X.K X.mg X.base Ng x sg g0 cdv X.A X.stack s1 H C8.E0).nox) (g := g) rfl hm hc
    refine ⟨_, pss_cons (ps_try_many (tb := fun W D σ H => ∃ Ech : XK, (∀ cls d σ' H', Ech cls d H' → W cls d σ' H') ∧ σ[0]? = some (some (.ref f)) ∧ H c' = some (LamX.CodeO c' q) ∧ tl Ech H fun _ H' => D.nx σ H') rfl rfl LamX.takes0 (fun W pn xe tk _ => ?_) hh) (pss_one (ps_ret pe_str)), ?_⟩
    · refine ⟨fun pins s' σ H' D I h' => ?_⟩
      obtain ⟨Ech, hW, h1, h2, h3⟩ := h'
      have hp := act W pn xe Ech p1 p2 tk hW
      exact (pss_one (ps_expr (pos := p3) hp)).run pins s' σ H' D I ⟨h1, h2, h3⟩
    · exact ⟨hOk X.K g Q hds, fun cls d σ' H' h => hOk_many rfl h, h0 f, hcc, ht⟩
  · cases hc
end Fw

namespace Fw
open PySem L2 PyProof.Rows

/-! ### replace: where a token is out -/
def vRep : Expr → Option (Expr × Str × Str)
  | .Call (.Attribute o n ap) [.Constant (.str y) _ _, .Constant (.str z) _ _] [] pos => if n == ("replace" : Str) && ap.endLine == pos.line then some (o, y, z) else none
  | _ => none
mutual
def chkET (G : Gm) : IE → Expr → Bool
  | .repl a y z, e => (match vRep e with | some (o, y', z') => (y == y') && ((z == z') && (!(y == z) && (noSup o && chkE G a o))) | none => false)
  | .tup es, e => (match vTup e with | some xs => chkAT G es xs | none => false)
  | .lst _ es, e => (match vLst e with | some xs => chkAT G es xs | none => false)
  | .op _ o a b, e => (match vBin e with | some (x, p, y) => decide (o = p) && (chkET G a x && chkET G b y) | none => false)
  | a, e => chkE G a e
def chkAT (G : Gm) : IE → List Expr → Bool
  | .nil, es => es.isEmpty
  | .cons a b, es => (match es with | e :: r => chkET G a e && (noStar e && chkAT G b r) | [] => false)
  | _, _ => false
end
def chkST (G : Gm) : IS → Stmt → Bool
  | .asg tg e, s => (match vS s with
    | some (.asg t v _) => chkT G tg t && (chkET G e v && (noComp v && (match vName t with | some _ => true | none => false)))
    | _ => false)
  | _, _ => false
def chkBT (G : Gm) : IS → List Stmt → Bool
  | .skip, l => l.isEmpty
  | .seq a b, l => (match l with | s :: r => (chkS G a s || chkST G a s) && chkBT G b r | [] => false)
  | _, _ => false

section
variable {g : GW} {E : EV} {G : Gm} {W : WX} {X : Cx}
theorem pet_of {e : Expr} {te te' : TE} (h : PET X e te) (k : ∀ σ H Q, te' σ H Q → te σ H Q) : PET X e te' := fun pins s σ H Q h0 I q => h pins s σ H Q h0 I (k σ H Q q)
theorem pat_of {e : List Expr} {te te' : TA} (h : PAT X e te) (k : ∀ σ H Q, te' σ H Q → te σ H Q) : PAT X e te' := fun pos pins s σ H Q h0 I q => h pos pins s σ H Q h0 I (k σ H Q q)
theorem pst_of {e : Stmt} {te te' : TS} (h : PST X e te) (k : ∀ D σ H, te' D σ H → te D σ H) : PST X e te' := fun pins s σ H D h0 I q => h pins s σ H D h0 I (k D σ H q)
theorem psst_of {e : List Stmt} {te te' : TS} (h : PSsT X e te) (k : ∀ D σ H, te' D σ H → te D σ H) : PSsT X e te' := fun pins s σ H D h0 I q => h pins s σ H D h0 I (k D σ H q)
theorem pst_asg {tg e : Expr} {te : TE} {gg : TG} {pos : Pos} (he : PET X e te) (hg : PG X tg gg) (hs : swapsWithSole [tg] e pos.line X.env = pure false) (hw : swappedStores [tg] e X.env = pure none)
    (h1 : (assignEach [tg] X.env).map (·.2) = [assign tg X.env] := by rfl) : PST X (.Assign [tg] e pos) (tAsg te gg) := by
  intro pins s σ H D h0 I h
  refine wpAny_Assign_stores (thn (he pins s σ H _ h0 I h) fun v s1 ⟨x, H1, I1, r1, q1⟩ => ?_) hs hw
  rw [h1]
  exact thn (hg.run pins s1 σ H1 x v _ I1 r1 q1) fun _ s2 q => q
theorem pet_tup {es : List Expr} {t : TA} {k : Nat} {pos : Pos} (h : PAT X es t) : PET X (.Tuple es k pos) (tTup t) := by
  intro pins s σ H Q h0 I hq
  refine wpAny_Tuple_spliced (thn (h pos pins s σ H _ h0 I hq) fun us s1 ⟨xs, H1, I1, r, z, q⟩ => ⟨by rw [← r.length]; exact z, ?_⟩)
  have hf : H1 s1.heap.objs.size = none := I1.hok.fresh (Nat.le_refl _)
  refine ⟨.ref s1.heap.objs.size, upd H1 s1.heap.objs.size (.tup xs), I1.laid (t' := s1.toks) (fun b u e => Heap.get?_push_of_some _ e) (Nat.le_refl _) ?_, rfl, q _ hf⟩
  exact ⟨z, us, r, ⟨_, Heap.get?_push_size _ rfl, rfl, _, rfl⟩⟩
theorem vRep_eq {e o : Expr} {y z : Str} (h : vRep e = some (o, y, z)) : ∃ ap pos j c0 k c1, e = .Call (.Attribute o "replace" ap) [.Constant (.str y) j c0, .Constant (.str z) k c1] [] pos ∧ (ap.endLine == pos.line) = true := by
  unfold vRep at h
  split at h
  · rename_i o' n ap y' j c0 z' k c1 pos
    split at h
    · rename_i hc
      simp only [Bool.and_eq_true, beq_iff_eq] at hc
      obtain ⟨h1, h2⟩ := hc
      subst h1
      simp only [Option.some.injEq, Prod.mk.injEq] at h
      obtain ⟨rfl, rfl, rfl⟩ := h
      exact ⟨ap, pos, j, c0, k, c1, rfl, by rw [h2]; simp⟩
    · cases h
  · cases h
structure SndT (g : GW) (E : EV) (ie : IE) : Prop where
  e : ∀ (G : Gm) (W : WX) (X : Cx), XOk G g E W X → ∀ e, chkET G ie e = true → PET X e (tE g W (evE E ie))
  a : ∀ (G : Gm) (W : WX) (X : Cx), XOk G g E W X → ∀ es, chkAT G ie es = true → PAT X es (tA g W (evE E ie))
theorem sndT_base {ie : IE} (h1 : ∀ G e, chkET G ie e = chkE G ie e) (h2 : ∀ G es, chkAT G ie es = false) : SndT g E ie :=
  ⟨fun G W X xo e h => (by rw [h1] at h; exact CwR.PET.of ((sound ie).e G W X xo e h).1), fun G W X xo es h => (by rw [h2] at h; cases h)⟩
theorem soundT : ∀ ie : IE, SndT g E ie := by
  intro ie
  induction ie with
  | repl a y z ih =>
    refine ⟨fun G W X xo e h => ?_, fun G W X xo es h => by simp [chkAT] at h⟩
    simp only [chkET] at h
    split at h
    · rename_i o y' z' hv
      obtain ⟨ap, pos, j, c0, k, c1, rfl, hl⟩ := vRep_eq hv
      simp only [Bool.and_eq_true, beq_iff_eq, Bool.not_eq_true'] at h
      obtain ⟨rfl, rfl, h3, h4, h5⟩ := h
      refine pet_of (CwR.pet_replC (y := y) (z := z) ((sound (g := g) (E := E) a).e G W X xo o h5).1 h3 rfl (nosup h4) hl) fun σ H Q ⟨fb, m, ρ, S, o', rs, e, Gd⟩ => ?_
      simp only [evE] at e
      refine tE_bnd e rs Gd fun t S1 v m1 H1 e1 x1 rs1 r1 Gd1 => ?_
      cases t <;> first | (cases e1; done) | skip
      rename_i s
      simp only [strT] at e1
      split at e1
      · rename_i hl
        simp only [Option.some.injEq] at e1
        subst e1
        cases RepD.str (RepD.of r1)
        exact ⟨s, rfl, hl, Gd1 _ m1 _ (Ext.refl _ _) rs1.sto Rep.str_⟩
      · cases e1
    · cases h
  | tup es ih =>
    refine ⟨fun G W X xo e h => ?_, fun G W X xo es h => by simp [chkAT] at h⟩
    simp only [chkET] at h
    split at h
    · rename_i xs hv
      obtain ⟨k, p, rfl⟩ := vTup_eq hv
      refine pet_of (pet_tup (ih.a G W X xo xs h)) fun σ H Q ⟨fb, m, ρ, S, o, rs, e, Gd⟩ => ?_
      simp only [evE] at e
      refine tA_of (k := fun l S1 => if l.length ≤ line then some (.ok (.tup l) S1) else none) e rs Gd fun l S1 vs m1 H1 ek x rs1 rp Gd1 => ?_
      split at ek
      · rename_i hl
        simp only [Option.some.injEq] at ek
        subst ek
        rw [line_eq, rp.length] at hl
        exact ⟨hl, fin_tup Gd1 rs1.sto rp⟩
      · cases ek
    · cases h
  | lst bx es ih =>
    refine ⟨fun G W X xo e h => ?_, fun G W X xo es h => by simp [chkAT] at h⟩
    simp only [chkET] at h
    split at h
    · rename_i xs hv
      obtain ⟨p, rfl⟩ := vLst_eq hv
      refine pet_of (pet_lst (ih.a G W X xo xs h)) fun σ H Q ⟨fb, m, ρ, S, o, rs, e, Gd⟩ => ?_
      simp only [evE] at e
      refine tA_of (k := fun l S1 => if l.length ≤ line then some (newL bx (.lst l) S1) else none) e rs Gd fun l S1 vs m1 H1 ek x rs1 rp Gd1 => ?_
      split at ek
      · rename_i hl
        simp only [Option.some.injEq] at ek
        subst ek
        rw [line_eq, rp.length] at hl
        exact ⟨hl, fin_lst Gd1 rs1.sto rp⟩
      · cases ek
    · cases h
  | op bx o a b iha ihb =>
    refine ⟨fun G W X xo e h => ?_, fun G W X xo es h => by simp [chkAT] at h⟩
    simp only [chkET] at h
    split at h
    · rename_i x p y hv
      obtain ⟨ps, rfl⟩ := vBin_eq hv
      simp only [Bool.and_eq_true, decide_eq_true_eq] at h
      obtain ⟨rfl, h1, h2⟩ := h
      refine pet_of (CwR.pet_op (op_bx xo.K o) (iha.e G W X xo x h1) (ihb.e G W X xo y h2)) fun σ H Q ⟨fb, m, ρ, S, o', rs, e, Gd⟩ => ?_
      simp only [evE] at e
      refine tE_bnd e rs Gd fun t S1 v m1 H1 e1 x1 rs1 r1 Gd1 => ?_
      refine tE_bnd e1 rs1 Gd1 fun u S2 w m2 H2 e2 x2 rs2 r2 Gd2 => ?_
      simp only [lift] at e2
      split at e2
      · rename_i z hz
        simp only [Option.some.injEq] at e2
        subst e2
        exact ⟨fb, W, m2, σ, S2, bx, _, _, z, rs2.sto, RepD.drf rs2.sto (Rep.mono x2 _ r1), RepD.drf rs2.sto r2, hz, Gd2⟩
      · cases e2
    · cases h
  | nil =>
    refine ⟨fun G W X xo e h => by simp [chkET, chkE] at h, fun G W X xo es h => ?_⟩
    simp only [chkAT, List.isEmpty_iff] at h
    subst h
    exact pat_of pat_nil fun σ H Q ⟨fb, m, ρ, S, o, rs, e, Gd⟩ => by
      simp only [evE, Option.some.injEq] at e
      subst e
      exact Gd [] m H (Ext.refl _ _) rs.sto RepL.nil
  | cons a b iha ihb =>
    refine ⟨fun G W X xo e h => by simp [chkET, chkE] at h, fun G W X xo es h => ?_⟩
    simp only [chkAT] at h
    split at h
    · rename_i e r
      simp only [Bool.and_eq_true] at h
      obtain ⟨h1, h2, h3⟩ := h
      exact pat_of (pat_cons (iha.e G W X xo e h1) (ihb.a G W X xo r h3) (starEach_cons h2)) fun σ H Q h => cons_read h
    · cases h
  | _ => exact sndT_base (fun _ _ => rfl) (fun _ _ => rfl)
theorem pssT_read {a b : IS} {D : Ends} {σ : L2.St} {H : Hp} (h : tS g W (evS E (.seq a b)) D σ H) : tSeq (tS g W (evS E a)) (tS g W (evS E b)) D σ H := by
  obtain ⟨fb, m, ρ, S, o, rs, e, Gd⟩ := h
  simp only [evS] at e
  cases ea : evS E a ρ S with
  | none => rw [ea] at e; cases e
  | some q =>
    rw [ea] at e
    refine ⟨fb, m, ρ, S, q, rs, ea, ?_⟩
    cases q with
    | nx ρ' S' => exact fun σ' m' H' x rs' => ⟨fb, m', ρ', S', o, rs', e, Gd.ext x⟩
    | _ =>
      have := (Option.some.inj e).symm
      subst this
      exact Gd
theorem soundST {st : IS} (so : SOk G g E W X) {s : Stmt} (h : chkST G st s = true) : PST X s (tS g W (evS E st)) := by
  unfold chkST at h
  split at h
  · rename_i tg e
    split at h
    · rename_i t v l hv
      obtain ⟨p, rfl, rfl⟩ := vS_asg hv
      simp only [Bool.and_eq_true] at h
      obtain ⟨h1, h2, h3, h4⟩ := h
      split at h4
      · rename_i x hn
        obtain ⟨px, rfl⟩ := vName_eq hn
        have xo := so.xo
        have pe := (soundT (g := g) (E := E) e).e G W X xo v h2
        have pg := (pg_sound xo.N xo.nd xo.sc xo.calm xo.K xo.fn tg).1 _ h1
        exact pst_of (pst_asg pe pg (nocomp_sole h3) (by cases v <;> rfl) rfl) fun D σ H z => asg_read z
      · cases h4
    · cases h
  · cases h
theorem soundBT (so : SOk G g E W X) : ∀ (st : IS) (l : List Stmt), chkBT G st l = true → PSsT X l (tS g W (evS E st)) := by
  intro st
  induction st with
  | skip =>
    intro l h
    simp only [chkBT, List.isEmpty_iff] at h
    subst h
    exact psst_of CwR.psst_nil fun D σ H ⟨fb, m, ρ, S, o, rs, e, Gd⟩ => by
      simp only [evS, Option.some.injEq] at e
      subst e
      exact Gd σ m H (Ext.refl _ _) rs
  | seq a b iha ihb =>
    intro l h
    simp only [chkBT] at h
    split at h
    · rename_i s r
      simp only [Bool.and_eq_true, Bool.or_eq_true] at h
      obtain ⟨h1, h2⟩ := h
      have p1 : PST X s (tS g W (evS E a)) := by
        rcases h1 with h1 | h1
        · exact PST.of ((soundS a).s G W X so s h1)
        · exact soundST so h1
      exact psst_of (psst_cons p1 (ihb r h2)) fun D σ H z => pssT_read z
    · cases h
  | _ => intro l h; simp [chkBT] at h
end
end Fw

namespace Fw
open PySem L2 PyProof.Rows

/-! ### a def's end: what it has made and does not hand out is forgotten -/
section
variable {g : GW}
theorem app_sub {m l l2 : List Addr} {b : Addr} (hs : ∀ b, b ∈ l2 → b ∈ l) (h : b ∈ m ++ l2) : b ∈ m ++ l := by
  rcases List.mem_append.mp h with z | z
  · exact List.mem_append_left _ z
  · exact List.mem_append_right _ (hs b z)
mutual
theorem Rep.cutG {m l l2 : List Addr} {H : Hp} (hs : ∀ b, b ∈ l2 → b ∈ l) : ∀ (t : T) {v : V}, noBx m.length t = true → Rep g (m ++ l) H t v → Rep g (m ++ l2) H t v
  | .non, v, _, h => by simpa only [Rep] using h
  | .bl b, v, _, h => by simpa only [Rep] using h
  | .int i, v, _, h => by simpa only [Rep] using h
  | .str s, v, _, h => by simpa only [Rep] using h
  | .fn f, v, _, h => by simpa only [Rep] using h
  | .box n, v, hn, h => by
    simp only [Rep] at h ⊢
    simp only [noBx, decide_eq_true_eq] at hn
    obtain ⟨a, h1, h2⟩ := h
    rw [List.getElem?_append_left hn] at h1
    exact ⟨a, by rw [List.getElem?_append_left hn]; exact h1, h2⟩
  | .scr ns, v, _, h => by
    simp only [Rep] at h ⊢
    obtain ⟨a, h1, h2⟩ := h
    refine ⟨a, h1, ?_⟩
    rcases h2 with ⟨q, r⟩ | h2
    · exact .inl ⟨fun z => q (app_sub hs z), r⟩
    · exact .inr h2
  | .tup ts, v, hn, h => by
    simp only [Rep] at h ⊢
    simp only [noBx] at hn
    obtain ⟨a, vs, h1, h2, h3⟩ := h
    refine ⟨a, vs, h1, ?_, RepL.cutG hs ts hn h3⟩
    rcases h2 with ⟨q, r⟩ | h2
    · exact .inl ⟨fun z => q (app_sub hs z), r⟩
    · exact .inr h2
  | .lst ts, v, hn, h => by
    simp only [Rep] at h ⊢
    simp only [noBx] at hn
    obtain ⟨a, vs, h1, h2, h3, h4, h5⟩ := h
    exact ⟨a, vs, h1, fun z => h2 (app_sub hs z), h3, h4, RepL.cutG hs ts hn h5⟩
  | .err c f ts, v, hn, h => by
    simp only [Rep] at h ⊢
    simp only [noBx] at hn
    obtain ⟨a, h1, h2, h3, h4⟩ := h
    refine ⟨a, h1, fun z => h2 (app_sub hs z), h3, ?_⟩
    rcases h4 with h4 | ⟨dd, vx, h4, h5, h6, h7, h8⟩
    · exact .inl h4
    · exact .inr ⟨dd, vx, h4, fun z => h5 (app_sub hs z), h6, h7, RepL.cutG hs ts hn h8⟩
theorem RepL.cutG {m l l2 : List Addr} {H : Hp} (hs : ∀ b, b ∈ l2 → b ∈ l) : ∀ (ts : List T) {vs : List V}, noBxL m.length ts = true → RepL g (m ++ l) H ts vs → RepL g (m ++ l2) H ts vs
  | [], vs, _, h => by simpa only [RepL] using h
  | t :: ts, vs, hn, h => by
    simp only [RepL] at h ⊢
    simp only [noBxL, Bool.and_eq_true] at hn
    obtain ⟨v, r, h1, h2, h3⟩ := h
    exact ⟨v, r, h1, Rep.cutG hs t hn.1 h2, RepL.cutG hs ts hn.2 h3⟩
end
theorem Rep.cut {m l : List Addr} {H : Hp} (t : T) {v : V} (hn : noBx m.length t = true) (h : Rep g (m ++ l) H t v) : Rep g m H t v := by
  have := Rep.cutG (l2 := []) (fun _ z => nomatch z) t hn h
  rwa [List.append_nil] at this
theorem RepL.cut {m l : List Addr} {H : Hp} (ts : List T) {vs : List V} (hn : noBxL m.length ts = true) (h : RepL g (m ++ l) H ts vs) : RepL g m H ts vs := by
  have := RepL.cutG (l2 := []) (fun _ z => nomatch z) ts hn h
  rwa [List.append_nil] at this
theorem KD.cutG {m l l2 : List Addr} {H : Hp} (hs : ∀ b, b ∈ l2 → b ∈ l) : ∀ {k : List (T × T)} {xs : List (NestedKey × Addr × Value)}, noBxD m.length k = true → KD g (m ++ l) H k xs → KD g (m ++ l2) H k xs
  | [], xs, _, h => h
  | p :: k, xs, hn, h => by
    simp only [noBxD, Bool.and_eq_true] at hn
    obtain ⟨x, r, h1, ⟨h2, h3, v, h4, h5⟩, h6⟩ := h
    exact ⟨x, r, h1, ⟨h2, Rep.cutG hs _ hn.1.1 h3, v, Rep.cutG hs _ hn.1.2 h4, h5⟩, KD.cutG hs hn.2 h6⟩
theorem KY.cutG {m l l2 : List Addr} {H : Hp} (hs : ∀ b, b ∈ l2 → b ∈ l) : ∀ {k : List (T × T)} {xs : List (Key × V)}, noBxD m.length k = true → KY g (m ++ l) H k xs → KY g (m ++ l2) H k xs
  | [], xs, _, h => h
  | p :: k, xs, hn, h => by
    simp only [noBxD, Bool.and_eq_true] at hn
    obtain ⟨x, r, h1, ⟨h2, h3⟩, h6⟩ := h
    exact ⟨x, r, h1, ⟨h2, Rep.cutG hs _ hn.1.2 h3⟩, KY.cutG hs hn.2 h6⟩
theorem ObR.cutG {m l l2 : List Addr} {H : Hp} {ob : Ob} {a : Addr} (hs : ∀ b, b ∈ l2 → b ∈ l) (hn : noBxO m.length ob = true) (h : ObR g (m ++ l) H ob a) : ObR g (m ++ l2) H ob a := by
  cases ob with
  | lst k => obtain ⟨vs, e, r⟩ := h; exact ⟨vs, e, RepL.cutG hs k hn r⟩
  | dct k => obtain ⟨xs, e, d1, d2, d3, d4⟩ := h; exact ⟨xs, e, d1, d2, KD.cutG hs hn d3, d4⟩
  | dfz k => obtain ⟨xs, od, e, d1, d2, d3, d4⟩ := h; exact ⟨xs, od, e, d1, d2, KD.cutG hs hn d3, d4⟩
  | dki k => obtain ⟨xs, e, d1, d3, d4⟩ := h; exact ⟨xs, e, d1, KY.cutG hs hn d3, d4⟩
  | dkf k => obtain ⟨xs, od, e, d1, d3, d4⟩ := h; exact ⟨xs, od, e, d1, KY.cutG hs hn d3, d4⟩
  | ins _ _ => exact h.elim
theorem ObR.cut {m l : List Addr} {H : Hp} {ob : Ob} {a : Addr} (hn : noBxO m.length ob = true) (h : ObR g (m ++ l) H ob a) : ObR g m H ob a := by
  have := ObR.cutG (l2 := []) (fun _ z => nomatch z) hn h
  rwa [List.append_nil] at this
theorem SRep.cut {m l : List Addr} {H : Hp} {S : Sto} (sr : SRep g (m ++ l) H S) (hn : (S.take m.length).all (noBxO m.length) = true) (hl : m.length ≤ S.length) : SRep g m H (S.take m.length) := by
  refine ⟨by simp [hl], ?_, fun n ob a h1 h2 => ?_, fun a ha => ?_, sr.tab⟩
  · exact (List.nodup_append.mp sr.nd).1
  · have hlt : n < m.length := (List.getElem?_eq_some_iff.mp h2).1
    rw [List.getElem?_take_of_lt hlt] at h1
    have z := sr.at_ n ob a h1 (by rw [List.getElem?_append_left hlt]; exact h2)
    refine z.cut ?_
    refine List.all_eq_true.mp hn ob (List.mem_of_getElem? (i := n) ?_)
    rw [List.getElem?_take_of_lt hlt]; exact h1
  · obtain ⟨z1, z2⟩ := sr.fbs a ha
    exact ⟨z1, fun z => z2 (List.mem_append_left _ z)⟩
theorem Ext.cut {m l : List Addr} {H H' : Hp} (x : Ext m H (m ++ l) H') : Ext m H m H' := ⟨⟨[], by simp, by simp⟩, x.keepN, x.there, x.frz⟩

/-- one box of the end is kept -/
theorem SRep.keep1 {m l : List Addr} {H : Hp} {S : Sto} {n : Nat} {a : Addr} {ob : Ob} (sr : SRep g (m ++ l) H S) (hn : (S.take m.length).all (noBxO m.length) = true) (hl : m.length ≤ S.length) (hb : m.length ≤ n) (ha : (m ++ l)[n]? = some a) (ho : S[n]? = some ob) (hno : noBxO m.length ob = true) : SRep g (m ++ [a]) H (S.take m.length ++ [ob]) := by
  have am : a ∉ m := fun z => by
    obtain ⟨i, hi, ei⟩ := List.mem_iff_getElem.mp z
    have e2 : (m ++ l)[i]? = some a := by
      rw [List.getElem?_append_left hi, List.getElem?_eq_getElem hi, ei]
    have := nd_ix sr.nd ha e2
    omega
  have hs : ∀ b, b ∈ [a] → b ∈ l := fun b hb' => by
    rw [List.mem_singleton.mp hb']
    rw [List.getElem?_append_right hb] at ha
    exact List.mem_of_getElem? ha
  refine ⟨by simp [hl], ?_, fun k ob' a' h1 h2 => ?_, fun b hb' => ?_, sr.tab⟩
  · refine List.nodup_append.mpr ⟨(List.nodup_append.mp sr.nd).1, by simp, fun x hx y hy e => ?_⟩
    rw [List.mem_singleton.mp hy] at e
    exact am (e ▸ hx)
  · have hz : (S.take m.length).length = m.length := by simp [hl]
    by_cases hk : k < m.length
    · rw [List.getElem?_append_left (by omega)] at h1
      rw [List.getElem?_append_left hk] at h2
      have h1' := h1
      rw [List.getElem?_take_of_lt hk] at h1
      have z := sr.at_ k ob' a' h1 (by rw [List.getElem?_append_left hk]; exact h2)
      exact z.cutG hs (List.all_eq_true.mp hn ob' (List.mem_of_getElem? h1'))
    · rw [List.getElem?_append_right (by omega)] at h1 h2
      rw [hz] at h1
      have e0 : k - m.length = 0 := by
        have := (List.getElem?_eq_some_iff.mp h1).1
        simpa using this
      rw [e0] at h1 h2
      simp only [List.getElem?_cons_zero, Option.some.injEq] at h1 h2
      subst h1; subst h2
      exact (sr.at_ n _ _ ho ha).cutG hs hno
  · obtain ⟨z1, z2⟩ := sr.fbs b hb'
    exact ⟨z1, fun z => z2 (app_sub hs z)⟩
theorem Ext.keep1 {m l : List Addr} {H H' : Hp} {a : Addr} (x : Ext m H (m ++ l) H') (ha : a ∈ l) : Ext m H (m ++ [a]) H' := by
  obtain ⟨l', e, hf⟩ := x.grow
  have := List.append_cancel_left e
  subst this
  exact ⟨⟨[a], rfl, fun b hb => by rw [List.mem_singleton.mp hb]; exact hf a ha⟩, x.keepN, x.there, x.frz⟩
theorem ownD_some {b : Nat} {t : T} {S : Sto} {ob : Ob} (h : ownD b t S = some ob) : ∃ n, t = .box n ∧ b ≤ n ∧ S[n]? = some ob := by
  unfold ownD at h
  split at h
  · rename_i n
    split at h
    · rename_i hb
      split at h
      · rename_i l hl
        simp only [Option.some.injEq] at h
        subst h
        exact ⟨n, rfl, hb, hl⟩
      · rename_i l hl
        simp only [Option.some.injEq] at h
        subst h
        exact ⟨n, rfl, hb, hl⟩
      · cases h
    · cases h
  · cases h
/-! ### a def on a store of its own -/
mutual
theorem Rep.nb {g : GW} {fb' m m' : List Addr} {H H' : Hp} (hk : ∀ a o, H a = some o → NT o → a ∉ m → a ∉ g.fb → H' a = some o ∧ a ∉ m' ∧ a ∉ fb') : ∀ (t : T) {v : V}, noBx 0 t = true → Rep g m H t v → Rep (g.w fb') m' H' t v
  | .non, v, _, h => by simpa only [Rep] using h
  | .bl b, v, _, h => by simpa only [Rep] using h
  | .int i, v, _, h => by simpa only [Rep] using h
  | .str s, v, _, h => by simpa only [Rep] using h
  | .fn f, v, _, h => by simp only [Rep] at h ⊢; exact h
  | .box n, v, hn, h => by simp [noBx] at hn
  | .scr ns, v, hn, h => by
    simp only [Rep] at h ⊢
    obtain ⟨a, h1, h2⟩ := h
    refine ⟨a, h1, ?_⟩
    rcases h2 with ⟨q, q', r⟩ | h2
    · rcases r with r | ⟨o, r⟩
      · obtain ⟨z1, z2, z3⟩ := hk a _ r (by intro ps z; cases z) q q'
        exact .inl ⟨z2, z3, .inl z1⟩
      · obtain ⟨z1, z2, z3⟩ := hk a _ r (by intro ps z; cases z) q q'
        exact .inl ⟨z2, z3, .inr ⟨o, z1⟩⟩
    · exact .inr h2
  | .tup l, v, hn, h => by
    simp only [noBx] at hn
    simp only [Rep] at h ⊢
    obtain ⟨a, vs, h1, h2, h3⟩ := h
    refine ⟨a, vs, h1, ?_, RepL.nb hk l hn h3⟩
    rcases h2 with ⟨q, q', r⟩ | h2
    · rcases r with r | ⟨o, r⟩
      · obtain ⟨z1, z2, z3⟩ := hk a _ r (by intro ps z; cases z) q q'
        exact .inl ⟨z2, z3, .inl z1⟩
      · obtain ⟨z1, z2, z3⟩ := hk a _ r (by intro ps z; cases z) q q'
        exact .inl ⟨z2, z3, .inr ⟨o, z1⟩⟩
    · exact .inr h2
  | .lst l, v, hn, h => by
    simp only [noBx] at hn
    simp only [Rep] at h ⊢
    obtain ⟨a, vs, h1, q, q', r, h4⟩ := h
    obtain ⟨z1, z2, z3⟩ := hk a _ r (by intro ps z; cases z) q q'
    exact ⟨a, vs, h1, z2, z3, z1, RepL.nb hk l hn h4⟩
  | .err c f l, v, hn, h => by
    simp only [noBx] at hn
    simp only [Rep] at h ⊢
    obtain ⟨a, h1, h2, h3, h4⟩ := h
    rcases h4 with ⟨h4, h5⟩ | ⟨dd, vx, h4, h5, h6, h7, h8⟩
    · obtain ⟨z1, z2, z3⟩ := hk a _ h5 (nt_ext _) h2 h3
      exact ⟨a, h1, z2, z3, .inl ⟨h4, z1⟩⟩
    · obtain ⟨z1, z2, z3⟩ := hk a _ h4 (nt_ext _) h2 h3
      obtain ⟨y1, y2, y3⟩ := hk dd _ h7 (nt_ext _) h5 h6
      exact ⟨a, h1, z2, z3, .inr ⟨dd, vx, z1, y2, y3, y1, RepL.nb hk l hn h8⟩⟩
theorem RepL.nb {g : GW} {fb' m m' : List Addr} {H H' : Hp} (hk : ∀ a o, H a = some o → NT o → a ∉ m → a ∉ g.fb → H' a = some o ∧ a ∉ m' ∧ a ∉ fb') : ∀ (ts : List T) {vs : List V}, noBxL 0 ts = true → RepL g m H ts vs → RepL (g.w fb') m' H' ts vs
  | [], vs, _, h => by simpa only [RepL] using h
  | t :: ts, vs, hn, h => by
    simp only [noBxL, Bool.and_eq_true] at hn
    simp only [RepL] at h ⊢
    obtain ⟨v, r, h1, h2, h3⟩ := h
    exact ⟨v, r, h1, Rep.nb hk t hn.1 h2, RepL.nb hk ts hn.2 h3⟩
end
theorem KD.nb {g : GW} {fb' m m' : List Addr} {H H' : Hp} (hk : ∀ a o, H a = some o → NT o → a ∉ m → a ∉ g.fb → H' a = some o ∧ a ∉ m' ∧ a ∉ fb') : ∀ {l : List (T × T)} {xs : List (NestedKey × Addr × Value)}, noBxD 0 l = true → KD g m H l xs → KD (g.w fb') m' H' l xs
  | [], xs, _, h => h
  | p :: l, xs, hn, h => by
    simp only [noBxD, Bool.and_eq_true] at hn
    obtain ⟨x, r, h1, ⟨h2, h3, v, h4, h5⟩, h6⟩ := h
    exact ⟨x, r, h1, ⟨h2, Rep.nb hk _ hn.1.1 h3, v, Rep.nb hk _ hn.1.2 h4, h5⟩, KD.nb hk hn.2 h6⟩
theorem KY.nb {g : GW} {fb' m m' : List Addr} {H H' : Hp} (hk : ∀ a o, H a = some o → NT o → a ∉ m → a ∉ g.fb → H' a = some o ∧ a ∉ m' ∧ a ∉ fb') : ∀ {l : List (T × T)} {xs : List (Key × V)}, noBxD 0 l = true → KY g m H l xs → KY (g.w fb') m' H' l xs
  | [], xs, _, h => h
  | p :: l, xs, hn, h => by
    simp only [noBxD, Bool.and_eq_true] at hn
    obtain ⟨x, r, h1, ⟨h2, h3⟩, h6⟩ := h
    exact ⟨x, r, h1, ⟨h2, Rep.nb hk _ hn.1.2 h3⟩, KY.nb hk hn.2 h6⟩
theorem ObR.nb {g : GW} {fb' m m' : List Addr} {H H' : Hp} {ob : Ob} {a : Addr} (hk : ∀ a o, H a = some o → NT o → a ∉ m → a ∉ g.fb → H' a = some o ∧ a ∉ m' ∧ a ∉ fb') (hn : noBxO 0 ob = true) (h : ObR g m H ob a) (k : H' a = H a) : ObR (g.w fb') m' H' ob a := by
  cases ob with
  | lst l => obtain ⟨vs, e1, r⟩ := h; exact ⟨vs, by rw [k]; exact e1, RepL.nb hk l hn r⟩
  | dct _ => obtain ⟨xs, e1, z1, z2, r, z3⟩ := h; exact ⟨xs, by rw [k]; exact e1, z1, z2, KD.nb hk hn r, z3⟩
  | dfz _ => obtain ⟨xs, od, e1, z1, z2, r, z3⟩ := h; exact ⟨xs, od, by rw [k]; exact e1, z1, z2, KD.nb hk hn r, z3⟩
  | dki _ => obtain ⟨xs, e1, z1, r, z3⟩ := h; exact ⟨xs, by rw [k]; exact e1, z1, KY.nb hk hn r, z3⟩
  | dkf _ => obtain ⟨xs, od, e1, z1, r, z3⟩ := h; exact ⟨xs, od, by rw [k]; exact e1, z1, KY.nb hk hn r, z3⟩
  | ins _ _ => exact h.elim
theorem SRep.boxes {m : List Addr} {H : Hp} {S : Sto} (sr : SRep g m H S) {a : Addr} (h : a ∈ m) : Re H a := by
  obtain ⟨o, e, hb⟩ := sr.boxN h
  exact ⟨o, e, hb.nt⟩
/-- the store of its own -/
theorem SRep.loc {fb m : List Addr} {H : Hp} {S : Sto} (sr : SRep (g.w fb) m H S) : SRep (g.w (m ++ fb)) [] H [] :=
  ⟨rfl, List.nodup_nil, fun n ob a h => by simp at h, fun a ha => ⟨by
    rcases List.mem_append.mp ha with z | z
    · exact sr.boxes z
    · exact (sr.fbs a z).1, by simp⟩, sr.tab⟩
theorem RepL.loc {fb m : List Addr} {H : Hp} {ts : List T} {vs : List V} (hn : noBxL 0 ts = true) (r : RepL (g.w fb) m H ts vs) : RepL (g.w (m ++ fb)) [] H ts vs :=
  RepL.nb (g := g.w fb) (fb' := m ++ fb) (m := m) (m' := []) (fun a o e _ h1 h2 => ⟨e, by simp, fun z => by
    rcases List.mem_append.mp z with z | z
    · exact h1 z
    · exact h2 z⟩) ts hn r
/-- the boxes stay as they were -/
theorem Ext.ofLoc {m m' : List Addr} {H H' : Hp} (x : Ext [] H m' H') : Ext m H m H' :=
  ⟨⟨[], by simp, by simp⟩, fun a o e n _ => x.keepN a o e n (by simp), fun a _ ⟨o, e, n⟩ => ⟨o, x.keepN a o e n (by simp), n⟩, x.frz⟩
theorem SRep.ofLoc {fb m m' : List Addr} {H H' : Hp} {S : Sto} (sr : SRep (g.w fb) m H S) (x : Ext [] H m' H') (tab : LamX.Tabs g.T H') : SRep (g.w fb) m H' S :=
  ⟨sr.len, sr.nd, fun n ob a h1 h2 => by
    have z := sr.at_ n ob a h1 h2
    obtain ⟨o, e, hb⟩ := z.bx
    exact z.mono (Ext.ofLoc x) (by rw [e]; exact x.keepN a o e hb.nt (by simp)), (Ext.ofLoc (m := m) x).fbs sr.fbs, tab⟩
theorem goodC_loc {fb m : List Addr} {H : Hp} {S : Sto} {Q : VK} {E : XK} {o ol : Out} (sr : SRep (g.w fb) m H S) (e : locO S ol = some o) (G : GoodC (g.w fb) m H Q E o) : GoodC (g.w (m ++ fb)) [] H Q E ol := by
  cases ol with
  | ex c p S' =>
    simp only [locO, Option.some.injEq] at e
    subst e
    exact fun cls d m' H' x sr' xr => G cls d m H' (Ext.ofLoc x) (sr.ofLoc x sr'.tab) xr
  | ok t S' =>
    intro v m' H' x sr' r
    have un : ∀ a, a ∉ m ++ fb → a ∉ m ∧ a ∉ fb := fun a z => ⟨fun h => z (List.mem_append_left _ h), fun h => z (List.mem_append_right _ h)⟩
    simp only [locO] at e
    split at e
    · rename_i hn
      simp only [Option.some.injEq] at e
      subst e
      exact G v m H' (Ext.ofLoc x) (sr.ofLoc x sr'.tab) (Rep.nb (g := g.w (m ++ fb)) (fb' := fb) (fun a o e _ _ h2 => ⟨e, un a h2⟩) t hn r)
    · split at e
      · rename_i ob _
        split at e
        · rename_i ho
          simp only [Option.some.injEq] at e
          subst e
          simp only [Rep] at r
          obtain ⟨a, h1, rfl⟩ := r
          have hl := sr'.len
          obtain ⟨b, rfl⟩ : ∃ b, m' = [b] := by
            match m', hl with
            | [b], _ => exact ⟨b, rfl⟩
          simp only [List.getElem?_cons_zero, Option.some.injEq] at h1
          subst h1
          obtain ⟨l, el, hf⟩ := x.grow
          simp only [List.nil_append] at el
          subst el
          have nb : ¬ Re H b := hf b (by simp)
          have bm : b ∉ m := fun z => nb (sr.boxes z)
          have x2 : Ext m H (m ++ [b]) H' := ⟨⟨[b], rfl, hf⟩, fun a o e n _ => x.keepN a o e n (by simp), fun a _ ⟨o, e, n⟩ => ⟨o, x.keepN a o e n (by simp), n⟩, x.frz⟩
          refine G (.ref b) (m ++ [b]) H' x2 ⟨by simp [sr.len], ?_, fun n ob' a h2 h3 => ?_, x2.fbs sr.fbs, sr'.tab⟩ ?_
          · refine List.nodup_append.mpr ⟨sr.nd, by simp, fun a ha c hc e => ?_⟩
            simp only [List.mem_singleton] at hc
            subst hc; subst e
            exact bm ha
          · by_cases hlt : n < S.length
            · rw [List.getElem?_append_left hlt] at h2
              rw [List.getElem?_append_left (by rw [sr.len]; exact hlt)] at h3
              have z := sr.at_ n ob' a h2 h3
              obtain ⟨o, e, hb⟩ := z.bx
              exact z.mono x2 (by rw [e]; exact x.keepN a o e hb.nt (by simp))
            · have e1 : n = S.length := by
                have := (List.getElem?_eq_some_iff.mp h2).1
                simp at this
                omega
              subst e1
              rw [List.getElem?_append_right (Nat.le_refl _)] at h2
              rw [List.getElem?_append_right (by rw [sr.len]; exact Nat.le_refl _)] at h3
              simp [sr.len] at h2 h3
              subst h2; subst h3
              exact (sr'.at_ 0 ob b rfl rfl).nb (g := g.w (m ++ fb)) (fb' := fb) (fun a o e _ h1 h2 => ⟨e, fun z => by
                rcases List.mem_append.mp z with z | z
                · exact (un a h2).1 z
                · exact h1 z, (un a h2).2⟩) ho rfl
          · simp only [Rep]
            exact ⟨b, by rw [← sr.len]; simp, rfl⟩
        · cases e
      · cases e
theorem fin1_ok {m : List Addr} {H : Hp} {Q : VK} {E : XK} {t : T} {S' : Sto} {b : Nat} (hb : m.length = b) (G : GoodC g m H Q E (fin1 b t S')) : GoodC g m H Q E (.ok t S') := by
  subst hb
  intro v m' H' x sr r
  unfold fin1 at G
  split at G
  · exact G v m' H' x sr r
  · rename_i hl
    split at G
    · rename_i k hk
      obtain ⟨n, rfl, hb1, hb2⟩ := ownD_some hk
      split at G
      · rename_i hn
        simp only [Bool.and_eq_true] at hn
        obtain ⟨l, rfl, hf⟩ := x.grow
        simp only [Rep] at r
        obtain ⟨a, e1, rfl⟩ := r
        have al : a ∈ l := by
          have e2 := e1
          rw [List.getElem?_append_right hb1] at e2
          exact List.mem_of_getElem? e2
        refine G (.ref a) (m ++ [a]) H' (x.keep1 al) (sr.keep1 hn.2 (by omega) hb1 e1 hb2 hn.1) ?_
        simp only [Rep]
        exact ⟨a, by simp, rfl⟩
      · exact G v m' H' x sr r
    rename_i hown
    split at G
    · rename_i hn
      simp only [Bool.and_eq_true] at hn
      obtain ⟨l, rfl, hf⟩ := x.grow
      refine G v m H' x.cut (sr.cut hn.2 (by omega)) ?_
      have h1 := hn.1
      revert h1
      unfold thaw
      split
      · rename_i n
        split
        · rename_i hbn
          split
          · rename_i k hk
            intro h1
            simp only [Rep] at r
            obtain ⟨a, e1, rfl⟩ := r
            obtain ⟨vs, q1, rl⟩ := sr.at_ n _ a hk e1
            simp only [noBx] at h1
            simp only [Rep]
            refine ⟨a, vs, rfl, fun z => ?_, fun z => ?_, q1, RepL.cut k h1 rl⟩
            · obtain ⟨i, hi, ei⟩ := List.mem_iff_getElem.mp z
              have e2 : (m ++ l)[i]? = some a := by
                rw [List.getElem?_append_left hi, List.getElem?_eq_getElem hi, ei]
              have := nd_ix sr.nd e1 e2
              omega
            · exact (sr.fbs a z).2 (List.mem_of_getElem? e1)
          · intro h1
            exact Rep.cut _ h1 r
        · intro h1
          exact Rep.cut _ h1 r
      · intro h1
        exact Rep.cut _ h1 r
    · exact G v m' H' x sr r
theorem finE_ok {m : List Addr} {H : Hp} {Q : VK} {E : XK} {c : Nat} {p : Option T} {S' : Sto} {b : Nat} (hb : m.length = b) (G : GoodC g m H Q E (finE b c p S')) : GoodC g m H Q E (.ex c p S') := by
  subst hb
  intro cls d m' H' x sr r
  unfold finE at G
  split at G
  · exact G cls d m' H' x sr r
  · rename_i hl
    split at G
    · rename_i hn
      obtain ⟨l, rfl, hf⟩ := x.grow
      exact G cls d m H' x.cut (sr.cut hn (by omega)) r
    · exact G cls d m' H' x sr r

/-- what a body is to reach, from what the def is to reach -/
theorem goodS_of {W : WX} {m : List Addr} {H : Hp} {Q : VK} {E : XK} {kp : Bool} {b : Nat} {o : OutS} {r : Out} (hb : m.length = b) (hW : ∀ cls d σ H', E cls d H' → W cls d σ H') (e : fin kp b (some o) = some r) (G : GoodC g m H Q E r) :
    GoodS g W m H { nx := fun _ H' => Q .non H', rt := Q } o := by
  cases o with
  | rt t S =>
    simp only [fin, Option.some.injEq] at e
    subst e
    cases kp with
    | true => exact G
    | false => exact fin1_ok hb G
  | nx ρ S =>
    simp only [fin, Option.some.injEq] at e
    subst e
    intro σ m' H' x rs
    cases kp with
    | true => exact G .non m' H' x rs.sto Rep.non_
    | false => exact fin1_ok hb G .non m' H' x rs.sto Rep.non_
  | ex c p ρ S =>
    simp only [fin, Option.some.injEq] at e
    subst e
    intro cls d σ m' H' x rs xr
    refine hW cls d σ H' ?_
    cases kp with
    | true => exact G cls d m' H' x rs.sto xr
    | false => exact finE_ok hb G cls d m' H' x rs.sto xr
  | bk ρ S => cases e
  | ct ρ S => cases e
theorem goodS_ofL {W : WX} {H : Hp} {Q : VK} {E : XK} {md : Nat} {o : OutS} {r : Out} (hW : ∀ cls d σ H', E cls d H' → W cls d σ H') (e : finL md (some o) = some r) (G : GoodC g [] H Q E r) : GoodS g W [] H { nx := fun _ H' => Q .non H', rt := Q } o := by
  unfold finL at e
  split at e
  · exact goodS_of rfl hW e G
  · cases o with
    | rt t S =>
      simp only [Option.some.injEq] at e
      subst e
      intro v m' H' x sr rep
      unfold fin1B at G
      split at G
      · rename_i n
        split at G
        · rename_i l hl
          split at G
          · rename_i hn
            have r2 := rep
            simp only [Rep] at r2
            obtain ⟨a, e1, rfl⟩ := r2
            have z := SRep.keep1 (m := []) (l := m') (n := n) (a := a) (ob := .lst l) sr (by simp) (Nat.zero_le _) (Nat.zero_le _) (by simpa using e1) hl hn
            refine G (.ref a) [a] H' (Ext.keep1 (m := []) (l := m') x (List.mem_of_getElem? e1)) (by simpa using z) ?_
            simp only [Rep]
            exact ⟨a, rfl, rfl⟩
          · exact G v m' H' x sr rep
        · exact G v m' H' x sr rep
      · exact G v m' H' x sr rep
    | nx ρ S => cases e
    | bk ρ S => cases e
    | ct ρ S => cases e
    | ex c p ρ S => cases e
end

/-! ### the defs of a text -/
structure DI where
  x : Str
  st : Stmt
  N : List Str
  ps : List Str
  fd : FD
  lam : Bool := false
/-- a def that calls a lambda and tells how it ended: its parameter, its except clauses, its last word -/
structure LI where
  x : Str
  st : Stmt
  a : Str
  hds : List (Nat × Str)
  r : Str
structure LW where
  ds : List DI
  ls : List LI := []
  cn : List Str
  en : List Str
  blt : List Str
  prg : Prg
  ef : List (Option Str) := []
  ix : List (Str × List Bool) := []
  xs : List (Nat × Nat) := []
def LW.efo (L : LW) (c : Nat) : Option Str := (L.ef[c]?).join
def LW.gm (L : LW) (d : DI) : Gm := { N := d.N, sc := defScope d.st, fnT := fun _ => true, fname := fun f => (L.ds[f]?).map (·.x), fnameL := fun _ => none, lv := false, lamN := fun j => if d.lam then (L.ls[j]?).map (·.x) else none, nmL := fun f => (L.ds[f]?).map (·.x), cname := fun c => L.cn[c]?, ename := fun c => L.en[c]?, blt := L.blt, exf := L.efo, isxs := L.ix, xms := L.xs }
def scB (N P : List Str) (sc : Scope) : Bool :=
  decide (sc.kind = .function) && !sc.isCoroutine && !sc.isGenerator && decide N.Nodup && decide (N.take P.length = P) && P.all (fun x => decide (sc.names.lookup x = some .local) || decide (sc.names.lookup x = some .cell)) && sc.names.all (fun y => !decide (y.2 = .free))
theorem scB_ok {N P : List Str} {sc : Scope} (h : scB N P sc = true) : FnScope N P sc := by
  unfold scB at h
  simp only [Bool.and_eq_true, Bool.not_eq_true', decide_eq_true_eq, List.all_eq_true, Bool.or_eq_true, decide_eq_false_iff_not] at h
  obtain ⟨⟨⟨⟨⟨⟨h1, h2⟩, h3⟩, h4⟩, h5⟩, h6⟩, h7⟩ := h
  exact ⟨h1, h2, h3, h4, h5, h6, h7⟩
def LW.okD (L : LW) (d : DI) : Bool := scB d.N d.ps (defScope d.st) && (decide (d.ps.length = d.fd.np) && (decide (d.N.length = d.fd.ns) && (chkB (L.gm d) d.fd.body (defBody d.st) || ((defScope d.st).names.all (fun y => !decide (y.2 = .cell)) && (decide (1 ≤ d.ps.length) && chkBT (L.gm d) d.fd.body (defBody d.st))))))

def LW.okL (L : LW) (li : LI) : Bool := scB [li.a] [li.a] (defScope li.st) && (dbg li.a && chkLi (fun c => L.en[c]?) (defScope li.st) li.a li.hds li.r (defBody li.st))

/-- what the top has left of the text -/
structure LF (L : LW) (P : Program) (w : World) (K : PySem.W.Frag) (mg : Str → Option Value) where
  g : GW
  fdOf : Nat → FuncData
  hK : g.K = K
  hP : g.pr = P
  hw : g.wd = w
  fns : ∀ f d, L.ds[f]? = some d → L2.Fun K d.x d.x d.st (g.fa f) (fdOf f) ∧ mg d.x = some (.ref (g.fa f)) ∧ Binds K (fdOf f) d.ps []
  blt : ∀ x, x ∈ L.blt → mg x = none
  cst : ∀ c x, L.cn[c]? = some x → ∃ u v, mg x = some u ∧ L2.RelV v u ∧ ∀ fb m H, Rep (g.w fb) m H (L.prg.cv c) v
  exm : ∀ c x, L.en[c]? = some x → mg x = some (.ref (g.ea c))
  exc : ∀ c x, L.en[c]? = some x → L.efo c = none → ∃ (B newId initId : String) (bmB : List Value), ExcBaseFacts B newId initId bmB ∧ PySem.W.excIn K (g.ea c) bmB newId = true ∧ PySem.W.keepIn K (.ref (g.ea c)) = true ∧
    PySem.W.subIn K (.ref (g.ea c)) (.type "BaseException") = some true ∧ PySem.W.typeIn K (.ref (g.ea c)) = some (.type "type")
  exx : ∀ c x f, L.en[c]? = some x → L.efo c = some f → OexC K (g.ea c) ∧ XfC K (g.ea c) ∧ PySem.W.findIn K (.ref (g.ea c)) f = some none ∧ ∃ fI fd ps, PySem.W.findIn K (.ref (g.ea c)) "__init__" = some (some (.ref fI)) ∧ PySem.W.typeIn K (.ref fI) = some (.type "function") ∧
    ps.length = 2 ∧ Binds K fd ps [] ∧ ∀ base k, FnOk P w K mg base (L2.CX P w) (k + 1) fI fd ps (spSup (g.ea c) f)
  isx : ∀ x yes, (x, yes) ∈ L.ix → ∃ cv : Value, (mg x = some cv ∨ (mg x = none ∧ bootBuiltins x = some cv ∧ x ≠ "__name__")) ∧ (∃ c : V, RelV c cv ∧ ∀ u, RelV c u → u = cv) ∧ ∀ d b, yes[d]? = some b → ExcC K (g.ea d) ∧ PySem.W.kitOne K (.ref (g.ea d)) cv = some b
  xm : ∀ c c', (c, c') ∈ L.xs → PySem.W.exmOne K (.ref (g.ea c)) (.ref (g.ea c')) = some (decide (c = c'))
  cs : List (Addr × Addr)
  lfn : ∀ j li, L.ls[j]? = some li → ∃ g0 fd hs, L2.Fun K li.x li.x li.st g0 fd ∧ mg li.x = some (.ref g0) ∧ Binds K fd [li.a] [] ∧ L.prg.lam j = some (hs, .str li.r) ∧ ∀ p ∈ hs, ∃ s, p.2 = .str s ∧ ∀ (Q : VK) d H, Q (.str s) H → hOk K g Q li.hds (.ref (g.ea p.1)) d H
  tab : ∀ f d, L.ds[f]? = some d → d.lam = true → ∃ c P, (fdOf f).code = .ref c ∧ (c, P) ∈ cs ∧ (P, (d.x ++ ".<locals>.") ++ "<lambda>") ∈ g.T ∧ ∀ p ∈ g.T, p.1 = P → p.2 = (d.x ++ ".<locals>.") ++ "<lambda>"

theorem run_len {P : Prg} {n f : Nat} {ts : List T} {S : Sto} {o : Out} {fd : FD} (h : run P n f ts S = some o) (hf : P.tab f = some fd) : ts.length = fd.np := by
  cases n with
  | zero => cases h
  | succ n =>
    rw [run_eq] at h
    simp only [body1, hf] at h
    split at h
    · rename_i q; simpa using q
    · cases h
theorem run_tab {P : Prg} {n f : Nat} {ts : List T} {S : Sto} {o : Out} (h : run P n f ts S = some o) : ∃ fd, P.tab f = some fd := by
  cases n with
  | zero => cases h
  | succ n =>
    rw [run_eq] at h
    simp only [body1] at h
    split at h
    · rename_i fd q; exact ⟨fd, q⟩
    · cases h

/-- what is known of a def that calls lambdas, over any context -/
theorem lamOk_of {X : Cx} {g : GW} {E : EV} {nmL : Nat → Option Str} {j : Nat} {li : LI} {en : Nat → Option Str} {g0 c P0 : Addr} {k : Nat} {q : Str} {fd : FuncData} {hs : List (Nat × T)} (hq : X.env.qual = q) (Fl : L2.Fun X.K li.x li.x li.st g0 fd) (hmg : X.mg li.x = some (.ref g0)) (hbl : Binds X.K fd [li.a] []) (hlp : E.lam j = some (hs, .str li.r))
    (hx : ∀ p ∈ hs, ∃ s, p.2 = .str s ∧ ∀ (Q : VK) d H, Q (.str s) H → hOk X.K g Q li.hds (.ref (g.ea p.1)) d H) (okl : (scB [li.a] [li.a] (defScope li.st) && (dbg li.a && chkLi en (defScope li.st) li.a li.hds li.r (defBody li.st))) = true)
    (hm : ∀ c x, en c = some x → X.mg x = some (.ref (g.ea c))) (TB : LamX.TabB X.base X.mg c P0) (hcode : X.env.code = .ref c) (hT : (P0, q ++ "<lambda>") ∈ g.T) (hu : ∀ p ∈ g.T, p.1 = P0 → p.2 = q ++ "<lambda>") (hr : Room (k + 2) X.A)
    (hf : ∀ f2, (nmL f2).isSome = true → ∃ fd ps, FnOk X.prog X.w X.K X.mg X.base (L2.CX X.prog X.w) k (g.fa f2) fd ps (spF g E.callL f2 ps.length) ∧ PySem.W.keepIn X.K (.ref (g.fa f2)) = true ∧ Binds X.K fd ps [] ∧ (∀ ts S o, E.callL f2 ts S = some o → ts.length = ps.length) ∧ ∀ x2, nmL f2 = some x2 → X.mg x2 = some (.ref (g.fa f2)))
    (hfv : ∀ f2 ts S o, E.callL f2 ts S = some o → (nmL f2).isSome = true) : LamOk X g E nmL j li.x := by
  subst hq
  obtain ⟨oc1, od1, kV1, doc1, pm1, an1, cdv1, ct1, osl1, rfl, lk1, hcd1⟩ := Fl.ex
  simp only [Bool.and_eq_true, dbg, Bool.not_eq_true'] at okl
  obtain ⟨l1, ⟨l2, l3⟩, l4⟩ := okl
  have Sl := scB_ok l1
  have hva : Vis (defScope li.st) li.a := by
    rcases Sl.par _ List.mem_cons_self with z | z
    · exact .inl z
    · exact .inr (.inl z)
  exact .mk hlp hmg Fl.kp lk1 hcd1 hbl Sl rfl hva l2 l3 (gives l4 hm fun _ => rfl) TB hcode hT hu hr hx hf hfv

theorem fn_all {L : LW} {P : Program} {w : World} {K : PySem.W.Frag} {mg : Str → Option Value} {base : Heap} (F : LF L P w K mg) (ht : ∀ f, L.prg.tab f = (L.ds[f]?).map (·.fd)) (hc : L.ds.all L.okD = true) (hcl : L.ls.all L.okL = true) (hB : ∀ p ∈ F.cs, LamX.TabB base mg p.1 p.2) :
    ∀ n n', n' ≤ n → ∀ f d, L.ds[f]? = some d → FnOk P w K mg base (L2.CX P w) n' (F.g.fa f) (F.fdOf f) d.ps (spF F.g (run L.prg n') f d.ps.length) := by
  have none0 : ∀ f d, L.ds[f]? = some d → FnOk P w K mg base (L2.CX P w) 0 (F.g.fa f) (F.fdOf f) d.ps (spF F.g (run L.prg 0) f d.ps.length) := fun f d hd =>
    ⟨fun vs H Q E h => h.1, fun A outer s H args us vs Q E _ _ _ _ h => by
      obtain ⟨_, fb, m, S, ts, o, _, _, e, _⟩ := h
      cases e⟩
  intro n
  induction n with
  | zero =>
    intro n' hn f d hd
    obtain rfl : n' = 0 := by omega
    exact none0 f d hd
  | succ n ih0 =>
    intro n' hn f d hd
    by_cases hle : n' ≤ n
    · exact ih0 n' hle f d hd
    obtain rfl : n' = n + 1 := by omega
    have ih := ih0 n (Nat.le_refl _)
    obtain ⟨Fu, hm, hb⟩ := F.fns f d hd
    have ok := List.all_eq_true.mp hc d (List.mem_of_getElem? hd)
    simp only [LW.okD, Bool.and_eq_true, decide_eq_true_eq] at ok
    obtain ⟨o1, o2, o3, o4⟩ := ok
    have S := scB_ok o1
    obtain ⟨oc0, od0, kV0, doc0, pm0, an0, cdv, ct0, osl0, efd, lk0, hcd0⟩ := Fu.ex
    have ecode : (F.fdOf f).code = cdv := by rw [efd]
    rw [efd] at lk0 ⊢
    have common : ∀ (A : Around) (outer : List Env) (s : Shared) (H : Hp) (vs : List V) (Q : VK) (E : XK), Room n (A.deeper (envOfC d.x (defScope d.st) s.heap.objs.size (F.g.fa f) cdv)) → spF F.g (run L.prg (n + 1)) f d.ps.length vs H Q E →
        SOk (L.gm d) F.g (ev L.prg n) (fun cls d _ H => E cls d H) (cxOf (L2.CX P w) P w K mg base d.N d.x (defScope d.st) (F.g.fa f) cdv A outer s H E) ∧ tS F.g (fun cls d _ H => E cls d H) (evS (ev L.prg n) d.fd.body) { nx := fun _ H' => Q .non H', rt := Q } (start d.N vs) H := by
     intro A outer s H vs Q E hr h
     obtain ⟨hl, fb, m, S0, ts, o, rp, sr, e, Gd⟩ := h
     have ln : ∀ f2 d2, L.ds[f2]? = some d2 → ∀ n2 ts S o, run L.prg n2 f2 ts S = some o → ts.length = d2.ps.length := fun f2 d2 hd2 n2 ts S o q => by
       have ok2 := List.all_eq_true.mp hc d2 (List.mem_of_getElem? hd2)
       simp only [LW.okD, Bool.and_eq_true, decide_eq_true_eq] at ok2
       rw [ok2.2.1]
       exact run_len q (by rw [ht, hd2]; rfl)
     have cok : ∀ f2 d2, L.ds[f2]? = some d2 → CallOk (cxOf (L2.CX P w) P w K mg base d.N d.x (defScope d.st) (F.g.fa f) cdv A outer s H E) F.g (run L.prg n) f2 := fun f2 d2 hd2 =>
       ⟨n, F.fdOf f2, d2.ps, ih f2 d2 hd2, hr, (F.fns f2 d2 hd2).1.kp, (F.fns f2 d2 hd2).2.2, ln f2 d2 hd2 n⟩
     have isd : ∀ {n2 f2 ts S o}, run L.prg n2 f2 ts S = some o → ∃ d2, L.ds[f2]? = some d2 := fun q => by
       obtain ⟨fd2, q2⟩ := run_tab q
       rw [ht, Option.map_eq_some_iff] at q2
       obtain ⟨d2, hd2, _⟩ := q2
       exact ⟨d2, hd2⟩
     have lam : ∀ j x, (L.gm d).lamN j = some x → (ev L.prg n).lam j ≠ none → LamOk (cxOf (L2.CX P w) P w K mg base d.N d.x (defScope d.st) (F.g.fa f) cdv A outer s H E) F.g (ev L.prg n) (L.gm d).nmL j x := by
       intro j x h hne
       simp only [LW.gm] at h
       split at h
       · rename_i hlam
         simp only [Option.map_eq_some_iff] at h
         obtain ⟨li, hli, rfl⟩ := h
         match n, hne, hr, ih0 with
         | 0, hne, _, _ => exact absurd rfl hne
         | 1, hne, _, _ => exact absurd rfl hne
         | k + 2, hne, hr, ih0 =>
           obtain ⟨g0, fd, hs, Fl, hmg, hbl, hlp, hx⟩ := F.lfn j li hli
           obtain ⟨c, P0, hcode, hcs, hT, hu⟩ := F.tab f d hd hlam
           refine lamOk_of (k := k) (q := d.x ++ ".<locals>.") rfl Fl hmg hbl hlp hx (List.all_eq_true.mp hcl li (List.mem_of_getElem? hli)) (fun c x h => ?_) (hB _ hcs) (show cdv = .ref c by rw [← ecode]; exact hcode) hT hu hr (fun f2 h2 => ?_) (fun f2 ts S o q => ?_)
           · exact F.exm c x h
           · cases hd2 : L.ds[f2]? with
             | none => simp [LW.gm, hd2] at h2
             | some d2 =>
               refine ⟨F.fdOf f2, d2.ps, ih0 k (by omega) f2 d2 hd2, (F.fns f2 d2 hd2).1.kp, (F.fns f2 d2 hd2).2.2, ln f2 d2 hd2 k, fun x2 h3 => ?_⟩
               simp only [LW.gm, hd2, Option.map_some, Option.some.injEq] at h3
               subst h3
               exact (F.fns f2 d2 hd2).2.1
           · obtain ⟨d2, hd2⟩ := isd (n2 := k) q
             simp [LW.gm, hd2]
       · cases h
     have so : SOk (L.gm d) F.g (ev L.prg n) (fun cls d _ H => E cls d H) (cxOf (L2.CX P w) P w K mg base d.N d.x (defScope d.st) (F.g.fa f) cdv A outer s H E) := by
       refine ⟨⟨rfl, S.nd, rfl, F.hK.symm, F.hP.symm, F.hw.symm, rfl, fun _ _ => rfl, takes_of rfl rfl rfl rfl, hr.units, F.blt, fun f2 x2 h2 => ?_, fun _ _ z => (by cases z), fun _ f2 ts S o q => ?_, lam, fun z => (by cases z), fun c x h1 h2 => ?_, fun c x f2 h1 h2 => ?_, fun x yes h => F.isx x yes h, F.cst⟩, passes_of rfl, S.kind, fun c x h1 h2 => ?_, rfl, rfl, F.xm, F.exm⟩
       · simp only [LW.gm, Option.map_eq_some_iff] at h2
         obtain ⟨d2, hd2, rfl⟩ := h2
         exact ⟨cok f2 d2 hd2, (F.fns f2 d2 hd2).2.1⟩
       · obtain ⟨d2, hd2⟩ := isd (n2 := n) q
         exact cok f2 d2 hd2
       · obtain ⟨B, n1, n2, bm, q1, q2, q3, _, _⟩ := F.exc c x h1 h2
         exact ⟨B, n1, n2, bm, q1, q2, F.exm c x h1, q3⟩
       · obtain ⟨q1, q2, q3, fI, fd, ps, q4, q5, q6, q7, q8⟩ := F.exx c x f2 h1 h2
         exact ⟨⟨q1, F.exm c x h1, q2, q3, fI, fd, ps, q4, q5, q6, q7, fun k => q8 base k⟩, fun hn => hr.mono hn⟩
       · obtain ⟨B, n1, n2, bm, q1, q2, q3, q4, q5⟩ := F.exc c x h1 h2
         exact ⟨B, n1, n2, bm, q1, q2, F.exm c x h1, q3, raises_own q4 q5⟩
     refine ⟨so, ?_⟩
     -- its reading
     have hf : L.prg.tab f = some d.fd := by rw [ht, hd]; rfl
     have hts : ts.length = d.fd.np := run_len e hf
     rw [run_eq] at e
     simp only [body1, hf, hts, beq_self_eq_true, if_true] at e
     have env0 : ∀ {fb2 m2 : List Addr}, RepL (F.g.w fb2) m2 H ts vs → ERep (F.g.w fb2) m2 H (init d.fd ts) (L2.start d.N vs) := fun {fb2 m2} rp => by
       refine ⟨?_, fun i t q => ?_⟩
       · have := rp.length
         simp only [L2.start, init, List.length_append, List.length_map, List.length_replicate]
         omega
       · have hl2 := rp.length
         unfold init at q
         by_cases hi : i < ts.length
         · rw [List.getElem?_append_left (by simpa using hi), List.getElem?_map] at q
           simp only [Option.map_eq_some_iff, Option.some.injEq] at q
           obtain ⟨t', q1, rfl⟩ := q
           obtain ⟨v, e1, e2⟩ := rp.get q1
           refine ⟨v, ?_, e2⟩
           unfold L2.start
           rw [List.getElem?_append_left (by simpa [← hl2] using hi), List.getElem?_map, e1]
           rfl
         · rw [List.getElem?_append_right (by simpa using hi)] at q
           have := List.mem_of_getElem? q
           simp only [List.mem_replicate, reduceCtorEq, and_false] at this
     by_cases hm : d.fd.md = 0
     · simp only [hm, beq_self_eq_true, if_true] at e
       cases evq : evS (ev L.prg n) d.fd.body (init d.fd ts) S0 with
       | none => rw [evq] at e; cases e
       | some o' =>
         rw [evq] at e
         exact ⟨fb, m, init d.fd ts, S0, o', ⟨env0 rp, sr⟩, evq, goodS_of sr.len (fun _ _ _ _ z => z) e Gd⟩
     · have hm' : (d.fd.md == 0) = false := by simpa using hm
       simp only [hm', Bool.false_eq_true, if_false] at e
       split at e
       · rename_i hnb
         split at e
         · rename_i ol hol
           cases evq : evS (ev L.prg n) d.fd.body (init d.fd ts) [] with
           | none =>
             rw [evq] at hol
             unfold finL at hol
             split at hol <;> cases hol
           | some o' =>
             rw [evq] at hol
             exact ⟨m ++ fb, [], init d.fd ts, [], o', ⟨env0 (rp.loc hnb), sr.loc⟩, evq, goodS_ofL (fun _ _ _ _ z => z) hol (goodC_loc sr e Gd)⟩
         · cases e
       · cases e
    rcases Bool.or_eq_true_iff.mp o4 with o4 | o4
    · exact fn_of lk0 hcd0 S (fun vs H Q E h => h.1) fun A outer s H vs Q E hr h => let ⟨so, q⟩ := common A outer s H vs Q E hr h; ⟨_, (soundS d.fd.body).b _ _ _ so (defBody d.st) o4, q⟩
    · simp only [Bool.and_eq_true, decide_eq_true_eq] at o4
      obtain ⟨k1, k2, k3⟩ := o4
      exact fn_ofT lk0 hcd0 S (fun y hy => by have := List.all_eq_true.mp k1 y hy; simpa using this) k2 (fun vs H Q E h => h.1) fun A outer s H vs Q E hr h => let ⟨so, q⟩ := common A outer s H vs Q E hr h; ⟨_, soundBT so d.fd.body (defBody d.st) k3, q⟩

/-- the law's own promise -/
def spLaw (K : PySem.W.Frag) (T : List (Addr × Str)) : Sp := fun vs H Q _ => ∃ (a : Addr) (ns : List Int), vs = [.ref a] ∧ SqL K H a (ns.map V.int) ∧ ns.length ≤ 63 ∧ LamX.Tabs T H ∧ ∀ H', Q (.bl true) H'
theorem law_ok {L : LW} {P : Program} {w : World} {K : PySem.W.Frag} {mg : Str → Option Value} {base : Heap} (F : LF L P w K mg) (ht : ∀ f, L.prg.tab f = (L.ds[f]?).map (·.fd)) (hc : L.ds.all L.okD = true) (hcl : L.ls.all L.okL = true) (hB : ∀ p ∈ F.cs, LamX.TabB base mg p.1 p.2) (n f : Nat) (d : DI) (hd : L.ds[f]? = some d) (h1 : d.ps.length = 1)
    (hrun : ∀ ns : List Int, ns.length ≤ 63 → ∃ S, run L.prg n f [.scr ns] [] = some (.ok (.bl true) S)) : FnOk P w K mg base (L2.CX P w) n (F.g.fa f) (F.fdOf f) d.ps (spLaw K F.g.T) := by
  refine (fn_all F ht hc hcl hB n n (Nat.le_refl _) f d hd).imp fun vs H Q E h => ?_
  obtain ⟨a, ns, rfl, hS, hlen, hT, k⟩ := h
  obtain ⟨S, hr⟩ := hrun ns hlen
  refine ⟨by rw [h1]; rfl, [], [], [], [.scr ns], .ok (.bl true) S, RepL.cons ?_ RepL.nil, ⟨rfl, by simp, fun n ob a h => by simp at h, fun a h => by simp [GW.w] at h, hT⟩, hr, fun v m' H' _ _ r => ?_⟩
  · simp only [Rep]
    refine ⟨a, rfl, ?_⟩
    rw [← F.hK] at hS
    rcases hS with hS | hS
    · exact .inl ⟨by simp, by simp [GW.w], hS⟩
    · exact .inr hS
  · cases RepD.bl (RepD.of r)
    exact k H'
end Fw

namespace Fw
open PySem PySem.W L2 PyProof.Rows
/-! ### facts of the errors, as a whole -/
def excB (K : Frag) (D : Addr) : Bool := decide (findIn K (.ref D) "__getattribute__" = some (some (.builtin "BaseException.__getattribute__"))) && (decide (findIn K (.ref D) "__getattr__" = some none) && (decide (subIn K (.ref D) (.type "BaseException") = some true) && (hasDictIn K D && (decide (findIn K (.ref D) "__class__" = some (some (.builtin "object.__class__"))) && (decide (specialIn K (.builtin "object.__class__") "__get__" = some (some (.builtin "getset_descriptor.__get__"))) && (decide (takesIn K (.builtin "object.__class__") = some true) && decide (mroIn K D (.type "object") = some true)))))))
theorem excB_ok {K : Frag} {D : Addr} (h : excB K D = true) : ExcC K D := by
  simp only [excB, Bool.and_eq_true, decide_eq_true_eq] at h
  obtain ⟨h1, h2, h3, h4, h5, h6, h7, h8⟩ := h
  exact ⟨h1, h2, h3, h4, h5, h6, h7, h8⟩
theorem isx_of {K : Frag} {ea : List Addr} {yes : List Bool} {cv : Value} (h : ea.map (fun a => kitOne K (.ref a) cv) = yes.map some) (hE : ea.all (excB K) = true) : ∀ d b, yes[d]? = some b → ExcC K (ea.getD d 0) ∧ kitOne K (.ref (ea.getD d 0)) cv = some b := by
  intro d b hd
  have hl : ea.length = yes.length := by simpa using congrArg List.length h
  have hlt : d < ea.length := by rw [hl]; exact (List.getElem?_eq_some_iff.mp hd).1
  have e1 : ea.getD d 0 = ea[d] := by simp [List.getD, hlt]
  rw [e1]
  refine ⟨excB_ok (List.all_eq_true.mp hE _ (List.getElem_mem hlt)), ?_⟩
  have := congrArg (fun l => l[d]?) h
  simp only [List.getElem?_map, List.getElem?_eq_getElem hlt, hd, Option.map_some, Option.some.injEq] at this
  exact this
theorem mem_fst {α : Type} {xs : List α} {p : α → Prop} (h : ∀ (i : Nat) (x : α), xs[i]? = some x → p x) : ∀ x ∈ xs, p x := fun x hx => by
  obtain ⟨i, hi, e⟩ := List.mem_iff_getElem.mp hx
  exact h i x (by rw [List.getElem?_eq_getElem hi, e])
/-- the frame of an __init__ of two parameters -/
def sc2 (a b : Str) : Scope := ⟨.function, [(a, .local), (b, .local)], false, false, []⟩
theorem sc2_ok {a b : Str} (h : a ≠ b) : FnScope [a, b] [a, b] (sc2 a b) := by
  have e : (b == a) = false := by simpa using Ne.symm h
  refine ⟨rfl, rfl, rfl, by simp [h], rfl, fun x hx => .inl ?_, fun y hy => ?_⟩
  · simp only [List.mem_cons, List.not_mem_nil, or_false] at hx
    rcases hx with rfl | rfl
    · simp [sc2, List.lookup]
    · simp [sc2, List.lookup, e]
  · simp only [sc2, List.mem_cons, List.not_mem_nil, or_false] at hy
    rcases hy with rfl | rfl <;> exact NameKind.noConfusion
theorem sup_of {P : Program} {w : World} {K : Frag} {mg : Str → Option Value} {fI cda cc C : Addr} {name qual self prm fld lit file : Str} {params : Arguments} {scope : Scope} {dV kV doc pm ct oc ccl cl : Value} {an od cdd cld : Option Addr}
    {osl ccs csl : Array (Option Value)} {vs2 : Array Value} {tf : Tok} {ar : Arg} {cdC : ClassData} {j : Nat} {p0 p1 p2 p3 p4 p5 p6 p7 p8 p9 : Pos}
    (q1 : findIn K (.ref C) "__init__" = some (some (.ref fI))) (q2 : typeIn K (.ref fI) = some (.type "function"))
    (lk : K.lookup fI = some ⟨oc, od, .func (ksFn name qual params [.Expr (.Call (.Attribute (.Call (.Name "super" p0) [] [] p1) "__init__" p2) [.Constant (.str lit) j p3] [] p4) p5, .Assign [.Attribute (.Name self p6) fld p7] (.Name prm p8) p9] scope dV kV doc pm an (.ref cda) ct cc), osl⟩)
    (hcd : codeIn K (.ref cda) qual = true) (hcode : K.lookup cda = some ⟨ccl, cdd, .fields vs2, ccs⟩) (hcell : K.lookup cc = some ⟨cl, cld, .cell (some (.ref C)), csl⟩) (hD : clsIn K C = some cdC) (hsub : mroIn K C (.ref C) = some true)
    (ho : nsIn K cStatics "thirdparty.any" = some none) (hB : subIn K (.ref C) (.type "ValueError") = some true) (hno : findIn K (.ref C) fld = some none)
    (hsp : self ≠ prm) (hp : (params.posonlyargs ++ params.args).head? = some ar) (har : ar.arg = self)
    (hvs : vs2[2]? = some (.str file tf)) (hfile : ((P.main.file : Str) == file) = true)
    (hm : ks_superIn K C C "__init__" = some (some (.builtin "ValueError.__init__"))) 
    (hks : scope.names.lookup ("super" : Str) = some .globalImplicit) (hkc : scope.names.lookup ("__class__" : Str) = some .free) (hka : scope.names.lookup self = some .local) (hkp : scope.names.lookup prm = some .local) (hk : scope.kind = .function) (hco : scope.isCoroutine = false) (hgen : scope.isGenerator = false) (hnc : scope.names.all (fun x => !decide (x.2 = .cell)) = true)
    (htop : (P.main.scope.names.lookup ("super" : Str)).isSome = false) (hd1 : (self == ("__debug__" : Str)) = false) (hd2 : (prm == ("__debug__" : Str)) = false)
    {pl : Sem Bool} (hev : ∀ L : Addr, eval (.Call (.Attribute (.Call (.Name "super" p0) [] [] p1) "__init__" p2) [.Constant (.str lit) j p3] [] p4) (ksEnv qual scope L fI (.ref cda) cc) = (do
      let ov ← attributeBase (.Call (.Name "super" p0) [] [] p1) "__init__" (ksEnv qual scope L fI (.ref cda) cc) (eval (.Call (.Name "super" p0) [] [] p1) (ksEnv qual scope L fI (.ref cda) cc))
      standAt p2.atName
      let (f', first) ← holding [ov] (getMethod ov "__init__" pl)
      callWith p4 f' first (backTo p4 (starEach [.Constant (.str lit) j p3] (ksEnv qual scope L fI (.ref cda) cc))) []))
    (hsw : ∀ env : Env, swapsWith (.Name prm p8) (some (.Attribute (.Name self p6) fld p7)) p9.line env = pure false)
    (hbind : ∀ us : List Value, us.length = [self, prm].length → bindArgs (ksFn name qual params [.Expr (.Call (.Attribute (.Call (.Name "super" p0) [] [] p1) "__init__" p2) [.Constant (.str lit) j p3] [] p4) p5, .Assign [.Attribute (.Name self p6) fld p7] (.Name prm p8) p9] scope dV kV doc pm an (.ref cda) ct cc) ⟨us, []⟩ = pure ([self, prm].zip us))
    (T : OexC K C) (hsuper : mg "super" = none) : ∃ (fI : Addr) (fd : FuncData) (ps : List Str), findIn K (.ref C) "__init__" = some (some (.ref fI)) ∧ typeIn K (.ref fI) = some (.type "function") ∧ ps.length = 2 ∧ Binds K fd ps [] ∧ ∀ base k, FnOk P w K mg base (L2.CX P w) (k + 1) fI fd ps (spSup C fld) :=
  ⟨fI, _, [self, prm], q1, q2, rfl, .all hbind, fun base k => fn_sup (jj := 0) (ps0 := ⟨0, 0, 0, 0⟩) (bmB := []) (fsc := sc2 self prm) lk hcd (sc2_ok hsp) hsp hp har hcode hvs hfile hcell hD hsub hsuper ho hm hB T hno hks hkc hka hkp hk hco hgen
    (fun x hx => by have := List.all_eq_true.mp hnc x hx; simpa using this) (by simp [sc2, List.lookup]) (by
      have e : (prm == self) = false := by simpa using Ne.symm hsp
      simp [sc2, List.lookup, e]) (fun n => by simp [sc2, cellsFrom]) htop hd1 hd2 hev hsw⟩
end Fw

namespace Fw
open PySem L2 PyProof.Rows

/-! ## the small language's turns, for use in plain Lean -/
section
variable {E : EV} {ρ : Rho} {S : Sto}
@[simp] theorem wE_lit {v : T} : evE E (.lit v) ρ S = some (.ok v S) := id rfl
@[simp] theorem wE_var {i : Nat} : evE E (.var i) ρ S = (match ρ[i]? with | some (some t) => some (.ok t S) | _ => none) := id rfl
@[simp] theorem wE_cst {c : Nat} : evE E (.cst c) ρ S = some (.ok (E.cv c) S) := id rfl
@[simp] theorem wE_nil : evE E .nil ρ S = some (.ok (.tup []) S) := id rfl
@[simp] theorem wE_cons {a b : IE} : evE E (.cons a b) ρ S = (match (evE E a ρ S) with | some (.ok x S1) => ((match (evE E b ρ S1) with | some (.ok y S2) => (tups y fun l => some (.ok (.tup (x :: l)) S2)) | some (.ex c_ p_ S_) => some (.ex c_ p_ S_) | none => none)) | some (.ex c_ p_ S_) => some (.ex c_ p_ S_) | none => none) := id rfl
@[simp] theorem wE_tup {a : IE} : evE E (.tup a) ρ S = (match (evE E a ρ S) with | some (.ok x S1) => (tups x fun l => if l.length ≤ line then some (.ok (.tup l) S1) else none) | some (.ex c_ p_ S_) => some (.ex c_ p_ S_) | none => none) := id rfl
@[simp] theorem wE_lst {bx : Bool} {a : IE} : evE E (.lst bx a) ρ S = (match (evE E a ρ S) with | some (.ok x S1) => (tups x fun l => if l.length ≤ line then some (newL bx (.lst l) S1) else none) | some (.ex c_ p_ S_) => some (.ex c_ p_ S_) | none => none) := id rfl
@[simp] theorem wE_op {bx : Bool} {o : Operator} {a b : IE} : evE E (.op bx o a b) ρ S = (match (evE E a ρ S) with | some (.ok x S1) => ((match (evE E b ρ S1) with | some (.ok y S2) => (lift bx (bop o (drf S2 x) (drf S2 y)) S2) | some (.ex c_ p_ S_) => some (.ex c_ p_ S_) | none => none)) | some (.ex c_ p_ S_) => some (.ex c_ p_ S_) | none => none) := id rfl
@[simp] theorem wE_cmp {o : CmpOp} {a b : IE} : evE E (.cmp o a b) ρ S = (match (evE E a ρ S) with | some (.ok x S1) => ((match (evE E b ρ S1) with | some (.ok y S2) => (liftB (cop S2 o x y) S2) | some (.ex c_ p_ S_) => some (.ex c_ p_ S_) | none => none)) | some (.ex c_ p_ S_) => some (.ex c_ p_ S_) | none => none) := id rfl
@[simp] theorem wE_chn {o o' : CmpOp} {a b c : IE} : evE E (.chn o o' a b c) ρ S = (match (evE E a ρ S) with | some (.ok x S1) => ((match (evE E b ρ S1) with | some (.ok y S2) => ((match cop S2 o x y with | some true => (match (evE E c ρ S2) with | some (.ok z S3) => (liftB (cop S3 o' y z) S3) | some (.ex c_ p_ S_) => some (.ex c_ p_ S_) | none => none) | some false => some (.ok (.bl false) S2) | none => none)) | some (.ex c_ p_ S_) => some (.ex c_ p_ S_) | none => none)) | some (.ex c_ p_ S_) => some (.ex c_ p_ S_) | none => none) := id rfl
@[simp] theorem wE_neg {a : IE} : evE E (.neg a) ρ S = (match (evE E a ρ S) with | some (.ok x S1) => ((match negT x with | some t => some (.ok t S1) | none => none)) | some (.ex c_ p_ S_) => some (.ex c_ p_ S_) | none => none) := id rfl
@[simp] theorem wE_not {a : IE} : evE E (.not a) ρ S = (match (evE E a ρ S) with | some (.ok x S1) => ((match truthy S1 x with | some b => some (.ok (.bl (!b)) S1) | none => none)) | some (.ex c_ p_ S_) => some (.ex c_ p_ S_) | none => none) := id rfl
@[simp] theorem wE_and {a b : IE} : evE E (.and a b) ρ S = (match (evE E a ρ S) with | some (.ok x S1) => ((match truthy S1 x with | some true => evE E b ρ S1 | some false => some (.ok x S1) | none => none)) | some (.ex c_ p_ S_) => some (.ex c_ p_ S_) | none => none) := id rfl
@[simp] theorem wE_or {a b : IE} : evE E (.or a b) ρ S = (match (evE E a ρ S) with | some (.ok x S1) => ((match truthy S1 x with | some true => some (.ok x S1) | some false => evE E b ρ S1 | none => none)) | some (.ex c_ p_ S_) => some (.ex c_ p_ S_) | none => none) := id rfl
@[simp] theorem wE_ite {c a b : IE} : evE E (.ite c a b) ρ S = (match (evE E c ρ S) with | some (.ok x S1) => ((match truthy S1 x with | some true => evE E a ρ S1 | some false => evE E b ρ S1 | none => none)) | some (.ex c_ p_ S_) => some (.ex c_ p_ S_) | none => none) := id rfl
@[simp] theorem wE_ix {a b : IE} : evE E (.ix a b) ρ S = (match (evE E a ρ S) with | some (.ok x S1) => ((match (evE E b ρ S1) with | some (.ok y S2) => (lift false (ixT S2 x y) S2) | some (.ex c_ p_ S_) => some (.ex c_ p_ S_) | none => none)) | some (.ex c_ p_ S_) => some (.ex c_ p_ S_) | none => none) := id rfl
@[simp] theorem wE_sl {bx : Bool} {a lo hi : IE} : evE E (.sl bx a lo hi) ρ S = (match (evE E a ρ S) with | some (.ok x S1) => ((match (evE E lo ρ S1) with | some (.ok l S2) => ((match part (isNil lo) l with | some i => (match (evE E hi ρ S2) with | some (.ok h S3) => ((match part (isNil hi) h with | some j => lift bx (slT S3 x i j) S3 | none => none)) | some (.ex c_ p_ S_) => some (.ex c_ p_ S_) | none => none) | none => none)) | some (.ex c_ p_ S_) => some (.ex c_ p_ S_) | none => none)) | some (.ex c_ p_ S_) => some (.ex c_ p_ S_) | none => none) := id rfl
@[simp] theorem wE_rev {bx : Bool} {a : IE} : evE E (.rev bx a) ρ S = (match (evE E a ρ S) with | some (.ok x S1) => (lift bx (revT S1 x) S1) | some (.ex c_ p_ S_) => some (.ex c_ p_ S_) | none => none) := id rfl
@[simp] theorem wE_call {f : Nat} {es : IE} : evE E (.call f es) ρ S = (match (evE E es ρ S) with | some (.ok x S1) => (tups x fun l => E.call f l S1) | some (.ex c_ p_ S_) => some (.ex c_ p_ S_) | none => none) := id rfl
@[simp] theorem wE_call0 {f : Nat} : evE E (.call0 f) ρ S = E.call f [] S := id rfl
@[simp] theorem wE_callL {f : Nat} {es : IE} : evE E (.callL f es) ρ S = (match (evE E es ρ S) with | some (.ok x S1) => (tups x fun l => E.callL f l S1) | some (.ex c_ p_ S_) => some (.ex c_ p_ S_) | none => none) := id rfl
@[simp] theorem wE_callv {i : Nat} {es : IE} : evE E (.callv i es) ρ S = (match ρ[i]? with | some (some (.fn f)) => (match evE E es ρ S with | some (.ok (.tup l) S1) => E.call f l S1 | _ => none) | _ => none) := id rfl
@[simp] theorem wE_callvL {i : Nat} {es : IE} : evE E (.callvL i es) ρ S = (match ρ[i]? with | some (some (.fn f)) => (match evE E es ρ S with | some (.ok (.tup l) S1) => E.callL f l S1 | _ => none) | _ => none) := id rfl
@[simp] theorem wE_lam {f : Nat} {e : IE} : evE E (.lam f e) ρ S = (match E.lam f with
    | some (hs, r) => (match evE E e ρ S with
      | some (.ok _ S') => some (.ok r S')
      | some (.ex c _ S') => (match pick c hs with | some t => some (.ok t S') | none => none)
      | none => none)
    | none => none) := id rfl
@[simp] theorem wE_blt {bx : Bool} {b : Bl} {es : IE} : evE E (.blt bx b es) ρ S = (match (evE E es ρ S) with | some (.ok x S1) => (tups x fun l => lift bx (bltT S1 b l) S1) | some (.ex c_ p_ S_) => some (.ex c_ p_ S_) | none => none) := id rfl
@[simp] theorem wE_isi {a : IE} {ty : String} : evE E (.isi a ty) ρ S = (match (evE E a ρ S) with | some (.ok x S1) => (liftB (isiT S1 x ty) S1) | some (.ex c_ p_ S_) => some (.ex c_ p_ S_) | none => none) := id rfl
@[simp] theorem wE_mt0 {m : Mt} {o : IE} : evE E (.mt0 m o) ρ S = (match (evE E o ρ S) with | some (.ok x S1) => (lift false (mt0T m x) S1) | some (.ex c_ p_ S_) => some (.ex c_ p_ S_) | none => none) := id rfl
@[simp] theorem wE_mt1 {m : Mt} {o e : IE} : evE E (.mt1 m o e) ρ S = (match (evE E o ρ S) with | some (.ok x S1) => (strT x fun a => (match (evE E e ρ S1) with | some (.ok y S2) => (lift false (mt1T S2 m a y) S2) | some (.ex c_ p_ S_) => some (.ex c_ p_ S_) | none => none)) | some (.ex c_ p_ S_) => some (.ex c_ p_ S_) | none => none) := id rfl
/-- one turn of a comprehension -/
def lcT (E : EV) (elt : IE) (tg : Tg) (cnd : IE) (ρ : Rho) : T → Sto → Option (Option T × Sto) := fun t S => match bindT tg t ρ with
        | some ρ' => (match evE E cnd ρ' S with
          | some (.ok c S') => (match truthy S' c with
            | some true => (match evE E elt ρ' S' with | some (.ok y S'') => some (some y, S'') | _ => none)
            | some false => some (none, S')
            | none => none)
          | _ => none)
        | none => none
@[simp] theorem wE_lc {bx : Bool} {own : List Nat} {elt : IE} {tg : Tg} {src cnd : IE} : evE E (.lc bx own elt tg src cnd) ρ S = (match (evE E src ρ S) with | some (.ok x S1) => (tups x fun l => (match lcL (lcT E elt tg cnd (wipeR ρ own)) l [] S1 with | some (ys, S2) => some (newL bx (.lst ys) S2) | none => none)) | some (.ex c_ p_ S_) => some (.ex c_ p_ S_) | none => none) := id rfl
@[simp] theorem wE_lcB {bx : Bool} {own : List Nat} {elt : IE} {tg : Tg} {src cnd : IE} : evE E (.lcB bx own elt tg src cnd) ρ S = (match (evE E src ρ S) with | some (.ok x S1) => (match x with | .box k => (match lcBL (lcT E elt tg cnd (wipeR ρ own)) k E.wf 0 [] S1 with | some (ys, S2) => some (newL bx (.lst ys) S2) | none => none) | _ => none) | some (.ex c_ p_ S_) => some (.ex c_ p_ S_) | none => none) := id rfl
@[simp] theorem wE_sq {a : IE} : evE E (.sq a) ρ S = (match (evE E a ρ S) with | some (.ok x S1) => ((match seqT x with | some l => some (.ok (.tup l) S1) | none => none)) | some (.ex c_ p_ S_) => some (.ex c_ p_ S_) | none => none) := id rfl
@[simp] theorem wE_sqS {a : IE} : evE E (.sqS a) ρ S = (match (evE E a ρ S) with | some (.ok x S1) => (strT x fun z => some (.ok (.tup (sgT z)) S1)) | some (.ex c_ p_ S_) => some (.ex c_ p_ S_) | none => none) := id rfl
@[simp] theorem wE_rg1 {a : IE} : evE E (.rg1 a) ρ S = (match (evE E a ρ S) with | some (.ok x S1) => ((match x with | .int j => if okR j then some (.ok (.tup (rngT 0 j.toNat)) S1) else none | _ => none)) | some (.ex c_ p_ S_) => some (.ex c_ p_ S_) | none => none) := id rfl
@[simp] theorem wE_rg2 {a b : IE} : evE E (.rg2 a b) ρ S = (match (evE E a ρ S) with | some (.ok x S1) => ((match (evE E b ρ S1) with | some (.ok y S2) => ((match x, y with | .int i, .int j => if okR i && okR j then some (.ok (.tup (rngT i (j - i).toNat)) S2) else none | _, _ => none)) | some (.ex c_ p_ S_) => some (.ex c_ p_ S_) | none => none)) | some (.ex c_ p_ S_) => some (.ex c_ p_ S_) | none => none) := id rfl
@[simp] theorem wE_zp {a b : IE} : evE E (.zp a b) ρ S = (match (evE E a ρ S) with | some (.ok x S1) => ((match (evE E b ρ S1) with | some (.ok y S2) => ((match x, y with | .tup xs, .tup ys => some (.ok (.tup (zipT xs ys)) S2) | .lst xs, .lst ys => some (.ok (.tup (zipT xs ys)) S2) | _, _ => none)) | some (.ex c_ p_ S_) => some (.ex c_ p_ S_) | none => none)) | some (.ex c_ p_ S_) => some (.ex c_ p_ S_) | none => none) := id rfl
@[simp] theorem wE_en {a : IE} : evE E (.en a) ρ S = (match (evE E a ρ S) with | some (.ok x S1) => ((match x with | .lst l => some (.ok (.tup (enuT 0 l)) S1) | .tup l => some (.ok (.tup (enuT 0 l)) S1) | _ => none)) | some (.ex c_ p_ S_) => some (.ex c_ p_ S_) | none => none) := id rfl
@[simp] theorem wE_lrg {bx : Bool} {a b : IE} : evE E (.lrg bx a b) ρ S = (match (evE E a ρ S) with | some (.ok x S1) => ((match (evE E b ρ S1) with | some (.ok y S2) => ((match x, y with | .int i, .int j => if okR i && okR j && decide ((j - i).toNat ≤ line) then some (newL bx (.lst (rngT i (j - i).toNat)) S2) else none | _, _ => none)) | some (.ex c_ p_ S_) => some (.ex c_ p_ S_) | none => none)) | some (.ex c_ p_ S_) => some (.ex c_ p_ S_) | none => none) := id rfl
@[simp] theorem wE_mkE {c : Nat} {e : IE} : evE E (.mkE c e) ρ S = (match (evE E e ρ S) with | some (.ok _ S1) => some (.ok (.err c "" []) S1) | some (.ex c_ p_ S_) => some (.ex c_ p_ S_) | none => none) := id rfl
@[simp] theorem wE_mkX {c : Nat} {f : Str} {e : IE} : evE E (.mkX c f e) ρ S = (if 2 ≤ E.dp then (match (evE E e ρ S) with | some (.ok x S1) => some (.ok (.err c f [x]) S1) | some (.ex c_ p_ S_) => some (.ex c_ p_ S_) | none => none) else none) := id rfl
@[simp] theorem wE_isx {e : IE} {x : Str} {yes : List Bool} : evE E (.isx e x yes) ρ S = (match (evE E e ρ S) with | some (.ok x S1) => (match x with | .err d _ _ => (match yes[d]? with | some b => some (.ok (.bl b) S1) | none => none) | _ => none) | some (.ex c_ p_ S_) => some (.ex c_ p_ S_) | none => none) := id rfl
@[simp] theorem wE_fld {e : IE} {f : Str} {cs : List Nat} : evE E (.fld e f cs) ρ S = (match (evE E e ρ S) with | some (.ok x S1) => (match x with | .err c f' [y] => if f' = f ∧ cs.contains c = true then some (.ok y S1) else none | _ => none) | some (.ex c_ p_ S_) => some (.ex c_ p_ S_) | none => none) := id rfl
@[simp] theorem wE_repl {e : IE} {y z : Str} : evE E (.repl e y z) ρ S = (match (evE E e ρ S) with | some (.ok x S1) => (strT x fun s => if s.length + (s.length + 1) * z.length ≤ 16777216 then some (.ok (.str (Txt.replace s y z)) S1) else none) | some (.ex c_ p_ S_) => some (.ex c_ p_ S_) | none => none) := id rfl
@[simp] theorem wE_dnew {ki : Bool} : evE E (.dnew ki) ρ S = some (.ok (.box S.length) (S ++ [if ki = true then .dki [] else .dct []])) := id rfl
@[simp] theorem wE_dct {a : IE} : evE E (.dct a) ρ S = (match (evE E a ρ S) with | some (.ok x S1) => (match drf S1 x with | .lst l => (match dMk l [] with | some d => some (.ok (.box S1.length) (S1 ++ [.dct d])) | none => none) | _ => none) | some (.ex c_ p_ S_) => some (.ex c_ p_ S_) | none => none) := id rfl
@[simp] theorem wE_sst {bx : Bool} {a : IE} : evE E (.sst bx a) ρ S = (match (evE E a ρ S) with | some (.ok x S1) => (match drf S1 x with | .lst l => (match intsOf l with | some ns => if ns.length < 64 then some (newL bx (.lst ((sset ns).map .int)) S1) else none | none => none) | _ => none) | some (.ex c_ p_ S_) => some (.ex c_ p_ S_) | none => none) := id rfl
@[simp] theorem wE_pop {o : IE} : evE E (.pop o) ρ S = (match (evE E o ρ S) with | some (.ok x S1) => popT S1 x | some (.ex c_ p_ S_) => some (.ex c_ p_ S_) | none => none) := id rfl
@[simp] theorem wE_lcD {bx : Bool} {own : List Nat} {elt : IE} {tg : Tg} {dv : DV} {src cnd : IE} : evE E (.lcD bx own elt tg dv src cnd) ρ S = (match (evE E src ρ S) with | some (.ok x S1) => (match x with | .box k => (match lkD dv S1 k with | some (l, S2) => (match lcL (lcT E elt tg cnd (wipeR ρ own)) (dItems dv l) [] S2 with | some (ys, S3) => (match unD S3 k with | some S4 => some (newL bx (.lst ys) S4) | none => none) | none => none) | none => none) | _ => none) | some (.ex c_ p_ S_) => some (.ex c_ p_ S_) | none => none) := id rfl
@[simp] theorem wE_dls {bx : Bool} {dv : DV} {a : IE} : evE E (.dls bx dv a) ρ S = (match (evE E a ρ S) with | some (.ok x S1) => (match x with | .box k => (match S1[k]? with | some (.dct l) => (match dv with | .keys => none | dv => some (newL bx (.lst (dItems dv l)) S1)) | _ => none) | _ => none) | some (.ex c_ p_ S_) => some (.ex c_ p_ S_) | none => none) := id rfl
@[simp] theorem wE_dsp {ks : List Str} {es : IE} : evE E (.dsp ks es) ρ S = (match (evE E es ρ S) with | some (.ok x S1) => (match x with | .tup l => if l.length = ks.length ∧ ks.length ≤ 15 then some (.ok (.box S1.length) (S1 ++ [.dki (dspL (ks.zip l) [])])) else none | _ => none) | some (.ex c_ p_ S_) => some (.ex c_ p_ S_) | none => none) := id rfl
@[simp] theorem wE_srt {bx : Bool} {a : IE} : evE E (.srt bx a) ρ S = (match (evE E a ρ S) with | some (.ok x S1) => (match drf S1 x with | .lst l => (match strsOf l with | some zs => if zs.length < 64 then some (newL bx (.lst ((srtS zs).map .str)) S1) else none | none => none) | _ => none) | some (.ex c_ p_ S_) => some (.ex c_ p_ S_) | none => none) := id rfl
/-- one turn of a loop -/
def frT (E : EV) (tg : Tg) (b : IS) : T → Rho → Sto → ResS := fun t ρ S => match bindT tg t ρ with | some ρ' => evS E b ρ' S | none => none
@[simp] theorem wS_skip : evS E .skip ρ S = some (.nx ρ S) := id rfl
@[simp] theorem wS_seq {a b : IS} : evS E (.seq a b) ρ S = (match evS E a ρ S with | some (.nx ρ' S') => evS E b ρ' S' | r => r) := id rfl
@[simp] theorem wS_pass : evS E .pass ρ S = some (.nx ρ S) := id rfl
@[simp] theorem wS_brk : evS E .brk ρ S = some (.bk ρ S) := id rfl
@[simp] theorem wS_cnt : evS E .cnt ρ S = some (.ct ρ S) := id rfl
@[simp] theorem wS_ret {e : IE} : evS E (.ret e) ρ S = (match (evE E e ρ S) with | some (.ok t S') => (some (.rt t S')) | some (.ex c_ p_ S_) => some (.ex c_ p_ ρ S_) | none => none) := id rfl
@[simp] theorem wS_expr {e : IE} : evS E (.expr e) ρ S = (match (evE E e ρ S) with | some (.ok _ S') => (some (.nx ρ S')) | some (.ex c_ p_ S_) => some (.ex c_ p_ ρ S_) | none => none) := id rfl
@[simp] theorem wS_asg {tg : Tg} {e : IE} : evS E (.asg tg e) ρ S = (match (evE E e ρ S) with | some (.ok t S') => ((match bindT tg t ρ with | some ρ' => some (.nx ρ' S') | none => none)) | some (.ex c_ p_ S_) => some (.ex c_ p_ ρ S_) | none => none) := id rfl
@[simp] theorem wS_par2 {i j : Nat} {e : IE} : evS E (.par2 i j e) ρ S = (match (evE E e ρ S) with | some (.ok t S') => ((match t with | .tup [x, y] => some (.nx ((ρ.set i (some x)).set j (some y)) S') | _ => none)) | some (.ex c_ p_ S_) => some (.ex c_ p_ ρ S_) | none => none) := id rfl
@[simp] theorem wS_par3 {i j k : Nat} {e : IE} : evS E (.par3 i j k e) ρ S = (match (evE E e ρ S) with | some (.ok t S') => ((match t with | .tup [x, y, z] => some (.nx (((ρ.set i (some x)).set j (some y)).set k (some z)) S') | _ => none)) | some (.ex c_ p_ S_) => some (.ex c_ p_ ρ S_) | none => none) := id rfl
@[simp] theorem wS_sub {o i e : IE} : evS E (.sub o i e) ρ S = (match (evE E e ρ S) with | some (.ok t S1) => ((match (evE E o ρ S1) with | some (.ok x S2) => ((match (evE E i ρ S2) with | some (.ok y S3) => ((match wSub S3 x y t with | some S4 => some (.nx ρ S4) | none => none)) | some (.ex c_ p_ S_) => some (.ex c_ p_ ρ S_) | none => none)) | some (.ex c_ p_ S_) => some (.ex c_ p_ ρ S_) | none => none)) | some (.ex c_ p_ S_) => some (.ex c_ p_ ρ S_) | none => none) := id rfl
@[simp] theorem wS_app {o e : IE} : evS E (.app o e) ρ S = (match (evE E o ρ S) with | some (.ok x S1) => (if isLst S1 x then (match (evE E e ρ S1) with | some (.ok t S2) => (match wApp S2 x t with | some S3 => some (.nx ρ S3) | none => none) | some (.ex c_ p_ S_) => some (.ex c_ p_ ρ S_) | none => none) else none) | some (.ex c_ p_ S_) => some (.ex c_ p_ ρ S_) | none => none) := id rfl
@[simp] theorem wS_iff {c : IE} {a b : IS} : evS E (.iff c a b) ρ S = (match (evE E c ρ S) with | some (.ok x S1) => ((match truthy S1 x with | some true => evS E a ρ S1 | some false => evS E b ρ S1 | none => none)) | some (.ex c_ p_ S_) => some (.ex c_ p_ ρ S_) | none => none) := id rfl
@[simp] theorem wS_for {tg : Tg} {src : IE} {b : IS} : evS E (.for_ tg src b) ρ S = (match (evE E src ρ S) with | some (.ok x S1) => ((match x with | .tup l => forL (frT E tg b) l ρ S1 | _ => none)) | some (.ex c_ p_ S_) => some (.ex c_ p_ ρ S_) | none => none) := id rfl
@[simp] theorem wS_forB {tg : Tg} {e : IE} {b : IS} : evS E (.forB tg e b) ρ S = (match (evE E e ρ S) with | some (.ok x S1) => ((match x with | .box k => forB (frT E tg b) k E.wf 0 ρ S1 | _ => none)) | some (.ex c_ p_ S_) => some (.ex c_ p_ ρ S_) | none => none) := id rfl
@[simp] theorem wS_ext {o e : IE} : evS E (.ext o e) ρ S = (match (evE E o ρ S) with | some (.ok x S1) => (if isLst S1 x then (match (evE E e ρ S1) with | some (.ok t S2) => (match wExt S2 x t with | some S3 => some (.nx ρ S3) | none => none) | some (.ex c_ p_ S_) => some (.ex c_ p_ ρ S_) | none => none) else none) | some (.ex c_ p_ S_) => some (.ex c_ p_ ρ S_) | none => none) := id rfl
@[simp] theorem wS_forD {dv : DV} {tg : Tg} {e : IE} {b : IS} : evS E (.forD dv tg e b) ρ S = (match (evE E e ρ S) with | some (.ok x S1) => (match x with | .box k => (match lkD dv S1 k with | some (l, S2) => unS k (forL (frT E tg b) (dItems dv l) ρ S2) | none => none) | _ => none) | some (.ex c_ p_ S_) => some (.ex c_ p_ ρ S_) | none => none) := id rfl
@[simp] theorem wS_asgX {ts : List TX} {es : IE} : evS E (.asgX ts es) ρ S = (match (evE E (.tup es) ρ S) with | some (.ok x S1) => (match x with | .tup l => (match stX E ts l ρ S1 with | some (ρ', S') => some (.nx ρ' S') | none => none) | _ => none) | some (.ex c_ p_ S_) => some (.ex c_ p_ ρ S_) | none => none) := id rfl
@[simp] theorem wS_whl {c : IE} {b : IS} : evS E (.whl c b) ρ S = whlL (fun ρ S => evE E c ρ S) (fun ρ S => evS E b ρ S) E.wf ρ S := id rfl
@[simp] theorem wS_rsX {c : Nat} {f : Str} {e : IE} : evS E (.rsX c f e) ρ S = (if 2 ≤ E.dp then (match (evE E e ρ S) with | some (.ok x S1) => (match x with | .int i => some (.ex c (some (.err c f [.int i])) ρ S1) | _ => none) | some (.ex c_ p_ S_) => some (.ex c_ p_ ρ S_) | none => none) else none) := id rfl
@[simp] theorem wS_try {b : IS} {cs : List Nat} {hs : List (Nat × HK)} : evS E (.tryS b cs hs) ρ S = (match evS E b ρ S with | some (.ex c p ρ' S') => if cs.contains c then hnd hs c p ρ' S' else none | r => r) := id rfl
@[simp] theorem wS_rs {c : Nat} : evS E (.rs c) ρ S = some (.ex c none ρ S) := id rfl
end

@[simp] theorem bnd_ok (t : T) (S : Sto) (k : T → Sto → Res) : bnd (some (.ok t S)) k = k t S := id rfl
@[simp] theorem bnd_ex (c : Nat) (p : Option T) (S : Sto) (k : T → Sto → Res) : bnd (some (.ex c p S)) k = some (.ex c p S) := id rfl
@[simp] theorem bndS_ok (t : T) (S : Sto) (ρ : Rho) (k : T → Sto → ResS) : bndS (some (.ok t S)) ρ k = k t S := id rfl
@[simp] theorem bndS_ex (c : Nat) (p : Option T) (S : Sto) (ρ : Rho) (k : T → Sto → ResS) : bndS (some (.ex c p S)) ρ k = some (.ex c p ρ S) := id rfl
@[simp] theorem tups_t (l : List T) (k : List T → Res) : tups (.tup l) k = k l := id rfl
@[simp] theorem strT_t (l : Str) (k : Str → Res) : strT (.str l) k = k l := id rfl
@[simp] theorem lift_f (t : T) (S : Sto) : lift false (some t) S = some (.ok t S) := by cases t <;> rfl
@[simp] theorem lift_tl (l : List T) (S : Sto) : lift true (some (.lst l)) S = some (.ok (.box S.length) (S ++ [.lst l])) := id rfl
@[simp] theorem newL_f (t : T) (S : Sto) : newL false t S = .ok t S := by cases t <;> rfl
@[simp] theorem newL_t (l : List T) (S : Sto) : newL true (.lst l) S = .ok (.box S.length) (S ++ [.lst l]) := id rfl
@[simp] theorem liftB_s (b : Bool) (S : Sto) : liftB (some b) S = some (.ok (.bl b) S) := id rfl
@[simp] theorem drf_non (S : Sto) : drf S .non = .non := id rfl
@[simp] theorem drf_bl (S : Sto) (i : Bool) : drf S (.bl i) = .bl i := id rfl
@[simp] theorem drf_int (S : Sto) (i : Int) : drf S (.int i) = .int i := id rfl
@[simp] theorem drf_str (S : Sto) (i : Str) : drf S (.str i) = .str i := id rfl
@[simp] theorem drf_tup (S : Sto) (i : List T) : drf S (.tup i) = .tup i := id rfl
@[simp] theorem drf_lst (S : Sto) (i : List T) : drf S (.lst i) = .lst i := id rfl
@[simp] theorem drf_scr (S : Sto) (i : List Int) : drf S (.scr i) = .scr i := id rfl
theorem drf_box {S : Sto} {n : Nat} {l : List T} (h : S[n]? = some (.lst l)) : drf S (.box n) = .lst l := by simp [drf, h]
@[simp] theorem tr_non (S : Sto) : truthy S .non = some false := id rfl
@[simp] theorem tr_bl (S : Sto) (i : Bool) : truthy S (.bl i) = some i := id rfl
@[simp] theorem tr_int (S : Sto) (i : Int) : truthy S (.int i) = some (i != 0) := id rfl
@[simp] theorem tr_tup (S : Sto) (i : List T) : truthy S (.tup i) = some (!i.isEmpty) := id rfl
@[simp] theorem tr_lst (S : Sto) (i : List T) : truthy S (.lst i) = some (!i.isEmpty) := id rfl
section
variable (S : Sto) (i j : Int)
@[simp] theorem co_lt : cop S .Lt (.int i) (.int j) = some (decide (i < j)) := id rfl
@[simp] theorem co_le : cop S .LtE (.int i) (.int j) = some (decide (i ≤ j)) := id rfl
@[simp] theorem co_gt : cop S .Gt (.int i) (.int j) = some (decide (j < i)) := id rfl
@[simp] theorem co_ge : cop S .GtE (.int i) (.int j) = some (decide (j ≤ i)) := id rfl
theorem shal_int (i j : Int) : shal (.int i) (.int j) = true := by simp [shal, PyData.depth]
@[simp] theorem co_eq : cop S .Eq (.int i) (.int j) = some (decide (i = j)) := by
  simp only [cop, drf_int, eqT, toD, shal_int, if_true]
  congr 1
@[simp] theorem co_ne : cop S .NotEq (.int i) (.int j) = some (decide (i ≠ j)) := by
  have := co_eq S i j
  simp only [cop] at this ⊢
  rw [this]
  simp
@[simp] theorem bo_add : bop .Add (.int i) (.int j) = some (.int (i + j)) := id rfl
@[simp] theorem bo_sub : bop .Sub (.int i) (.int j) = some (.int (i - j)) := id rfl
@[simp] theorem ne_int : negT (.int i) = some (.int (-i)) := id rfl
@[simp] theorem ne_bl (p : Bool) : negT (.bl p) = some (.int (-(if p = true then (1 : Int) else 0))) := id rfl
@[simp] theorem bl_int : bltT S .int [.int i] = some (.int i) := id rfl
@[simp] theorem bl_abs : bltT S .abs [.int i] = some (.int (if i < 0 then -i else i)) := id rfl
@[simp] theorem bl_max : bltT S .max [.int i, .int j] = some (.int (if j > i then j else i)) := id rfl
@[simp] theorem bl_min : bltT S .min [.int i, .int j] = some (.int (if j < i then j else i)) := id rfl
@[simp] theorem bl_lenT (l : List T) : bltT S .len [.tup l] = some (.int l.length) := id rfl
@[simp] theorem bl_lenL (l : List T) : bltT S .len [.lst l] = some (.int l.length) := id rfl
@[simp] theorem bl_lenR (l : List Int) : bltT S .len [.scr l] = some (.int l.length) := id rfl
@[simp] theorem bl_tupL (l : List T) : bltT S .tuple [.lst l] = some (.tup l) := id rfl
@[simp] theorem bl_tupT (l : List T) : bltT S .tuple [.tup l] = some (.tup l) := id rfl
@[simp] theorem bl_lstL (l : List T) : bltT S .list [.lst l] = some (.lst l) := id rfl
@[simp] theorem bl_lstT (l : List T) : bltT S .list [.tup l] = some (.lst l) := id rfl
@[simp] theorem bl_allL (l : List T) : bltT S .all [.lst l] = (match boolsOf l with | some l => some (.bl (l.all id)) | _ => none) := id rfl
@[simp] theorem ix_tup (l : List T) : ixT S (.tup l) (.int i) = atI l i := id rfl
@[simp] theorem ix_lst (l : List T) : ixT S (.lst l) (.int i) = atI l i := id rfl
@[simp] theorem sl_tup (l : List T) (a b : Option Int) : slT S (.tup l) a b = some (.tup (cutL l a b)) := id rfl
@[simp] theorem sl_lst (l : List T) (a b : Option Int) : slT S (.lst l) a b = some (.lst (cutL l a b)) := id rfl
@[simp] theorem rv_tup (l : List T) : revT S (.tup l) = some (.tup l.reverse) := id rfl
@[simp] theorem rv_lst (l : List T) : revT S (.lst l) = some (.lst l.reverse) := id rfl
@[simp] theorem isNil_nil : isNil .nil = true := id rfl
@[simp] theorem isNil_lit (t : T) : isNil (.lit t) = false := id rfl
@[simp] theorem isNil_var (t : Nat) : isNil (.var t) = false := id rfl
@[simp] theorem isNil_neg (a : IE) : isNil (.neg a) = false := id rfl
@[simp] theorem isNil_op (k : Bool) (o : Operator) (a b : IE) : isNil (.op k o a b) = false := id rfl
@[simp] theorem isNil_ix (a b : IE) : isNil (.ix a b) = false := id rfl
@[simp] theorem part_nil (t : T) : part true t = some none := id rfl
@[simp] theorem part_int : part false (.int i) = some (some i) := id rfl
@[simp] theorem seq_tup (l : List T) : seqT (.tup l) = some l := id rfl
@[simp] theorem seq_lst (l : List T) : seqT (.lst l) = some l := id rfl
end
theorem bl_tupB {S : Sto} {n : Nat} {l : List T} (h : S[n]? = some (.lst l)) : bltT S .tuple [.box n] = some (.tup l) := by simp [bltT, drf, h]
theorem bl_lenB {S : Sto} {n : Nat} {l : List T} (h : S[n]? = some (.lst l)) : bltT S .len [.box n] = some (.int l.length) := by simp [bltT, drf, h]
theorem ix_box {S : Sto} {i : Int} {n : Nat} {l : List T} (h : S[n]? = some (.lst l)) : ixT S (.box n) (.int i) = atI l i := by simp [ixT, drf, h]
theorem bo_mod {i j : Int} (h : 0 < j) : bop .Mod (.int i) (.int j) = some (.int (i % j)) := by simp [bop, h]
theorem bo_mod_s {i : Int} {j : Int} (h : (decide (0 < j)) = true) : bop .Mod (.int i) (.int j) = some (.int (i % j)) := by simp [bop, of_decide_eq_true h]
theorem bo_fdiv {i j : Int} (h : 0 < j) (h2 : j < 1073741824) : bop .FloorDiv (.int i) (.int j) = some (.int (i / j)) := by simp [bop, h, h2]
theorem bo_mulL {i j : Int} (h : small64 i = true) : bop .Mult (.int i) (.int j) = some (.int (i * j)) := by simp [bop, h]
theorem bo_mulR {i j : Int} (h : small64 j = true) : bop .Mult (.int i) (.int j) = some (.int (i * j)) := by simp [bop, h]
theorem bq_addT (a b : List T) : bop .Add (.tup a) (.tup b) = if a.length + b.length ≤ 16777216 then some (.tup (a ++ b)) else none := rfl
theorem bq_addL (a b : List T) : bop .Add (.lst a) (.lst b) = if a.length + b.length ≤ 16777216 then some (.lst (a ++ b)) else none := rfl
theorem bo_addT {a b : List T} (h : a.length + b.length ≤ line) : bop .Add (.tup a) (.tup b) = some (.tup (a ++ b)) := by simp [bop, h]
theorem bo_addL {a b : List T} (h : a.length + b.length ≤ line) : bop .Add (.lst a) (.lst b) = some (.lst (a ++ b)) := by simp [bop, h]
theorem atI_nat {α : Type} {l : List α} {r : Int} (h0 : 0 ≤ r) (h1 : r < l.length) : ∃ t, atI l r = some t ∧ t ∈ l := by
  have hlt : r.toNat < l.length := by omega
  refine ⟨l[r.toNat], ?_, List.getElem_mem hlt⟩
  simp [atI, ixN, h0, h1, List.getElem?_eq_getElem hlt]
@[simp] theorem atI_0 {α : Type} {x : α} {l : List α} : atI (x :: l) 0 = some x := by
  have : (0 : Int) < (l.length : Int) + 1 := by omega
  simp [atI, ixN, this]
@[simp] theorem atI_1 {α : Type} {x y : α} {l : List α} : atI (x :: y :: l) 1 = some y := by
  have : (1 : Int) < (l.length : Int) + 1 + 1 := by omega
  simp [atI, ixN, this]
@[simp] theorem atI_2 {α : Type} {x y z : α} {l : List α} : atI (x :: y :: z :: l) 2 = some z := by
  have : (2 : Int) < (l.length : Int) + 1 + 1 + 1 := by omega
  simp [atI, ixN, this]
theorem atI_k {α : Type} (l : List α) (k : Nat) (h : k < l.length) : atI l (k : Int) = l[k]? := by
  have h1 : (k : Int) < (l.length : Int) := by omega
  simp [atI, ixN, h1]

theorem run_succ0 (P : Prg) (n f : Nat) (ts : List T) (S : Sto) (fd : FD) (h : P.tab f = some fd) (hl : ts.length = fd.np) (hm : fd.md = 0 := by rfl) :
    run P (n + 1) f ts S = fin fd.keep S.length (evS (ev P n) fd.body (init fd ts) S) := by
  rw [run_eq]; simp [body1, h, hl, hm]
theorem run_loc0 (P : Prg) (n f : Nat) (ts : List T) (S : Sto) (fd : FD) (h : P.tab f = some fd) (hl : ts.length = fd.np) (hb : noBxL 0 ts = true) {md : Nat} (hm : fd.md = md + 1 := by rfl) :
    run P (n + 1) f ts S = (match finL (md + 1) (evS (ev P n) fd.body (init fd ts) []) with | some o => locO S o | none => none) := by
  rw [run_eq]; simp [body1, h, hl, hm, hb]; try rfl
/-- calls as they are, and not to be unfolded -/
noncomputable def evO (P : Prg) (n : Nat) : EV := Classical.choose (⟨ev P n, rfl⟩ : ∃ e, e = ev P n)
theorem evO_eq (P : Prg) (n : Nat) : evO P n = ev P n := Classical.choose_spec (⟨ev P n, rfl⟩ : ∃ e, e = ev P n)
noncomputable def runO (P : Prg) (n : Nat) : Nat → List T → Sto → Res := Classical.choose (⟨run P n, rfl⟩ : ∃ e, e = run P n)
theorem runO_eq (P : Prg) (n : Nat) : runO P n = run P n := Classical.choose_spec (⟨run P n, rfl⟩ : ∃ e, e = run P n)
theorem run_succ (P : Prg) (n f : Nat) (ts : List T) (S : Sto) (fd : FD) (h : P.tab f = some fd) (hl : ts.length = fd.np) (hm : fd.md = 0 := by rfl) :
    runO P (n + 1) f ts S = fin fd.keep S.length (evS (evO P n) fd.body (init fd ts) S) := by
  rw [runO_eq, evO_eq]; exact run_succ0 P n f ts S fd h hl hm
/-- a def on a store of its own -/
theorem run_loc (P : Prg) (n f : Nat) (ts : List T) (S : Sto) (fd : FD) (h : P.tab f = some fd) (hl : ts.length = fd.np) (hb : noBxL 0 ts = true) {md : Nat} (hm : fd.md = md + 1 := by rfl) :
    runO P (n + 1) f ts S = (match finL (md + 1) (evS (evO P n) fd.body (init fd ts) []) with | some o => locO S o | none => none) := by
  rw [runO_eq, evO_eq]; exact run_loc0 P n f ts S fd h hl hb hm
@[simp] theorem finL_1 (r : ResS) : finL 1 r = fin false 0 r := id rfl
theorem locO_ok {S S' : Sto} {t : T} (h : noBx 0 t = true) : locO S (.ok t S') = some (.ok t S) := by simp [locO, h]
@[simp] theorem locO_ex {S S' : Sto} {c : Nat} {p : Option T} : locO S (.ex c p S') = some (.ex c p S) := id rfl
/-- what it comes to, its end told -/
theorem run_rt {P : Prg} {n f : Nat} {ts : List T} {S S' : Sto} {fd : FD} {t : T} (h : P.tab f = some fd) (hl : ts.length = fd.np) (hb : noBxL 0 ts = true) (hm : fd.md = 1) (he : evS (evO P n) fd.body (init fd ts) [] = some (.rt t S')) (ht : noBx 0 (thaw 0 t S') = true) : runO P (n + 1) f ts S = some (.ok (thaw 0 t S') S) := by
  rw [run_loc P n f ts S fd h hl hb (md := 0) hm, he]
  show locO S (fin1 0 t S') = _
  unfold fin1
  split
  · rename_i hz
    have : S' = [] := List.eq_nil_of_length_eq_zero (Nat.le_zero.mp hz)
    subst this
    have : thaw 0 t [] = t := by unfold thaw; split <;> simp
    rw [this] at ht ⊢
    exact locO_ok ht
  · split
    · rename_i ob ho
      obtain ⟨n, rfl, _, h2⟩ := ownD_some ho
      exfalso
      have : thaw 0 (.box n) S' = .box n := by
        unfold ownD at ho
        simp only [Nat.zero_le, if_true] at ho
        unfold thaw
        simp only [Nat.zero_le, if_true]
        cases h3 : S'[n]? with
        | none => rfl
        | some ob' => rw [h3] at ho; cases ob' <;> first | rfl | (cases ho; done)
      rw [this] at ht
      simp [noBx] at ht
    · rw [ht]
      simp [locO_ok ht]
theorem run_nx {P : Prg} {n f : Nat} {ts : List T} {S S' : Sto} {ρ : Rho} {fd : FD} (h : P.tab f = some fd) (hl : ts.length = fd.np) (hb : noBxL 0 ts = true) (hm : fd.md = 1) (he : evS (evO P n) fd.body (init fd ts) [] = some (.nx ρ S')) : runO P (n + 1) f ts S = some (.ok .non S) := by
  rw [run_loc P n f ts S fd h hl hb (md := 0) hm, he]
  show locO S (fin1 0 .non S') = _
  unfold fin1
  split
  · exact locO_ok rfl
  · simp [ownD, thaw, noBx]
    exact locO_ok rfl
theorem run_ex {P : Prg} {n f c : Nat} {p : Option T} {ts : List T} {S S' : Sto} {ρ : Rho} {fd : FD} (h : P.tab f = some fd) (hl : ts.length = fd.np) (hb : noBxL 0 ts = true) (hm : fd.md = 1) (he : evS (evO P n) fd.body (init fd ts) [] = some (.ex c p ρ S')) : runO P (n + 1) f ts S = some (.ex c p S) := by
  rw [run_loc P n f ts S fd h hl hb (md := 0) hm, he]
  show locO S (finE 0 c p S') = _
  unfold finE
  split
  · rfl
  · split <;> rfl
@[simp] theorem ev_call (P : Prg) (n : Nat) : (evO P n).call = runO P n := by rw [evO_eq, runO_eq]; rfl
@[simp] theorem ev_callL (P : Prg) (n : Nat) : (evO P (n + 2)).callL = runO P n := by rw [evO_eq, runO_eq]; rfl
@[simp] theorem ev_cv (P : Prg) (n : Nat) : (evO P n).cv = P.cv := by rw [evO_eq]; rfl
@[simp] theorem ev_dp (P : Prg) (n : Nat) : (evO P n).dp = n := by rw [evO_eq]; rfl
@[simp] theorem ev_lam (P : Prg) (n : Nat) : (evO P (n + 2)).lam = P.lam := by rw [evO_eq]; rfl
@[simp] theorem fin_rt (b : Nat) (t : T) (S : Sto) : fin false b (some (.rt t S)) = some (fin1 b t S) := id rfl
@[simp] theorem fin_rtk (b : Nat) (t : T) (S : Sto) : fin true b (some (.rt t S)) = some (.ok t S) := id rfl
@[simp] theorem fin_nx (b : Nat) (ρ : Rho) (S : Sto) : fin false b (some (.nx ρ S)) = some (fin1 b .non S) := id rfl
@[simp] theorem fin_ex (b c : Nat) (p : Option T) (ρ : Rho) (S : Sto) : fin false b (some (.ex c p ρ S)) = some (finE b c p S) := id rfl
theorem fin1_le {b : Nat} {t : T} {S : Sto} (h : S.length ≤ b) : fin1 b t S = .ok t S := by simp [fin1, h]
@[simp] theorem fin1_eq {t : T} {S : Sto} : fin1 S.length t S = .ok t S := fin1_le (Nat.le_refl _)
theorem finE_le {b c : Nat} {p : Option T} {S : Sto} (h : S.length ≤ b) : finE b c p S = .ex c p S := by simp [finE, h]
@[simp] theorem finE_eq {c : Nat} {p : Option T} {S : Sto} : finE S.length c p S = .ex c p S := finE_le (Nat.le_refl _)

theorem seq_nx {E : EV} {a b : IS} {ρ ρ' : Rho} {S S' : Sto} (h : evS E a ρ S = some (.nx ρ' S')) : evS E (.seq a b) ρ S = evS E b ρ' S' := by rw [wS_seq, h]
theorem seq_rt {E : EV} {a b : IS} {ρ : Rho} {S S' : Sto} {t : T} (h : evS E a ρ S = some (.rt t S')) : evS E (.seq a b) ρ S = some (.rt t S') := by rw [wS_seq, h]
theorem seq_ex {E : EV} {a b : IS} {ρ ρ' : Rho} {S S' : Sto} {c : Nat} {p : Option T} (h : evS E a ρ S = some (.ex c p ρ' S')) : evS E (.seq a b) ρ S = some (.ex c p ρ' S') := by rw [wS_seq, h]
theorem for_eq {E : EV} {tg : Tg} {src : IE} {b : IS} {ρ : Rho} {S S1 : Sto} {l : List T} {r : ResS} (h1 : evE E src ρ S = some (.ok (.tup l) S1)) (h2 : forL (frT E tg b) l ρ S1 = r) : evS E (.for_ tg src b) ρ S = r := by rw [wS_for, h1]; exact h2
theorem asg_eq {E : EV} {i : Nat} {e : IE} {ρ : Rho} {S S1 : Sto} {t : T} (h1 : evE E e ρ S = some (.ok t S1)) : evS E (.asg (.nm i) e) ρ S = some (.nx (ρ.set i (some t)) S1) := by rw [wS_asg, h1]; rfl
theorem iff_eq {E : EV} {c : IE} {a b : IS} {ρ : Rho} {S S1 : Sto} {k : Bool} (h1 : evE E c ρ S = some (.ok (.bl k) S1)) : evS E (.iff c a b) ρ S = evS E (if k = true then a else b) ρ S1 := by
  rw [wS_iff, h1]; cases k <;> rfl
theorem ret_eq {E : EV} {e : IE} {ρ : Rho} {S S1 : Sto} {t : T} (h1 : evE E e ρ S = some (.ok t S1)) : evS E (.ret e) ρ S = some (.rt t S1) := by rw [wS_ret, h1]
/-! ### loops -/
@[simp] theorem forL_nil {g : T → Rho → Sto → ResS} {ρ : Rho} {S : Sto} : forL g [] ρ S = some (.nx ρ S) := id rfl
theorem forL_c {g : T → Rho → Sto → ResS} {x : T} {xs : List T} {ρ : Rho} {S : Sto} : forL g (x :: xs) ρ S = (match g x ρ S with
  | some (.nx ρ' S') => forL g xs ρ' S'
  | some (.ct ρ' S') => forL g xs ρ' S'
  | some (.bk ρ' S') => some (.nx ρ' S')
  | r => r) := id rfl
theorem forL_nx {g : T → Rho → Sto → ResS} {x : T} {xs : List T} {ρ ρ' : Rho} {S S' : Sto} (h : g x ρ S = some (.nx ρ' S')) : forL g (x :: xs) ρ S = forL g xs ρ' S' := by rw [forL_c, h]
theorem forL_rt {g : T → Rho → Sto → ResS} {x : T} {xs : List T} {ρ : Rho} {S S' : Sto} {t : T} (h : g x ρ S = some (.rt t S')) : forL g (x :: xs) ρ S = some (.rt t S') := by rw [forL_c, h]
theorem frT_e {E : EV} {tg : Tg} {b : IS} {t : T} {ρ : Rho} {S : Sto} : frT E tg b t ρ S = (match bindT tg t ρ with | some ρ' => evS E b ρ' S | none => none) := id rfl
theorem frT_nm {E : EV} {i : Nat} {b : IS} {t : T} {ρ : Rho} {S : Sto} : frT E (.nm i) b t ρ S = evS E b (ρ.set i (some t)) S := id rfl
theorem seq_one {E : EV} {a : IS} {ρ ρ' : Rho} {S S' : Sto} (h : evS E a ρ S = some (.nx ρ' S')) : evS E (.seq a .skip) ρ S = some (.nx ρ' S') := by rw [wS_seq, h]; rfl
theorem forL_inv {g : T → Rho → Sto → ResS} (I : Rho → Sto → Prop) : ∀ {l : List T}, (∀ x ∈ l, ∀ ρ S, I ρ S → ∃ ρ' S', (g x ρ S = some (.nx ρ' S') ∨ g x ρ S = some (.ct ρ' S')) ∧ I ρ' S') → ∀ {ρ S}, I ρ S → ∃ ρ' S', forL g l ρ S = some (.nx ρ' S') ∧ I ρ' S'
  | [], _, ρ, S, hi => ⟨ρ, S, rfl, hi⟩
  | x :: l, h, ρ, S, hi => by
    obtain ⟨ρ', S', e, hi'⟩ := h x (by simp) ρ S hi
    obtain ⟨ρ2, S2, e2, h2⟩ := forL_inv I (l := l) (fun y hy => h y (List.mem_cons_of_mem _ hy)) hi'
    refine ⟨ρ2, S2, ?_, h2⟩
    rcases e with e | e <;> simp [forL, e, e2]
/-- with the list that is still to come -/
theorem forL_invL {g : T → Rho → Sto → ResS} (I : List T → Rho → Sto → Prop) : ∀ {l : List T}, (∀ x r ρ S, I (x :: r) ρ S → ∃ ρ' S', (g x ρ S = some (.nx ρ' S') ∨ g x ρ S = some (.ct ρ' S')) ∧ I r ρ' S') → ∀ {ρ S}, I l ρ S → ∃ ρ' S', forL g l ρ S = some (.nx ρ' S') ∧ I [] ρ' S'
  | [], _, ρ, S, hi => ⟨ρ, S, rfl, hi⟩
  | x :: l, h, ρ, S, hi => by
    obtain ⟨ρ', S', e, hi'⟩ := h x l ρ S hi
    obtain ⟨ρ2, S2, e2, h2⟩ := forL_invL I h hi'
    refine ⟨ρ2, S2, ?_, h2⟩
    rcases e with e | e <;> simp [forL, e, e2]
/-- what holds behind the items that have been walked -/
theorem forL_pre {α : Type} {g : T → Rho → Sto → ResS} (enc : α → T) (J : List α → Rho → Sto → Prop) (l : List α) (h : ∀ pre a post, l = pre ++ a :: post → ∀ ρ S, J pre ρ S → ∃ ρ' S', (g (enc a) ρ S = some (.nx ρ' S') ∨ g (enc a) ρ S = some (.ct ρ' S')) ∧ J (pre ++ [a]) ρ' S') :
    ∀ {ρ S}, J [] ρ S → ∃ ρ' S', forL g (l.map enc) ρ S = some (.nx ρ' S') ∧ J l ρ' S' := by
  have key : ∀ (r pre : List α), l = pre ++ r → ∀ ρ S, J pre ρ S → ∃ ρ' S', forL g (r.map enc) ρ S = some (.nx ρ' S') ∧ J l ρ' S' := by
    intro r
    induction r with
    | nil => intro pre e ρ S hi; rw [List.append_nil] at e; subst e; exact ⟨ρ, S, rfl, hi⟩
    | cons a r ih =>
      intro pre e ρ S hi
      obtain ⟨ρ', S', e1, hi'⟩ := h pre a r e ρ S hi
      obtain ⟨ρ2, S2, e2, h2⟩ := ih (pre ++ [a]) (by rw [e]; simp) ρ' S' hi'
      refine ⟨ρ2, S2, ?_, h2⟩
      rcases e1 with e1 | e1 <;> simp [forL, e1, e2]
  intro ρ S hi
  exact key l [] rfl ρ S hi
/-- .. with a return on the way -/
theorem forL_preR {α : Type} {g : T → Rho → Sto → ResS} (enc : α → T) (J : List α → Rho → Sto → Prop) (R : List α → T → Sto → Prop) (l : List α) (h : ∀ pre a post, l = pre ++ a :: post → ∀ ρ S, J pre ρ S → (∃ ρ' S', (g (enc a) ρ S = some (.nx ρ' S') ∨ g (enc a) ρ S = some (.ct ρ' S')) ∧ J (pre ++ [a]) ρ' S') ∨ ∃ t S', g (enc a) ρ S = some (.rt t S') ∧ R (pre ++ [a]) t S') :
    ∀ {ρ S}, J [] ρ S → (∃ ρ' S', forL g (l.map enc) ρ S = some (.nx ρ' S') ∧ J l ρ' S') ∨ ∃ pre post t S', l = pre ++ post ∧ forL g (l.map enc) ρ S = some (.rt t S') ∧ R pre t S' := by
  have key : ∀ (r pre : List α), l = pre ++ r → ∀ ρ S, J pre ρ S → (∃ ρ' S', forL g (r.map enc) ρ S = some (.nx ρ' S') ∧ J l ρ' S') ∨ ∃ pre post t S', l = pre ++ post ∧ forL g (r.map enc) ρ S = some (.rt t S') ∧ R pre t S' := by
    intro r
    induction r with
    | nil => intro pre e ρ S hi; rw [List.append_nil] at e; subst e; exact .inl ⟨ρ, S, rfl, hi⟩
    | cons a r ih =>
      intro pre e ρ S hi
      rcases h pre a r e ρ S hi with ⟨ρ', S', e1, hi'⟩ | ⟨t, S', e1, hr⟩
      · rcases ih (pre ++ [a]) (by rw [e]; simp) ρ' S' hi' with ⟨ρ2, S2, e2, h2⟩ | ⟨p2, q2, t, S2, e2, e3, h3⟩
        · refine .inl ⟨ρ2, S2, ?_, h2⟩
          rcases e1 with e1 | e1 <;> simp [forL, e1, e2]
        · refine .inr ⟨p2, q2, t, S2, e2, ?_, h3⟩
          rcases e1 with e1 | e1 <;> simp [forL, e1, e3]
      · exact .inr ⟨pre ++ [a], r, t, S', by rw [e]; simp, by simp [forL, e1], hr⟩
  intro ρ S hi
  exact key l [] rfl ρ S hi
theorem rngT_idx {α : Type} (l : List α) : rngT 0 l.length = l.zipIdx.map fun p => T.int (p.2 : Nat) := by
  have e : l.zipIdx.map (·.2) = List.range l.length := by rw [List.zipIdx_map_snd, List.range_eq_range']
  rw [rngT, ← e, List.map_map]
  refine List.map_congr_left fun p _ => ?_
  simp
theorem zipIdx_pre {α : Type} {l : List α} {pre post : List (α × Nat)} {a : α} {i : Nat} (h : l.zipIdx = pre ++ (a, i) :: post) : i = pre.length ∧ l = pre.map (·.1) ++ a :: post.map (·.1) ∧ l[i]? = some a := by
  have e1 : l = pre.map (·.1) ++ a :: post.map (·.1) := by
    have := congrArg (List.map (·.1)) h
    rw [List.zipIdx_map_fst] at this
    simpa using this
  have e2 : l.zipIdx[pre.length]? = some (a, i) := by rw [h]; simp
  rw [List.getElem?_zipIdx] at e2
  simp only [Option.map_eq_some_iff, Prod.mk.injEq, Nat.zero_add] at e2
  obtain ⟨z, h1, h2, h3⟩ := e2
  subst h2
  exact ⟨h3.symm, e1, by rw [← h3]; exact h1⟩
/-- a comprehension whose turns leave the store -/
theorem lcL_pure {g : T → Sto → Option (Option T × Sto)} {f : T → Option T} {S : Sto} : ∀ {l acc : List T}, (∀ x ∈ l, g x S = some (f x, S)) → acc.length + l.length ≤ line → lcL g l acc S = some (acc ++ l.filterMap f, S)
  | [], acc, _, _ => by simp [lcL]
  | x :: l, acc, h, hl => by
    have hx := h x (by simp)
    simp only [List.length_cons] at hl
    cases hf : f x with
    | some y =>
      rw [hf] at hx
      rw [lcL, hx]
      simp only []
      rw [if_pos (by omega), lcL_pure (fun z hz => h z (by simp [hz])) (by simp; omega)]
      simp [hf]
    | none =>
      rw [hf] at hx
      rw [lcL, hx]
      simp only []
      rw [lcL_pure (fun z hz => h z (by simp [hz])) (by omega)]
      simp [hf]
theorem lcL_enc {α : Type} {g : T → Sto → Option (Option T × Sto)} (enc : α → T) {f : α → Option T} {S : Sto} (l : List α) (h : ∀ a ∈ l, g (enc a) S = some (f a, S)) (hl : l.length ≤ line) : lcL g (l.map enc) [] S = some (l.filterMap f, S) := by
  have key : ∀ (r : List α) (acc : List T), (∀ a ∈ r, g (enc a) S = some (f a, S)) → acc.length + r.length ≤ line → lcL g (r.map enc) acc S = some (acc ++ r.filterMap f, S) := by
    intro r
    induction r with
    | nil => intro acc _ _; simp [lcL]
    | cons a r ih =>
      intro acc h hl
      have hx := h a (by simp)
      simp only [List.length_cons] at hl
      rw [List.map_cons]
      cases hf : f a with
      | some y =>
        rw [hf] at hx
        rw [lcL, hx]
        simp only []
        rw [if_pos (by omega), ih _ (fun z hz => h z (by simp [hz])) (by simp; omega)]
        simp [hf]
      | none =>
        rw [hf] at hx
        rw [lcL, hx]
        simp only []
        rw [ih _ (fun z hz => h z (by simp [hz])) (by omega)]
        simp [hf]
  have := key l [] h (by simpa using hl)
  simpa using this
theorem lcL_encM {α : Type} {g : T → Sto → Option (Option T × Sto)} (enc f : α → T) {S : Sto} (l : List α) (h : ∀ a ∈ l, g (enc a) S = some (some (f a), S)) (hl : l.length ≤ line) : lcL g (l.map enc) [] S = some (l.map f, S) := by
  rw [lcL_enc enc (f := fun a => some (f a)) l h hl, List.filterMap_eq_map']
theorem lcL_encF {α : Type} {g : T → Sto → Option (Option T × Sto)} (enc : α → T) (p : α → Bool) {S : Sto} (l : List α) (h : ∀ a ∈ l, g (enc a) S = some (if p a = true then some (enc a) else none, S)) (hl : l.length ≤ line) : lcL g (l.map enc) [] S = some ((l.filter p).map enc, S) := by
  rw [lcL_enc enc (f := fun a => if p a = true then some (enc a) else none) l h hl]
  congr 2
  clear h hl
  induction l with
  | nil => rfl
  | cons a l ih =>
    by_cases q : p a = true
    · simp [q, ih]
    · simp [q, ih]
/-- a comprehension whose turns keep a law of the store -/
theorem lcL_inv {g : T → Sto → Option (Option T × Sto)} (I : Sto → Prop) (P : T → Prop) : ∀ {l acc : List T}, (∀ x ∈ l, ∀ S, I S → ∃ o S', g x S = some (o, S') ∧ I S' ∧ ∀ y, o = some y → P y) → acc.length + l.length ≤ line → (∀ y ∈ acc, P y) → ∀ {S}, I S →
    ∃ ys S', lcL g l acc S = some (ys, S') ∧ I S' ∧ (∀ y ∈ ys, P y) ∧ ys.length ≤ acc.length + l.length
  | [], acc, _, _, ha, S, hi => ⟨acc, S, rfl, hi, ha, by simp⟩
  | x :: l, acc, h, hl, ha, S, hi => by
    obtain ⟨o, S', e, hi', hp⟩ := h x (by simp) S hi
    simp only [List.length_cons] at hl
    cases o with
    | some y =>
      obtain ⟨ys, S2, e2, h1, h2, h3⟩ := lcL_inv I P (l := l) (acc := acc ++ [y]) (fun z hz => h z (by simp [hz])) (by simp; omega) (by
        intro z hz
        rcases List.mem_append.mp hz with hz | hz
        · exact ha z hz
        · rw [List.mem_singleton.mp hz]; exact hp y rfl) hi'
      refine ⟨ys, S2, ?_, h1, h2, by simp at h3 ⊢; omega⟩
      rw [lcL, e]
      simp only []
      rw [if_pos (by omega), e2]
    | none =>
      obtain ⟨ys, S2, e2, h1, h2, h3⟩ := lcL_inv I P (l := l) (acc := acc) (fun z hz => h z (by simp [hz])) (by omega) ha hi'
      refine ⟨ys, S2, ?_, h1, h2, by simp at h3 ⊢; omega⟩
      rw [lcL, e]
      simp only []
      rw [e2]
@[simp] theorem rngT_len (lo : Int) (n : Nat) : (rngT lo n).length = n := by simp [rngT]
theorem rngT_mem {lo : Int} {n : Nat} {t : T} (h : t ∈ rngT lo n) : ∃ k : Nat, k < n ∧ t = .int (lo + k) := by
  simp only [rngT, List.mem_map, List.mem_range] at h
  obtain ⟨k, h1, rfl⟩ := h
  exact ⟨k, h1, rfl⟩

theorem rg1_eq {E : EV} {a : IE} {ρ : Rho} {S S1 : Sto} {k : Nat} (h : evE E a ρ S = some (.ok (.int (k : Nat)) S1)) (hk : k ≤ 1000000) : evE E (.rg1 a) ρ S = some (.ok (.tup (rngT 0 k)) S1) := by
  have hok : okR (k : Int) = true := by simp [okR]; omega
  rw [wE_rg1, h]
  simp only [hok, if_true, Int.toNat_natCast]
theorem len_eq {E : EV} {i : Nat} {ρ : Rho} {S : Sto} {l : List T} (h : ρ[i]? = some (some (.tup l))) : evE E (.blt false .len (.cons (.var i) .nil)) ρ S = some (.ok (.int (l.length : Nat)) S) := by
  simp [h]
/-! ### the tun -/
def Tn (S : Sto) (k : Nat) : Prop := ∃ a b : Int, S[k]? = some (.lst [.int a, .int b]) ∧ 0 ≤ a ∧ 0 ≤ b ∧ b < 2147477807
/-- the store after some draws -/
def Tw (k : Nat) (S S' : Sto) : Prop := k < S.length ∧ ∃ a b : Int, S' = S.set k (.lst [.int a, .int b]) ∧ 0 ≤ a ∧ 0 ≤ b ∧ b < 2147477807
theorem Tw.len {k : Nat} {S S' : Sto} (h : Tw k S S') : S'.length = S.length := by
  obtain ⟨_, a, b, rfl, _⟩ := h; simp
theorem Tw.tn {k : Nat} {S S' : Sto} (h : Tw k S S') : Tn S' k := by
  obtain ⟨h0, a, b, rfl, h⟩ := h; exact ⟨a, b, by simp [h0], h⟩
theorem Tw.trans {k : Nat} {S S' S2 : Sto} (h : Tw k S S') (h2 : Tw k S' S2) : Tw k S S2 := by
  obtain ⟨h0, a, b, rfl, h⟩ := h
  obtain ⟨_, a2, b2, rfl, h2⟩ := h2
  exact ⟨h0, a2, b2, by simp, h2⟩
theorem Tn.lt {k : Nat} {S : Sto} (h : Tn S k) : k < S.length := by
  obtain ⟨a, b, h, _⟩ := h; exact (List.getElem?_eq_some_iff.mp h).1
theorem Tn.tw {k : Nat} {S : Sto} (h : Tn S k) : Tw k S S := by
  obtain ⟨a, b, h, h2⟩ := h
  refine ⟨(List.getElem?_eq_some_iff.mp h).1, a, b, ?_, h2⟩
  obtain ⟨q, e⟩ := List.getElem?_eq_some_iff.mp h
  rw [← e]; simp
theorem Tw.other {k j : Nat} {S S' : Sto} (h : Tw k S S') (hj : j ≠ k) : S'[j]? = S[j]? := by
  obtain ⟨_, a, b, rfl, _⟩ := h
  rw [List.getElem?_set_ne (Ne.symm hj)]

/-! ### what a def leaves of the store -/
mutual
theorem noBx_up {b : Nat} : ∀ {t : T}, noBx 0 t = true → noBx b t = true
  | .box n, h => by simp [noBx] at h
  | .tup l, h => by simp only [noBx] at h ⊢; exact noBxL_up h
  | .lst l, h => by simp only [noBx] at h ⊢; exact noBxL_up h
  | .err _ _ l, h => by simp only [noBx] at h ⊢; exact noBxL_up h
  | .non, _ => rfl
  | .bl _, _ => rfl
  | .int _, _ => rfl
  | .str _, _ => rfl
  | .fn _, _ => rfl
  | .scr _, _ => rfl
theorem noBxL_up {b : Nat} : ∀ {l : List T}, noBxL 0 l = true → noBxL b l = true
  | [], _ => rfl
  | t :: l, h => by
    simp only [noBxL, Bool.and_eq_true] at h ⊢
    exact ⟨noBx_up h.1, noBxL_up h.2⟩
end
theorem noBxL_iff {b : Nat} : ∀ {l : List T}, noBxL b l = true ↔ ∀ t ∈ l, noBx b t = true
  | [] => by simp [noBxL]
  | t :: l => by simp [noBxL, noBxL_iff (l := l)]
theorem noBxD_up {b : Nat} : ∀ {l : List (T × T)}, noBxD 0 l = true → noBxD b l = true
  | [], _ => rfl
  | p :: l, h => by
    simp only [noBxD, Bool.and_eq_true] at h ⊢
    exact ⟨⟨noBx_up h.1.1, noBx_up h.1.2⟩, noBxD_up h.2⟩
theorem noBxO_up {b : Nat} {ob : Ob} (h : noBxO 0 ob = true) : noBxO b ob = true := by
  cases ob with
  | lst l => exact noBxL_up h
  | dct l => exact noBxD_up h
  | dfz l => exact noBxD_up h
  | dki l => exact noBxD_up h
  | dkf l => exact noBxD_up h
  | ins _ _ => exact h
/-- no boxes in the store's objects -/
def Cl (S : Sto) : Prop := ∀ ob ∈ S, noBxO 0 ob = true
theorem Cl.all {S : Sto} (h : Cl S) (b : Nat) : S.all (noBxO b) = true := List.all_eq_true.mpr fun ob ho => noBxO_up (h ob ho)
theorem Cl.tw {k : Nat} {S S' : Sto} (h : Cl S) (w : Tw k S S') : Cl S' := by
  obtain ⟨_, a, b, rfl, _⟩ := w
  intro ob ho
  rcases List.mem_or_eq_of_mem_set ho with ho | rfl
  · exact h ob ho
  · rfl
theorem Cl.app {S : Sto} (h : Cl S) {l : List T} (hl : noBxL 0 l = true) : Cl (S ++ [.lst l]) := by
  intro ob ho
  rcases List.mem_append.mp ho with ho | ho
  · exact h ob ho
  · rw [List.mem_singleton.mp ho]; exact hl
theorem thaw_no {b : Nat} {t : T} {S : Sto} (h : noBx 0 t = true) : thaw b t S = t := by
  cases t <;> first | rfl | simp [noBx] at h
theorem ownD_no {b : Nat} {t : T} {S : Sto} (h : noBx 0 t = true) : ownD b t S = none := by
  cases t <;> first | rfl | simp [noBx] at h
theorem fin1_cut {S X : Sto} {t : T} {b : Nat} (hb : S.length = b) (ht : noBx 0 t = true) (h : Cl S) : fin1 b t (S ++ X) = .ok t S := by
  subst hb
  unfold fin1
  split
  · rename_i q
    have : X = [] := List.eq_nil_of_length_eq_zero (by rw [List.length_append] at q; omega)
    subst this; simp
  · rw [thaw_no ht, noBx_up ht, ownD_no ht]
    simp [h.all]
theorem finE_cut {S X : Sto} {c : Nat} {p : Option T} {b : Nat} (hb : S.length = b) (h : Cl S) : finE b c p (S ++ X) = .ex c p S := by
  subst hb
  unfold finE
  split
  · rename_i q
    have : X = [] := List.eq_nil_of_length_eq_zero (by rw [List.length_append] at q; omega)
    subst this; simp
  · simp [h.all]
/-- a list of this def's own, handed out -/
theorem fin1_thaw {S X : Sto} {l : List T} {b n : Nat} (hb : S.length = b) (hn : b ≤ n) (hx : (S ++ X)[n]? = some (.lst l)) (ht : noBxL 0 l = true) (h : Cl S) : fin1 b (.box n) (S ++ X) = .ok (.lst l) S := by
  subst hb
  unfold fin1
  split
  · rename_i q
    have : X = [] := List.eq_nil_of_length_eq_zero (by rw [List.length_append] at q; omega)
    subst this
    have := (List.getElem?_eq_some_iff.mp hx).1
    simp at this; omega
  · have e : thaw S.length (.box n) (S ++ X) = .lst l := by simp only [thaw]; rw [if_pos hn, hx]
    have eo : ownD S.length (.box n) (S ++ X) = none := by simp only [ownD]; rw [if_pos hn, hx]
    rw [e, eo]
    simp [h.all, noBx, noBxL_up ht]
theorem Tn.app {k : Nat} {S : Sto} (h : Tn S k) (X : Sto) : Tn (S ++ X) k := by
  obtain ⟨a, b, h, h2⟩ := h
  exact ⟨a, b, by rw [List.getElem?_append_left (List.getElem?_eq_some_iff.mp h).1]; exact h, h2⟩
theorem Tw.app {k : Nat} {S X S' : Sto} (hk : k < S.length) (h : Tw k (S ++ X) S') : ∃ S1, S' = S1 ++ X ∧ Tw k S S1 := by
  obtain ⟨_, a, b, rfl, h⟩ := h
  exact ⟨S.set k (.lst [.int a, .int b]), by rw [List.set_append_left _ _ hk], hk, a, b, rfl, h⟩
end Fw

namespace Fw
open PySem L2 PyProof.Rows

/-! ### the evaluator by the bare recursors -/
noncomputable def evR (E : EV) (e : IE) : Rho → Sto → Res := IE.rec (motive := fun _ => Rho → Sto → Res)
  (lit := (fun v _ S => some (.ok v S)))
  (var := (fun i ρ S => (match ρ[i]? with | some (some t) => some (.ok t S) | _ => none)))
  (cst := (fun c _ S => some (.ok (E.cv c) S)))
  (nil := (fun _ S => some (.ok (.tup []) S)))
  (cons := (fun a b ih_a ih_b ρ S => bnd (ih_a ρ S) fun x S1 => bnd (ih_b ρ S1) fun y S2 => tups y fun l => some (.ok (.tup (x :: l)) S2)))
  (tup := (fun es ih_es ρ S => bnd (ih_es ρ S) fun x S1 => tups x fun l => if l.length ≤ line then some (.ok (.tup l) S1) else none))
  (lst := (fun bx es ih_es ρ S => bnd (ih_es ρ S) fun x S1 => tups x fun l => if l.length ≤ line then some (newL bx (.lst l) S1) else none))
  (op := (fun bx o a b ih_a ih_b ρ S => bnd (ih_a ρ S) fun x S1 => bnd (ih_b ρ S1) fun y S2 => lift bx (bop o (drf S2 x) (drf S2 y)) S2))
  (cmp := (fun o a b ih_a ih_b ρ S => bnd (ih_a ρ S) fun x S1 => bnd (ih_b ρ S1) fun y S2 => liftB (cop S2 o x y) S2))
  (chn := (fun o o' a b c ih_a ih_b ih_c ρ S => bnd (ih_a ρ S) fun x S1 => bnd (ih_b ρ S1) fun y S2 => (match cop S2 o x y with
    | some true => bnd (ih_c ρ S2) fun z S3 => liftB (cop S3 o' y z) S3
    | some false => some (.ok (.bl false) S2)
    | none => none)))
  (neg := (fun a ih_a ρ S => bnd (ih_a ρ S) fun x S1 => (match negT x with | some t => some (.ok t S1) | none => none)))
  (not := (fun a ih_a ρ S => bnd (ih_a ρ S) fun x S1 => (match truthy S1 x with | some b => some (.ok (.bl (!b)) S1) | none => none)))
  (and := (fun a b ih_a ih_b ρ S => bnd (ih_a ρ S) fun x S1 => (match truthy S1 x with | some true => ih_b ρ S1 | some false => some (.ok x S1) | none => none)))
  (or := (fun a b ih_a ih_b ρ S => bnd (ih_a ρ S) fun x S1 => (match truthy S1 x with | some true => some (.ok x S1) | some false => ih_b ρ S1 | none => none)))
  (ite := (fun c a b ih_c ih_a ih_b ρ S => bnd (ih_c ρ S) fun x S1 => (match truthy S1 x with | some true => ih_a ρ S1 | some false => ih_b ρ S1 | none => none)))
  (ix := (fun a b ih_a ih_b ρ S => bnd (ih_a ρ S) fun x S1 => bnd (ih_b ρ S1) fun y S2 => lift false (ixT S2 x y) S2))
  (sl := (fun bx a lo hi ih_a ih_lo ih_hi ρ S => bnd (ih_a ρ S) fun x S1 => bnd (ih_lo ρ S1) fun l S2 => (match part (isNil lo) l with
    | some i => bnd (ih_hi ρ S2) fun h S3 => (match part (isNil hi) h with
      | some j => lift bx (slT S3 x i j) S3
      | none => none)
    | none => none)))
  (rev := (fun bx a ih_a ρ S => bnd (ih_a ρ S) fun x S1 => lift bx (revT S1 x) S1))
  (call := (fun f es ih_es ρ S => bnd (ih_es ρ S) fun x S1 => tups x fun l => E.call f l S1))
  (callL := (fun f es ih_es ρ S => bnd (ih_es ρ S) fun x S1 => tups x fun l => E.callL f l S1))
  (callv := (fun i es ih_es ρ S => (match ρ[i]? with | some (some (.fn f)) => (match ih_es ρ S with | some (.ok (.tup l) S1) => E.call f l S1 | _ => none) | _ => none)))
  (callvL := (fun i es ih_es ρ S => (match ρ[i]? with | some (some (.fn f)) => (match ih_es ρ S with | some (.ok (.tup l) S1) => E.callL f l S1 | _ => none) | _ => none)))
  (blt := (fun bx b es ih_es ρ S => bnd (ih_es ρ S) fun x S1 => tups x fun l => lift bx (bltT S1 b l) S1))
  (isi := (fun a ty ih_a ρ S => bnd (ih_a ρ S) fun x S1 => liftB (isiT S1 x ty) S1))
  (mt0 := (fun m o ih_o ρ S => bnd (ih_o ρ S) fun x S1 => lift false (mt0T m x) S1))
  (mt1 := (fun m o e ih_o ih_e ρ S => bnd (ih_o ρ S) fun x S1 => strT x fun a => bnd (ih_e ρ S1) fun y S2 => lift false (mt1T S2 m a y) S2))
  (lc := (fun bx own elt tg src cnd ih_elt ih_src ih_cnd ρ S => bnd (ih_src ρ S) fun x S1 => tups x fun l =>
      match lcL (fun t S => match bindT tg t (wipeR ρ own) with
        | some ρ' => (match ih_cnd ρ' S with
          | some (.ok c S') => (match truthy S' c with
            | some true => (match ih_elt ρ' S' with | some (.ok y S'') => some (some y, S'') | _ => none)
            | some false => some (none, S')
            | none => none)
          | _ => none)
        | none => none) l [] S1 with
      | some (ys, S2) => some (newL bx (.lst ys) S2)
      | none => none))
  (sq := (fun a ih_a ρ S => bnd (ih_a ρ S) fun x S1 => (match seqT x with | some l => some (.ok (.tup l) S1) | none => none)))
  (sqS := (fun a ih_a ρ S => bnd (ih_a ρ S) fun x S1 => strT x fun z => some (.ok (.tup (sgT z)) S1)))
  (rg1 := (fun a ih_a ρ S => bnd (ih_a ρ S) fun x S1 => (match x with | .int j => if okR j then some (.ok (.tup (rngT 0 j.toNat)) S1) else none | _ => none)))
  (rg2 := (fun a b ih_a ih_b ρ S => bnd (ih_a ρ S) fun x S1 => bnd (ih_b ρ S1) fun y S2 => (match x, y with
    | .int i, .int j => if okR i && okR j then some (.ok (.tup (rngT i (j - i).toNat)) S2) else none
    | _, _ => none)))
  (zp := (fun a b ih_a ih_b ρ S => bnd (ih_a ρ S) fun x S1 => bnd (ih_b ρ S1) fun y S2 => (match x, y with
    | .tup xs, .tup ys => some (.ok (.tup (zipT xs ys)) S2)
    | .lst xs, .lst ys => some (.ok (.tup (zipT xs ys)) S2)
    | _, _ => none)))
  (en := (fun a ih_a ρ S => bnd (ih_a ρ S) fun x S1 => (match x with | .lst l => some (.ok (.tup (enuT 0 l)) S1) | .tup l => some (.ok (.tup (enuT 0 l)) S1) | _ => none)))
  (lam := (fun f e ih_e ρ S => (match E.lam f with
    | some (hs, r) => (match ih_e ρ S with
      | some (.ok _ S') => some (.ok r S')
      | some (.ex c _ S') => (match pick c hs with | some t => some (.ok t S') | none => none)
      | none => none)
    | none => none)))
  (lrg := (fun bx a b ih_a ih_b ρ S => bnd (ih_a ρ S) fun x S1 => bnd (ih_b ρ S1) fun y S2 => (match x, y with
    | .int i, .int j => if okR i && okR j && decide ((j - i).toNat ≤ line) then some (newL bx (.lst (rngT i (j - i).toNat)) S2) else none
    | _, _ => none)))
  (mkE := (fun c e ih_e ρ S => bnd (ih_e ρ S) fun _ S1 => some (.ok (.err c "" []) S1)))
  (mkX := (fun c f e ih_e ρ S => if 2 ≤ E.dp then bnd (ih_e ρ S) fun x S1 => some (.ok (.err c f [x]) S1) else none))
  (isx := (fun e _ yes ih_e ρ S => bnd (ih_e ρ S) fun x S1 => (match x with | .err d _ _ => (match yes[d]? with | some b => some (.ok (.bl b) S1) | none => none) | _ => none)))
  (fld := (fun e f cs ih_e ρ S => bnd (ih_e ρ S) fun x S1 => (match x with | .err c f' [y] => if f' = f ∧ cs.contains c = true then some (.ok y S1) else none | _ => none)))
  (repl := (fun e y z ih_e ρ S => bnd (ih_e ρ S) fun x S1 => strT x fun s => if s.length + (s.length + 1) * z.length ≤ 16777216 then some (.ok (.str (Txt.replace s y z)) S1) else none))
  (dnew := (fun ki _ S => some (.ok (.box S.length) (S ++ [if ki = true then .dki [] else .dct []]))))
  (dct := (fun a ih_a ρ S => bnd (ih_a ρ S) fun x S1 => (match drf S1 x with
    | .lst l => (match dMk l [] with | some d => some (.ok (.box S1.length) (S1 ++ [.dct d])) | none => none)
    | _ => none)))
  (pop := (fun o ih_o ρ S => bnd (ih_o ρ S) fun x S1 => popT S1 x))
  (sst := (fun bx a ih_a ρ S => bnd (ih_a ρ S) fun x S1 => (match drf S1 x with
    | .lst l => (match intsOf l with
      | some ns => if ns.length < 64 then some (newL bx (.lst ((sset ns).map .int)) S1) else none
      | none => none)
    | _ => none)))
  (lcB := (fun bx own elt tg src cnd ih_elt ih_src ih_cnd ρ S => bnd (ih_src ρ S) fun x S1 => (match x with
    | .box k => (match lcBL (fun t S => match bindT tg t (wipeR ρ own) with
        | some ρ' => (match ih_cnd ρ' S with
          | some (.ok c S') => (match truthy S' c with
            | some true => (match ih_elt ρ' S' with | some (.ok y S'') => some (some y, S'') | _ => none)
            | some false => some (none, S')
            | none => none)
          | _ => none)
        | none => none) k E.wf 0 [] S1 with
      | some (ys, S2) => some (newL bx (.lst ys) S2)
      | none => none)
    | _ => none)))
  (lcD := (fun bx own elt tg dv src cnd ih_elt ih_src ih_cnd ρ S => bnd (ih_src ρ S) fun x S1 => (match x with
    | .box k => (match lkD dv S1 k with
      | some (l, S2) => (match lcL (fun t S => match bindT tg t (wipeR ρ own) with
        | some ρ' => (match ih_cnd ρ' S with
          | some (.ok c S') => (match truthy S' c with
            | some true => (match ih_elt ρ' S' with | some (.ok y S'') => some (some y, S'') | _ => none)
            | some false => some (none, S')
            | none => none)
          | _ => none)
        | none => none) (dItems dv l) [] S2 with
        | some (ys, S3) => (match unD S3 k with | some S4 => some (newL bx (.lst ys) S4) | none => none)
        | none => none)
      | none => none)
    | _ => none)))
  (dls := (fun bx dv a ih_a ρ S => bnd (ih_a ρ S) fun x S1 => (match x with
    | .box k => (match S1[k]? with
      | some (.dct l) => (match dv with | .keys => none | dv => some (newL bx (.lst (dItems dv l)) S1))
      | _ => none)
    | _ => none)))
  (dsp := (fun ks es ih_es ρ S => bnd (ih_es ρ S) fun x S1 => (match x with
    | .tup l => if l.length = ks.length ∧ ks.length ≤ 15 then some (.ok (.box S1.length) (S1 ++ [.dki (dspL (ks.zip l) [])])) else none
    | _ => none)))
  (srt := (fun bx a ih_a ρ S => bnd (ih_a ρ S) fun x S1 => (match drf S1 x with
    | .lst l => (match strsOf l with
      | some zs => if zs.length < 64 then some (newL bx (.lst ((srtS zs).map .str)) S1) else none
      | none => none)
    | _ => none)))
  (call0 := (fun f _ S => E.call f [] S))
  e
theorem evR_eq (E : EV) : ∀ e, evR E e = evE E e := by
  intro e
  induction e with
  | lit v => rfl
  | var i => rfl
  | cst c => rfl
  | nil  => rfl
  | cons a b ih_a ih_b =>
    show (fun (ρ : Rho) (S : Sto) => (bnd (evR E a ρ S) fun x S1 => bnd (evR E b ρ S1) fun y S2 => tups y fun l => some (.ok (.tup (x :: l)) S2) : Res)) = _
    simp only [ih_a, ih_b]
    rfl
  | tup es ih_es =>
    show (fun (ρ : Rho) (S : Sto) => (bnd (evR E es ρ S) fun x S1 => tups x fun l => if l.length ≤ line then some (.ok (.tup l) S1) else none : Res)) = _
    simp only [ih_es]
    rfl
  | lst bx es ih_es =>
    show (fun (ρ : Rho) (S : Sto) => (bnd (evR E es ρ S) fun x S1 => tups x fun l => if l.length ≤ line then some (newL bx (.lst l) S1) else none : Res)) = _
    simp only [ih_es]
    rfl
  | op bx o a b ih_a ih_b =>
    show (fun (ρ : Rho) (S : Sto) => (bnd (evR E a ρ S) fun x S1 => bnd (evR E b ρ S1) fun y S2 => lift bx (bop o (drf S2 x) (drf S2 y)) S2 : Res)) = _
    simp only [ih_a, ih_b]
    rfl
  | cmp o a b ih_a ih_b =>
    show (fun (ρ : Rho) (S : Sto) => (bnd (evR E a ρ S) fun x S1 => bnd (evR E b ρ S1) fun y S2 => liftB (cop S2 o x y) S2 : Res)) = _
    simp only [ih_a, ih_b]
    rfl
  | chn o o' a b c ih_a ih_b ih_c =>
    show (fun (ρ : Rho) (S : Sto) => (bnd (evR E a ρ S) fun x S1 => bnd (evR E b ρ S1) fun y S2 => (match cop S2 o x y with
    | some true => bnd (evR E c ρ S2) fun z S3 => liftB (cop S3 o' y z) S3
    | some false => some (.ok (.bl false) S2)
    | none => none) : Res)) = _
    simp only [ih_a, ih_b, ih_c]
    rfl
  | neg a ih_a =>
    show (fun (ρ : Rho) (S : Sto) => (bnd (evR E a ρ S) fun x S1 => (match negT x with | some t => some (.ok t S1) | none => none) : Res)) = _
    simp only [ih_a]
    rfl
  | not a ih_a =>
    show (fun (ρ : Rho) (S : Sto) => (bnd (evR E a ρ S) fun x S1 => (match truthy S1 x with | some b => some (.ok (.bl (!b)) S1) | none => none) : Res)) = _
    simp only [ih_a]
    rfl
  | and a b ih_a ih_b =>
    show (fun (ρ : Rho) (S : Sto) => (bnd (evR E a ρ S) fun x S1 => (match truthy S1 x with | some true => evR E b ρ S1 | some false => some (.ok x S1) | none => none) : Res)) = _
    simp only [ih_a, ih_b]
    rfl
  | or a b ih_a ih_b =>
    show (fun (ρ : Rho) (S : Sto) => (bnd (evR E a ρ S) fun x S1 => (match truthy S1 x with | some true => some (.ok x S1) | some false => evR E b ρ S1 | none => none) : Res)) = _
    simp only [ih_a, ih_b]
    rfl
  | ite c a b ih_c ih_a ih_b =>
    show (fun (ρ : Rho) (S : Sto) => (bnd (evR E c ρ S) fun x S1 => (match truthy S1 x with | some true => evR E a ρ S1 | some false => evR E b ρ S1 | none => none) : Res)) = _
    simp only [ih_c, ih_a, ih_b]
    rfl
  | ix a b ih_a ih_b =>
    show (fun (ρ : Rho) (S : Sto) => (bnd (evR E a ρ S) fun x S1 => bnd (evR E b ρ S1) fun y S2 => lift false (ixT S2 x y) S2 : Res)) = _
    simp only [ih_a, ih_b]
    rfl
  | sl bx a lo hi ih_a ih_lo ih_hi =>
    show (fun (ρ : Rho) (S : Sto) => (bnd (evR E a ρ S) fun x S1 => bnd (evR E lo ρ S1) fun l S2 => (match part (isNil lo) l with
    | some i => bnd (evR E hi ρ S2) fun h S3 => (match part (isNil hi) h with
      | some j => lift bx (slT S3 x i j) S3
      | none => none)
    | none => none) : Res)) = _
    simp only [ih_a, ih_lo, ih_hi]
    rfl
  | rev bx a ih_a =>
    show (fun (ρ : Rho) (S : Sto) => (bnd (evR E a ρ S) fun x S1 => lift bx (revT S1 x) S1 : Res)) = _
    simp only [ih_a]
    rfl
  | call f es ih_es =>
    show (fun (ρ : Rho) (S : Sto) => (bnd (evR E es ρ S) fun x S1 => tups x fun l => E.call f l S1 : Res)) = _
    simp only [ih_es]
    rfl
  | call0 f => rfl
  | callL f es ih_es =>
    show (fun (ρ : Rho) (S : Sto) => (bnd (evR E es ρ S) fun x S1 => tups x fun l => E.callL f l S1 : Res)) = _
    simp only [ih_es]
    rfl
  | callv i es ih_es =>
    show (fun (ρ : Rho) (S : Sto) => ((match ρ[i]? with | some (some (.fn f)) => (match evR E es ρ S with | some (.ok (.tup l) S1) => E.call f l S1 | _ => none) | _ => none) : Res)) = _
    simp only [ih_es]
    rfl
  | callvL i es ih_es =>
    show (fun (ρ : Rho) (S : Sto) => ((match ρ[i]? with | some (some (.fn f)) => (match evR E es ρ S with | some (.ok (.tup l) S1) => E.callL f l S1 | _ => none) | _ => none) : Res)) = _
    simp only [ih_es]
    rfl
  | blt bx b es ih_es =>
    show (fun (ρ : Rho) (S : Sto) => (bnd (evR E es ρ S) fun x S1 => tups x fun l => lift bx (bltT S1 b l) S1 : Res)) = _
    simp only [ih_es]
    rfl
  | isi a ty ih_a =>
    show (fun (ρ : Rho) (S : Sto) => (bnd (evR E a ρ S) fun x S1 => liftB (isiT S1 x ty) S1 : Res)) = _
    simp only [ih_a]
    rfl
  | mt0 m o ih_o =>
    show (fun (ρ : Rho) (S : Sto) => (bnd (evR E o ρ S) fun x S1 => lift false (mt0T m x) S1 : Res)) = _
    simp only [ih_o]
    rfl
  | mt1 m o e ih_o ih_e =>
    show (fun (ρ : Rho) (S : Sto) => (bnd (evR E o ρ S) fun x S1 => strT x fun a => bnd (evR E e ρ S1) fun y S2 => lift false (mt1T S2 m a y) S2 : Res)) = _
    simp only [ih_o, ih_e]
    rfl
  | lc bx own elt tg src cnd ih_elt ih_src ih_cnd =>
    show (fun (ρ : Rho) (S : Sto) => (bnd (evR E src ρ S) fun x S1 => tups x fun l =>
      match lcL (fun t S => match bindT tg t (wipeR ρ own) with
        | some ρ' => (match evR E cnd ρ' S with
          | some (.ok c S') => (match truthy S' c with
            | some true => (match evR E elt ρ' S' with | some (.ok y S'') => some (some y, S'') | _ => none)
            | some false => some (none, S')
            | none => none)
          | _ => none)
        | none => none) l [] S1 with
      | some (ys, S2) => some (newL bx (.lst ys) S2)
      | none => none : Res)) = _
    simp only [ih_elt, ih_src, ih_cnd]
    rfl
  | lcB bx own elt tg src cnd ih_elt ih_src ih_cnd =>
    show (fun (ρ : Rho) (S : Sto) => (bnd (evR E src ρ S) fun x S1 => (match x with
    | .box k => (match lcBL (fun t S => match bindT tg t (wipeR ρ own) with
        | some ρ' => (match evR E cnd ρ' S with
          | some (.ok c S') => (match truthy S' c with
            | some true => (match evR E elt ρ' S' with | some (.ok y S'') => some (some y, S'') | _ => none)
            | some false => some (none, S')
            | none => none)
          | _ => none)
        | none => none) k E.wf 0 [] S1 with
      | some (ys, S2) => some (newL bx (.lst ys) S2)
      | none => none)
    | _ => none) : Res)) = _
    simp only [ih_elt, ih_src, ih_cnd]
    rfl
  | lcD bx own elt tg dv src cnd ih_elt ih_src ih_cnd =>
    show (fun (ρ : Rho) (S : Sto) => (bnd (evR E src ρ S) fun x S1 => (match x with
    | .box k => (match lkD dv S1 k with
      | some (l, S2) => (match lcL (fun t S => match bindT tg t (wipeR ρ own) with
        | some ρ' => (match evR E cnd ρ' S with
          | some (.ok c S') => (match truthy S' c with
            | some true => (match evR E elt ρ' S' with | some (.ok y S'') => some (some y, S'') | _ => none)
            | some false => some (none, S')
            | none => none)
          | _ => none)
        | none => none) (dItems dv l) [] S2 with
        | some (ys, S3) => (match unD S3 k with | some S4 => some (newL bx (.lst ys) S4) | none => none)
        | none => none)
      | none => none)
    | _ => none) : Res)) = _
    simp only [ih_elt, ih_src, ih_cnd]
    rfl
  | dls bx dv a ih_a =>
    show (fun (ρ : Rho) (S : Sto) => (bnd (evR E a ρ S) fun x S1 => (match x with
    | .box k => (match S1[k]? with
      | some (.dct l) => (match dv with | .keys => none | dv => some (newL bx (.lst (dItems dv l)) S1))
      | _ => none)
    | _ => none) : Res)) = _
    simp only [ih_a]
    rfl
  | dsp ks es ih_es =>
    show (fun (ρ : Rho) (S : Sto) => (bnd (evR E es ρ S) fun x S1 => (match x with
    | .tup l => if l.length = ks.length ∧ ks.length ≤ 15 then some (.ok (.box S1.length) (S1 ++ [.dki (dspL (ks.zip l) [])])) else none
    | _ => none) : Res)) = _
    simp only [ih_es]
    rfl
  | srt bx a ih_a =>
    show (fun (ρ : Rho) (S : Sto) => (bnd (evR E a ρ S) fun x S1 => (match drf S1 x with
    | .lst l => (match strsOf l with
      | some zs => if zs.length < 64 then some (newL bx (.lst ((srtS zs).map .str)) S1) else none
      | none => none)
    | _ => none) : Res)) = _
    simp only [ih_a]
    rfl
  | sq a ih_a =>
    show (fun (ρ : Rho) (S : Sto) => (bnd (evR E a ρ S) fun x S1 => (match seqT x with | some l => some (.ok (.tup l) S1) | none => none) : Res)) = _
    simp only [ih_a]
    rfl
  | sqS a ih_a =>
    show (fun (ρ : Rho) (S : Sto) => (bnd (evR E a ρ S) fun x S1 => strT x fun z => some (.ok (.tup (sgT z)) S1) : Res)) = _
    simp only [ih_a]
    rfl
  | rg1 a ih_a =>
    show (fun (ρ : Rho) (S : Sto) => (bnd (evR E a ρ S) fun x S1 => (match x with | .int j => if okR j then some (.ok (.tup (rngT 0 j.toNat)) S1) else none | _ => none) : Res)) = _
    simp only [ih_a]
    rfl
  | rg2 a b ih_a ih_b =>
    show (fun (ρ : Rho) (S : Sto) => (bnd (evR E a ρ S) fun x S1 => bnd (evR E b ρ S1) fun y S2 => (match x, y with
    | .int i, .int j => if okR i && okR j then some (.ok (.tup (rngT i (j - i).toNat)) S2) else none
    | _, _ => none) : Res)) = _
    simp only [ih_a, ih_b]
    rfl
  | zp a b ih_a ih_b =>
    show (fun (ρ : Rho) (S : Sto) => (bnd (evR E a ρ S) fun x S1 => bnd (evR E b ρ S1) fun y S2 => (match x, y with
    | .tup xs, .tup ys => some (.ok (.tup (zipT xs ys)) S2)
    | .lst xs, .lst ys => some (.ok (.tup (zipT xs ys)) S2)
    | _, _ => none) : Res)) = _
    simp only [ih_a, ih_b]
    rfl
  | en a ih_a =>
    show (fun (ρ : Rho) (S : Sto) => (bnd (evR E a ρ S) fun x S1 => (match x with | .lst l => some (.ok (.tup (enuT 0 l)) S1) | .tup l => some (.ok (.tup (enuT 0 l)) S1) | _ => none) : Res)) = _
    simp only [ih_a]
    rfl
  | lrg bx a b ih_a ih_b =>
    show (fun (ρ : Rho) (S : Sto) => (bnd (evR E a ρ S) fun x S1 => bnd (evR E b ρ S1) fun y S2 => (match x, y with
    | .int i, .int j => if okR i && okR j && decide ((j - i).toNat ≤ line) then some (newL bx (.lst (rngT i (j - i).toNat)) S2) else none
    | _, _ => none) : Res)) = _
    simp only [ih_a, ih_b]
    rfl
  | mkE c e ih_e =>
    show (fun (ρ : Rho) (S : Sto) => (bnd (evR E e ρ S) fun _ S1 => some (.ok (.err c "" []) S1) : Res)) = _
    simp only [ih_e]
    rfl
  | mkX c f e ih_e =>
    show (fun (ρ : Rho) (S : Sto) => (if 2 ≤ E.dp then bnd (evR E e ρ S) fun x S1 => some (.ok (.err c f [x]) S1) else none : Res)) = _
    simp only [ih_e]
    rfl
  | isx e _ yes ih_e =>
    show (fun (ρ : Rho) (S : Sto) => (bnd (evR E e ρ S) fun x S1 => (match x with | .err d _ _ => (match yes[d]? with | some b => some (.ok (.bl b) S1) | none => none) | _ => none) : Res)) = _
    simp only [ih_e]
    rfl
  | fld e f cs ih_e =>
    show (fun (ρ : Rho) (S : Sto) => (bnd (evR E e ρ S) fun x S1 => (match x with | .err c f' [y] => if f' = f ∧ cs.contains c = true then some (.ok y S1) else none | _ => none) : Res)) = _
    simp only [ih_e]
    rfl
  | repl e y z ih_e =>
    show (fun (ρ : Rho) (S : Sto) => (bnd (evR E e ρ S) fun x S1 => strT x fun s => if s.length + (s.length + 1) * z.length ≤ 16777216 then some (.ok (.str (Txt.replace s y z)) S1) else none : Res)) = _
    simp only [ih_e]
    rfl
  | dnew ki => rfl
  | dct a ih_a =>
    show (fun (ρ : Rho) (S : Sto) => (bnd (evR E a ρ S) fun x S1 => (match drf S1 x with
    | .lst l => (match dMk l [] with | some d => some (.ok (.box S1.length) (S1 ++ [.dct d])) | none => none)
    | _ => none) : Res)) = _
    simp only [ih_a]
    rfl
  | sst bx a ih_a =>
    show (fun (ρ : Rho) (S : Sto) => (bnd (evR E a ρ S) fun x S1 => (match drf S1 x with
    | .lst l => (match intsOf l with
      | some ns => if ns.length < 64 then some (newL bx (.lst ((sset ns).map .int)) S1) else none
      | none => none)
    | _ => none) : Res)) = _
    simp only [ih_a]
    rfl
  | pop o ih_o =>
    show (fun (ρ : Rho) (S : Sto) => (bnd (evR E o ρ S) fun x S1 => popT S1 x : Res)) = _
    simp only [ih_o]
    rfl
  | lam f e ih_e =>
    show (fun (ρ : Rho) (S : Sto) => ((match E.lam f with
    | some (hs, r) => (match evR E e ρ S with
      | some (.ok _ S') => some (.ok r S')
      | some (.ex c _ S') => (match pick c hs with | some t => some (.ok t S') | none => none)
      | none => none)
    | none => none) : Res)) = _
    simp only [ih_e]
    rfl
noncomputable def evQ (E : EV) (e : IS) : Rho → Sto → ResS := IS.rec (motive := fun _ => Rho → Sto → ResS)
  (skip := (fun ρ S => some (.nx ρ S)))
  (seq := (fun a b ih_a ih_b ρ S => (match ih_a ρ S with
    | some (.nx ρ' S') => ih_b ρ' S'
    | r => r)))
  (pass := (fun ρ S => some (.nx ρ S)))
  (brk := (fun ρ S => some (.bk ρ S)))
  (cnt := (fun ρ S => some (.ct ρ S)))
  (ret := (fun e ρ S => bndS (evR E e ρ S) ρ fun t S' => some (.rt t S')))
  (expr := (fun e ρ S => bndS (evR E e ρ S) ρ fun _ S' => some (.nx ρ S')))
  (asg := (fun tg e ρ S => bndS (evR E e ρ S) ρ fun t S' => (match bindT tg t ρ with | some ρ' => some (.nx ρ' S') | none => none)))
  (par2 := (fun i j e ρ S => bndS (evR E e ρ S) ρ fun t S' => (match t with | .tup [x, y] => some (.nx ((ρ.set i (some x)).set j (some y)) S') | _ => none)))
  (par3 := (fun i j k e ρ S => bndS (evR E e ρ S) ρ fun t S' => (match t with | .tup [x, y, z] => some (.nx (((ρ.set i (some x)).set j (some y)).set k (some z)) S') | _ => none)))
  (sub := (fun o i e ρ S => bndS (evR E e ρ S) ρ fun t S1 => bndS (evR E o ρ S1) ρ fun x S2 => bndS (evR E i ρ S2) ρ fun y S3 =>
      (match wSub S3 x y t with | some S4 => some (.nx ρ S4) | none => none)))
  (app := (fun o e ρ S => bndS (evR E o ρ S) ρ fun x S1 => if isLst S1 x then bndS (evR E e ρ S1) ρ fun t S2 =>
      (match wApp S2 x t with | some S3 => some (.nx ρ S3) | none => none) else none))
  (iff := (fun c a b ih_a ih_b ρ S => bndS (evR E c ρ S) ρ fun x S1 => (match truthy S1 x with
    | some true => ih_a ρ S1
    | some false => ih_b ρ S1
    | none => none)))
  (for_ := (fun tg src b ih_b ρ S => bndS (evR E src ρ S) ρ fun x S1 => (match x with
    | .tup l => forL (fun t ρ S => match bindT tg t ρ with | some ρ' => ih_b ρ' S | none => none) l ρ S1
    | _ => none)))
  (forB := (fun tg e b ih_b ρ S => bndS (evR E e ρ S) ρ fun x S1 => (match x with
    | .box k => forB (fun t ρ S => match bindT tg t ρ with | some ρ' => ih_b ρ' S | none => none) k E.wf 0 ρ S1
    | _ => none)))
  (whl := (fun c b ih_b ρ S => whlL (fun ρ S => evR E c ρ S) (fun ρ S => ih_b ρ S) E.wf ρ S))
  (rs := (fun c ρ S => some (.ex c none ρ S)))
  (rsX := (fun c f e ρ S => if 2 ≤ E.dp then bndS (evR E e ρ S) ρ fun x S1 => (match x with | .int i => some (.ex c (some (.err c f [.int i])) ρ S1) | _ => none) else none))
  (tryS := (fun b cs hs ih_b ρ S => (match ih_b ρ S with
    | some (.ex c p ρ' S') => if cs.contains c then hnd hs c p ρ' S' else none
    | r => r)))
  (ext := (fun o e ρ S => bndS (evR E o ρ S) ρ fun x S1 => if isLst S1 x then bndS (evR E e ρ S1) ρ fun t S2 =>
      (match wExt S2 x t with | some S3 => some (.nx ρ S3) | none => none) else none))
  (forD := (fun dv tg e b ih_b ρ S => bndS (evR E e ρ S) ρ fun x S1 => (match x with
    | .box k => (match lkD dv S1 k with
      | some (l, S2) => unS k (forL (fun t ρ S => match bindT tg t ρ with | some ρ' => ih_b ρ' S | none => none) (dItems dv l) ρ S2)
      | none => none)
    | _ => none)))
  (asgX := (fun ts es ρ S => bndS (evR E (.tup es) ρ S) ρ fun x S1 => (match x with
    | .tup l => (match stX E ts l ρ S1 with | some (ρ', S') => some (.nx ρ' S') | none => none)
    | _ => none)))
  e
theorem evQ_eq (E : EV) : ∀ e, evQ E e = evS E e := by
  intro e
  induction e with
  | skip  => rfl
  | seq a b ih_a ih_b =>
    show (fun (ρ : Rho) (S : Sto) => ((match evQ E a ρ S with
    | some (.nx ρ' S') => evQ E b ρ' S'
    | r => r) : ResS)) = _
    simp only [ih_a, ih_b]
    rfl
  | pass  => rfl
  | brk  => rfl
  | cnt  => rfl
  | ret e =>
    show (fun (ρ : Rho) (S : Sto) => (bndS (evR E e ρ S) ρ fun t S' => some (.rt t S') : ResS)) = _
    simp only [evR_eq]
    rfl
  | expr e =>
    show (fun (ρ : Rho) (S : Sto) => (bndS (evR E e ρ S) ρ fun _ S' => some (.nx ρ S') : ResS)) = _
    simp only [evR_eq]
    rfl
  | asg tg e =>
    show (fun (ρ : Rho) (S : Sto) => (bndS (evR E e ρ S) ρ fun t S' => (match bindT tg t ρ with | some ρ' => some (.nx ρ' S') | none => none) : ResS)) = _
    simp only [evR_eq]
    rfl
  | par2 i j e =>
    show (fun (ρ : Rho) (S : Sto) => (bndS (evR E e ρ S) ρ fun t S' => (match t with | .tup [x, y] => some (.nx ((ρ.set i (some x)).set j (some y)) S') | _ => none) : ResS)) = _
    simp only [evR_eq]
    rfl
  | par3 i j k e =>
    show (fun (ρ : Rho) (S : Sto) => (bndS (evR E e ρ S) ρ fun t S' => (match t with | .tup [x, y, z] => some (.nx (((ρ.set i (some x)).set j (some y)).set k (some z)) S') | _ => none) : ResS)) = _
    simp only [evR_eq]
    rfl
  | sub o i e =>
    show (fun (ρ : Rho) (S : Sto) => (bndS (evR E e ρ S) ρ fun t S1 => bndS (evR E o ρ S1) ρ fun x S2 => bndS (evR E i ρ S2) ρ fun y S3 =>
      (match wSub S3 x y t with | some S4 => some (.nx ρ S4) | none => none) : ResS)) = _
    simp only [evR_eq]
    rfl
  | app o e =>
    show (fun (ρ : Rho) (S : Sto) => (bndS (evR E o ρ S) ρ fun x S1 => if isLst S1 x then bndS (evR E e ρ S1) ρ fun t S2 =>
      (match wApp S2 x t with | some S3 => some (.nx ρ S3) | none => none) else none : ResS)) = _
    simp only [evR_eq]
    rfl
  | iff c a b ih_a ih_b =>
    show (fun (ρ : Rho) (S : Sto) => (bndS (evR E c ρ S) ρ fun x S1 => (match truthy S1 x with
    | some true => evQ E a ρ S1
    | some false => evQ E b ρ S1
    | none => none) : ResS)) = _
    simp only [ih_a, ih_b, evR_eq]
    rfl
  | for_ tg src b ih_b =>
    show (fun (ρ : Rho) (S : Sto) => (bndS (evR E src ρ S) ρ fun x S1 => (match x with
    | .tup l => forL (fun t ρ S => match bindT tg t ρ with | some ρ' => evQ E b ρ' S | none => none) l ρ S1
    | _ => none) : ResS)) = _
    simp only [ih_b, evR_eq]
    rfl
  | forB tg e b ih_b =>
    show (fun (ρ : Rho) (S : Sto) => (bndS (evR E e ρ S) ρ fun x S1 => (match x with
    | .box k => forB (fun t ρ S => match bindT tg t ρ with | some ρ' => evQ E b ρ' S | none => none) k E.wf 0 ρ S1
    | _ => none) : ResS)) = _
    simp only [ih_b, evR_eq]
    rfl
  | forD dv tg e b ih_b =>
    show (fun (ρ : Rho) (S : Sto) => (bndS (evR E e ρ S) ρ fun x S1 => (match x with
    | .box k => (match lkD dv S1 k with
      | some (l, S2) => unS k (forL (fun t ρ S => match bindT tg t ρ with | some ρ' => evQ E b ρ' S | none => none) (dItems dv l) ρ S2)
      | none => none)
    | _ => none) : ResS)) = _
    simp only [ih_b, evR_eq]
    rfl
  | asgX ts es =>
    funext ρ S
    show bndS (evR E (.tup es) ρ S) ρ _ = bndS (evE E (.tup es) ρ S) ρ _
    rw [evR_eq]
    try rfl
  | whl c b ih_b =>
    show (fun (ρ : Rho) (S : Sto) => (whlL (fun ρ S => evR E c ρ S) (fun ρ S => evQ E b ρ S) E.wf ρ S : ResS)) = _
    simp only [ih_b, evR_eq]
    rfl
  | rs c => rfl
  | rsX c f e =>
    show (fun (ρ : Rho) (S : Sto) => (if 2 ≤ E.dp then bndS (evR E e ρ S) ρ fun x S1 => (match x with | .int i => some (.ex c (some (.err c f [.int i])) ρ S1) | _ => none) else none : ResS)) = _
    simp only [evR_eq]
    rfl
  | tryS b cs hs ih_b =>
    show (fun (ρ : Rho) (S : Sto) => ((match evQ E b ρ S with
    | some (.ex c p ρ' S') => if cs.contains c then hnd hs c p ρ' S' else none
    | r => r) : ResS)) = _
    simp only [ih_b]
    rfl
  | ext o e =>
    show (fun (ρ : Rho) (S : Sto) => (bndS (evR E o ρ S) ρ fun x S1 => if isLst S1 x then bndS (evR E e ρ S1) ρ fun t S2 =>
      (match wExt S2 x t with | some S3 => some (.nx ρ S3) | none => none) else none : ResS)) = _
    simp only [evR_eq]
    rfl
noncomputable def bodyR (P : Prg) (E : EV) (f : Nat) (ts : List T) (S : Sto) : Res := match P.tab f with
  | some fd => if ts.length == fd.np then (if fd.md == 0 then fin fd.keep S.length (evQ E fd.body (init fd ts) S)
    else if noBxL 0 ts then (match finL fd.md (evQ E fd.body (init fd ts) []) with | some o => locO S o | none => none) else none) else none
  | none => none
theorem bodyR_eq (P : Prg) (E : EV) : bodyR P E = body1 P E := by
  funext f ts S
  unfold bodyR body1
  simp only [evQ_eq]
  try rfl
/-- a call by the bare recursors, n deep at most, with those one and two less deep -/
noncomputable def runR3 (P : Prg) (n : Nat) : (Nat → List T → Sto → Res) × (Nat → List T → Sto → Res) × (Nat → List T → Sto → Res) :=
  Nat.rec (motive := fun _ => (Nat → List T → Sto → Res) × (Nat → List T → Sto → Res) × (Nat → List T → Sto → Res)) (nilC, nilC, nilC) (fun n ih => (bodyR P ⟨ih.1, ih.2.2, P.cv, lam2 P n, P.wf, n⟩, ih.1, ih.2.1)) n
noncomputable def runR (P : Prg) (n : Nat) : Nat → List T → Sto → Res := (runR3 P n).1
def run1 (P : Prg) : Nat → Nat → List T → Sto → Res
  | 0 => nilC
  | n + 1 => run P n
theorem runR3_eq (P : Prg) : ∀ n, runR3 P n = (run P n, run1 P n, run2 P n)
  | 0 => rfl
  | n + 1 => by
    have ih := runR3_eq P n
    show (bodyR P ⟨(runR3 P n).1, (runR3 P n).2.2, P.cv, lam2 P n, P.wf, n⟩, (runR3 P n).1, (runR3 P n).2.1) = _
    rw [ih, bodyR_eq, run_eq]
    cases n <;> rfl
theorem runR_eq (P : Prg) (n : Nat) : runR P n = run P n := by
  unfold runR
  rw [runR3_eq]
end Fw

namespace Fw
open PySem L2 PyProof.Rows
/-! ## the text of this law, by places -/
def top (i : Nat) : Stmt := PySem.Challenge.pw_fencewatch_k10_whole_depths_by_what_was.main.body.getD i (.Pass ⟨0, 0, 0, 0⟩)
def fd_is_from : FD := ⟨3, 3, false, (.seq (.ret (.and (.isi (.var 0) "int") (.and (.not (.isi (.var 0) "bool")) (.chn .LtE .LtE (.var 1) (.var 0) (.var 2))))) .skip), 0⟩
def fd_is_good_watcher : FD := ⟨1, 4, false, (.seq (.iff (.or (.not (.isi (.var 0) "tuple")) (.cmp .NotEq (.blt false .len (.cons (.var 0) .nil)) (.lit (.int 7)))) (.seq (.ret (.lit (.bl false))) .skip) .skip) (.seq (.iff (.or (.not (.blt false .all (.cons (.lc false [3] (.call 0 (.cons (.var 3) (.cons (.neg (.op false .Pow (.lit (.int 10)) (.lit (.int 30)))) (.cons (.op false .Pow (.lit (.int 10)) (.lit (.int 30))) .nil)))) (.nm 3) (.sq (.sl false (.var 0) .nil (.lit (.int 2)))) (.lit (.bl true))) .nil))) (.cmp .Gt (.ix (.var 0) (.lit (.int 0))) (.ix (.var 0) (.lit (.int 1))))) (.seq (.ret (.lit (.bl false))) .skip) .skip) (.seq (.iff (.not (.blt false .all (.cons (.lc false [1] (.call 0 (.cons (.var 1) (.cons (.lit (.int 0)) (.cons (.lit (.int 3)) .nil)))) (.nm 1) (.sq (.sl false (.var 0) (.lit (.int 2)) (.lit (.int 4)))) (.lit (.bl true))) .nil))) (.seq (.ret (.lit (.bl false))) .skip) .skip) (.seq (.iff (.not (.blt false .all (.cons (.lc false [2] (.call 0 (.cons (.var 2) (.cons (.lit (.int 1)) (.cons (.lit (.int 3)) .nil)))) (.nm 2) (.sq (.sl false (.var 0) (.lit (.int 4)) (.lit (.int 6)))) (.lit (.bl true))) .nil))) (.seq (.ret (.lit (.bl false))) .skip) .skip) (.seq (.ret (.and (.isi (.ix (.var 0) (.lit (.int 6))) "str") (.cmp .In (.ix (.var 0) (.lit (.int 6))) (.tup (.cons (.lit (.str (Str.ofString "keep"))) (.cons (.lit (.str (Str.ofString "drop"))) .nil)))))) .skip))))), 0⟩
def fd_is_good_world : FD := ⟨1, 2, false, (.seq (.iff (.or (.not (.isi (.var 0) "tuple")) (.cmp .NotEq (.blt false .len (.cons (.var 0) .nil)) (.lit (.int 3)))) (.seq (.ret (.lit (.bl false))) .skip) .skip) (.seq (.ret (.and (.blt false .all (.cons (.lc false [1] (.call 0 (.cons (.var 1) (.cons (.lit (.int 0)) (.cons (.lit (.int 3)) .nil)))) (.nm 1) (.sq (.sl false (.var 0) .nil (.lit (.int 2)))) (.lit (.bl true))) .nil)) (.call 0 (.cons (.ix (.var 0) (.lit (.int 2))) (.cons (.lit (.int 0)) (.cons (.lit (.int 2)) .nil)))))) .skip)), 0⟩
def fd_half_of : FD := ⟨1, 1, false, (.seq (.ret (.op false .FloorDiv (.op false .Sub (.ix (.var 0) (.lit (.int 1))) (.ix (.var 0) (.lit (.int 0)))) (.lit (.int 2)))) .skip), 1⟩
def fd_stepped : FD := ⟨3, 5, false, (.seq (.asg (.tp (.cn (.nm 3) (.cn (.nm 4) .nl))) (.var 1)) (.seq (.iff (.cmp .Eq (.var 2) (.lit (.str (Str.ofString "lost")))) (.seq (.ret (.tup (.cons (.ite (.cmp .Eq (.ix (.var 0) (.lit (.int 6))) (.lit (.str (Str.ofString "keep")))) (.tup (.cons (.var 3) (.cons (.var 4) .nil))) (.tup (.cons (.var 3) (.cons (.lit (.int 0)) .nil)))) (.cons (.lit .non) .nil)))) .skip) .skip) (.seq (.iff (.cmp .NotEq (.var 2) (.ite (.var 3) (.lit (.str (Str.ofString "out"))) (.lit (.str (Str.ofString "in"))))) (.seq (.ret (.tup (.cons (.tup (.cons (.var 3) (.cons (.lit (.int 0)) .nil))) (.cons (.lit .non) .nil)))) .skip) .skip) (.seq (.iff (.cmp .Lt (.op false .Add (.var 4) (.lit (.int 1))) (.ix (.var 0) (.ite (.var 3) (.lit (.int 5)) (.lit (.int 4))))) (.seq (.ret (.tup (.cons (.tup (.cons (.var 3) (.cons (.op false .Add (.var 4) (.lit (.int 1))) .nil))) (.cons (.lit .non) .nil)))) .skip) .skip) (.seq (.ret (.tup (.cons (.tup (.cons (.not (.var 3)) (.cons (.lit (.int 0)) .nil))) (.cons (.ite (.var 3) (.lit (.str (Str.ofString "gone"))) (.lit (.str (Str.ofString "come")))) .nil)))) .skip))))), 0⟩
def fd_need_watcher : FD := ⟨1, 1, false, (.seq (.iff (.not (.call 1 (.cons (.var 0) .nil))) (.seq (.rs 1) .skip) .skip) .skip), 0⟩
def fd_need_world : FD := ⟨1, 1, false, (.seq (.iff (.not (.call 2 (.cons (.var 0) .nil))) (.seq (.rs 2) .skip) .skip) .skip), 0⟩
def fd_bounds : FD := ⟨3, 4, false, (.seq (.asg (.nm 3) (.blt false .min (.cons (.call 3 (.cons (.var 0) .nil)) (.cons (.blt false .max (.cons (.op false .Add (.ix (.var 0) (.lit (.int 2))) (.ix (.var 1) (.lit (.int 1)))) (.cons (.var 2) .nil))) .nil)))) (.seq (.ret (.tup (.cons (.op false .Sub (.lit (.int 0)) (.blt false .max (.cons (.op false .Add (.op false .Add (.ix (.var 0) (.lit (.int 3))) (.ix (.var 1) (.lit (.int 1)))) (.lit (.int 1))) (.cons (.var 2) .nil)))) (.cons (.var 3) .nil)))) .skip)), 1⟩
def fd_words_at : FD := ⟨4, 7, false, (.seq (.par2 5 6 (.cons (.op false .Sub (.var 2) (.ix (.var 1) (.lit (.int 1)))) (.cons (.blt false .min (.cons (.op false .Add (.var 2) (.ix (.var 1) (.lit (.int 1)))) (.cons (.call 3 (.cons (.var 0) .nil)) .nil))) .nil))) (.seq (.asg (.nm 4) (.ite (.cmp .GtE (.var 6) (.ix (.var 0) (.lit (.int 2)))) (.lst false (.cons (.lit (.str (Str.ofString "in"))) .nil)) (.lst false .nil))) (.seq (.asg (.nm 4) (.op false .Add (.var 4) (.ite (.cmp .Lt (.var 5) (.op false .Sub (.lit (.int 0)) (.ix (.var 0) (.lit (.int 3))))) (.lst false (.cons (.lit (.str (Str.ofString "out"))) .nil)) (.lst false .nil)))) (.seq (.asg (.nm 4) (.op false .Add (.var 4) (.ite (.cmp .LtE (.blt false .max (.cons (.var 5) (.cons (.op false .Sub (.lit (.int 0)) (.ix (.var 0) (.lit (.int 3)))) .nil))) (.blt false .min (.cons (.var 6) (.cons (.op false .Sub (.ix (.var 0) (.lit (.int 2))) (.lit (.int 1))) .nil)))) (.lst false (.cons (.lit (.str (Str.ofString "edge"))) .nil)) (.lst false .nil)))) (.seq (.ret (.op false .Add (.var 4) (.ite (.cmp .Lt (.var 3) (.ix (.var 1) (.lit (.int 2)))) (.lst false (.cons (.lit (.str (Str.ofString "lost"))) .nil)) (.lst false .nil)))) .skip))))), 1⟩
def fd_looked : FD := ⟨5, 9, false, (.seq (.asg (.nm 5) (.lst false .nil)) (.seq (.for_ (.nm 6) (.sq (.call 8 (.cons (.var 0) (.cons (.var 1) (.cons (.var 4) (.cons (.var 3) .nil)))))) (.seq (.asg (.tp (.cn (.nm 7) (.cn (.nm 8) .nl))) (.call 4 (.cons (.var 0) (.cons (.var 2) (.cons (.var 6) .nil))))) (.seq (.asg (.nm 5) (.op false .Add (.var 5) (.lst false (.cons (.tup (.cons (.tup (.cons (.var 4) (.cons (.var 7) (.cons (.ite (.cmp .Eq (.var 6) (.lit (.str (Str.ofString "lost")))) (.op false .Add (.var 3) (.lit (.int 1))) (.lit (.int 0))) .nil)))) (.cons (.var 6) (.cons (.var 8) .nil)))) .nil)))) .skip))) (.seq (.ret (.var 5)) .skip))), 1⟩
def fd_firsts : FD := ⟨3, 7, false, (.seq (.asg (.tp (.cn (.nm 5) (.cn (.nm 6) .nl))) (.call 7 (.cons (.var 0) (.cons (.var 1) (.cons (.var 2) .nil))))) (.seq (.asg (.nm 3) (.lst false .nil)) (.seq (.for_ (.nm 4) (.rg2 (.var 5) (.op false .Add (.var 6) (.lit (.int 1)))) (.seq (.asg (.nm 3) (.op false .Add (.var 3) (.call 9 (.cons (.var 0) (.cons (.var 1) (.cons (.tup (.cons (.lit (.bl false)) (.cons (.lit (.int 0)) .nil))) (.cons (.lit (.int 0)) (.cons (.var 4) .nil)))))))) .skip)) (.seq (.ret (.var 3)) .skip)))), 1⟩
def fd_nexts : FD := ⟨4, 8, false, (.seq (.asg (.tp (.cn (.nm 6) (.cn (.nm 7) .nl))) (.call 7 (.cons (.var 0) (.cons (.var 1) (.cons (.var 2) .nil))))) (.seq (.asg (.nm 4) (.lst false .nil)) (.seq (.for_ (.nm 5) (.rg2 (.blt false .max (.cons (.var 6) (.cons (.op false .Sub (.ix (.var 3) (.lit (.int 0))) (.ix (.var 1) (.lit (.int 0)))) .nil))) (.op false .Add (.blt false .min (.cons (.var 7) (.cons (.op false .Add (.ix (.var 3) (.lit (.int 0))) (.ix (.var 1) (.lit (.int 0)))) .nil))) (.lit (.int 1)))) (.seq (.asg (.nm 4) (.op false .Add (.var 4) (.call 9 (.cons (.var 0) (.cons (.var 1) (.cons (.ix (.var 3) (.lit (.int 1))) (.cons (.ix (.var 3) (.lit (.int 2))) (.cons (.var 5) .nil)))))))) .skip)) (.seq (.ret (.var 4)) .skip)))), 1⟩
def fd_are_words : FD := ⟨1, 2, false, (.seq (.iff (.or (.not (.isi (.var 0) "tuple")) (.cmp .Gt (.blt false .len (.cons (.var 0) .nil)) (.lit (.int 30)))) (.seq (.ret (.lit (.bl false))) .skip) .skip) (.seq (.ret (.blt false .all (.cons (.lc false [1] (.or (.cmp .Is (.var 1) (.lit .non)) (.and (.isi (.var 1) "str") (.cmp .In (.var 1) (.tup (.cons (.lit (.str (Str.ofString "come"))) (.cons (.lit (.str (Str.ofString "gone"))) .nil)))))) (.nm 1) (.sq (.var 0)) (.lit (.bl true))) .nil))) .skip)), 1⟩
def fd_reach_of : FD := ⟨3, 3, false, (.seq (.ret (.op false .Add (.op false .Add (.op false .Add (.op false .Add (.ix (.var 0) (.lit (.int 2))) (.ix (.var 0) (.lit (.int 3)))) (.op false .Mult (.lit (.int 2)) (.ix (.var 1) (.lit (.int 1))))) (.lit (.int 2))) (.op false .Mult (.ix (.var 1) (.lit (.int 0))) (.var 2)))) .skip), 1⟩
def fd_standings_told : FD := ⟨3, 11, false, (.seq (.par2 3 4 (.cons (.lst false .nil) (.cons (.call 13 (.cons (.var 0) (.cons (.var 1) (.cons (.blt false .len (.cons (.var 2) .nil)) .nil)))) .nil))) (.seq (.for_ (.tp (.cn (.nm 5) (.cn (.nm 6) .nl))) (.en (.var 2)) (.seq (.asg (.nm 7) (.ite (.cmp .Eq (.var 5) (.lit (.int 0))) (.call 10 (.cons (.var 0) (.cons (.var 1) (.cons (.var 4) .nil)))) (.lst false .nil))) (.seq (.for_ (.nm 8) (.sq (.var 3)) (.seq (.asg (.nm 7) (.op false .Add (.var 7) (.call 11 (.cons (.var 0) (.cons (.var 1) (.cons (.var 4) (.cons (.var 8) .nil))))))) .skip)) (.seq (.asg (.nm 9) (.dct (.lc false [10] (.tup (.cons (.ix (.var 10) (.lit (.int 0))) (.cons (.lit (.bl true)) .nil))) (.nm 10) (.sq (.var 7)) (.cmp .Eq (.ix (.var 10) (.lit (.int 2))) (.var 6))))) (.seq (.asg (.nm 3) (.blt false .list (.cons (.var 9) .nil))) .skip))))) (.seq (.ret (.var 3)) .skip))), 1⟩
def fd_depths_told : FD := ⟨3, 7, false, (.seq (.expr (.call 5 (.cons (.var 0) .nil))) (.seq (.expr (.call 6 (.cons (.var 1) .nil))) (.seq (.iff (.not (.call 12 (.cons (.var 2) .nil))) (.seq (.rs 3) .skip) .skip) (.seq (.iff (.cmp .Eq (.var 2) (.tup .nil)) (.seq (.ret (.tup (.cons (.lit .non) (.cons (.call 3 (.cons (.var 0) .nil)) .nil)))) .skip) .skip) (.seq (.asg (.nm 3) (.lc false [6] (.blt false .int (.cons (.ix (.var 6) (.lit (.int 0))) .nil)) (.nm 6) (.sq (.call 14 (.cons (.var 0) (.cons (.var 1) (.cons (.var 2) .nil))))) (.lit (.bl true)))) (.seq (.iff (.cmp .Eq (.var 3) (.lst false .nil)) (.seq (.ret (.lit .non)) .skip) .skip) (.seq (.asg (.tp (.cn (.nm 4) (.cn (.nm 5) .nl))) (.call 7 (.cons (.var 0) (.cons (.var 1) (.cons (.call 13 (.cons (.var 0) (.cons (.var 1) (.cons (.blt false .len (.cons (.var 2) .nil)) .nil)))) .nil))))) (.seq (.ret (.tup (.cons (.ite (.cmp .Eq (.blt false .min (.cons (.var 3) .nil)) (.var 4)) (.lit .non) (.blt false .min (.cons (.var 3) .nil))) (.cons (.ite (.cmp .Eq (.blt false .max (.cons (.var 3) .nil)) (.var 5)) (.call 3 (.cons (.var 0) .nil)) (.blt false .max (.cons (.var 3) .nil))) .nil)))) .skip)))))))), 1⟩
def fd_law_tun : FD := ⟨2, 3, true, (.seq (.asg (.nm 2) (.ite (.cmp .Lt (.var 1) (.blt false .len (.cons (.var 0) .nil))) (.blt false .abs (.cons (.blt false .int (.cons (.ix (.var 0) (.var 1)) .nil)) .nil)) (.op false .Add (.op false .Mult (.lit (.int 109)) (.var 1)) (.lit (.int 71))))) (.seq (.ret (.lst true (.cons (.ite (.cmp .GtE (.var 2) (.op false .Pow (.lit (.int 10)) (.lit (.int 18)))) (.var 2) (.lit (.int 0))) (.cons (.op false .Mod (.blt false .int (.cons (.op false .Add (.op false .Add (.op false .Mod (.blt false .int (.cons (.var 2) .nil)) (.lit (.int 2147477807))) (.op false .Mult (.lit (.int 30197)) (.var 1))) (.lit (.int 811))) .nil)) (.lit (.int 2147477807))) .nil)))) .skip)), 0⟩
def fd_law_scoop : FD := ⟨2, 4, false, (.seq (.iff (.cmp .Gt (.ix (.var 0) (.lit (.int 0))) (.lit (.int 0))) (.seq (.asg (.nm 3) (.op false .Mod (.blt false .int (.cons (.ix (.var 0) (.lit (.int 0))) .nil)) (.var 1))) (.seq (.sub (.var 0) (.lit (.int 0)) (.op false .FloorDiv (.blt false .int (.cons (.ix (.var 0) (.lit (.int 0))) .nil)) (.var 1))) (.seq (.ret (.var 3)) .skip))) .skip) (.seq (.sub (.var 0) (.lit (.int 1)) (.op false .Mod (.blt false .int (.cons (.op false .Add (.op false .Mult (.ix (.var 0) (.lit (.int 1))) (.lit (.int 46507))) (.lit (.int 7001))) .nil)) (.lit (.int 2147477807)))) (.seq (.asg (.nm 2) (.op false .Mod (.op false .Mult (.blt false .int (.cons (.ix (.var 0) (.lit (.int 1))) .nil)) (.op false .Add (.op false .FloorDiv (.blt false .int (.cons (.ix (.var 0) (.lit (.int 1))) .nil)) (.lit (.int 71))) (.lit (.int 53)))) (.lit (.int 2147477797)))) (.seq (.ret (.op false .Mod (.blt false .int (.cons (.op false .FloorDiv (.blt false .int (.cons (.var 2) .nil)) (.lit (.int 37))) .nil)) (.var 1))) .skip)))), 0⟩
def fd_law_any : FD := ⟨2, 2, false, (.seq (.ret (.ix (.var 1) (.call 17 (.cons (.var 0) (.cons (.blt false .len (.cons (.var 1) .nil)) .nil))))) .skip), 0⟩
def fd_law_watcher : FD := ⟨2, 6, false, (.seq (.asg (.nm 2) (.call 18 (.cons (.var 0) (.cons (.lst false (.cons (.lit (.int 0)) (.cons (.lit (.int 0)) (.cons (.neg (.lit (.int 3))) (.cons (.lit (.int 7)) .nil))))) .nil)))) (.seq (.asg (.nm 3) (.op false .Add (.var 2) (.call 17 (.cons (.var 0) (.cons (.op false .Add (.var 1) (.lit (.int 1))) .nil))))) (.seq (.asg (.nm 4) (.tup (.cons (.op false .Add (.lit (.int 1)) (.call 18 (.cons (.var 0) (.cons (.lst false (.cons (.lit (.int 0)) (.cons (.lit (.int 0)) (.cons (.lit (.int 1)) (.cons (.lit (.int 2)) .nil))))) .nil)))) (.cons (.op false .Add (.lit (.int 1)) (.call 18 (.cons (.var 0) (.cons (.lst false (.cons (.lit (.int 0)) (.cons (.lit (.int 0)) (.cons (.lit (.int 1)) (.cons (.lit (.int 2)) .nil))))) .nil)))) .nil)))) (.seq (.asg (.nm 5) (.tup (.cons (.call 18 (.cons (.var 0) (.cons (.lst false (.cons (.lit (.int 0)) (.cons (.lit (.int 0)) (.cons (.lit (.int 1)) (.cons (.lit (.int 2)) (.cons (.lit (.int 3)) .nil)))))) .nil))) (.cons (.call 18 (.cons (.var 0) (.cons (.lst false (.cons (.lit (.int 0)) (.cons (.lit (.int 0)) (.cons (.lit (.int 1)) (.cons (.lit (.int 2)) (.cons (.lit (.int 3)) .nil)))))) .nil))) .nil)))) (.seq (.ret (.op false .Add (.op false .Add (.op false .Add (.tup (.cons (.var 2) (.cons (.var 3) .nil))) (.var 5)) (.var 4)) (.tup (.cons (.call 18 (.cons (.var 0) (.cons (.lst false (.cons (.lit (.str (Str.ofString "keep"))) (.cons (.lit (.str (Str.ofString "drop"))) .nil))) .nil))) .nil)))) .skip))))), 0⟩
def fd_law_world : FD := ⟨1, 1, false, (.seq (.ret (.tup (.cons (.call 18 (.cons (.var 0) (.cons (.lst false (.cons (.lit (.int 0)) (.cons (.lit (.int 1)) (.cons (.lit (.int 1)) (.cons (.lit (.int 2)) .nil))))) .nil))) (.cons (.call 18 (.cons (.var 0) (.cons (.lst false (.cons (.lit (.int 0)) (.cons (.lit (.int 0)) (.cons (.lit (.int 1)) (.cons (.lit (.int 2)) .nil))))) .nil))) (.cons (.call 18 (.cons (.var 0) (.cons (.lst false (.cons (.lit (.int 0)) (.cons (.lit (.int 0)) (.cons (.lit (.int 1)) (.cons (.lit (.int 2)) .nil))))) .nil))) .nil))))) .skip), 0⟩
def fd_law_deep : FD := ⟨2, 2, false, (.seq (.ret (.blt false .min (.cons (.op false .Sub (.var 1) (.ix (.var 0) (.lit (.int 0)))) (.cons (.op false .Sub (.ix (.var 0) (.lit (.int 1))) (.var 1)) .nil)))) .skip), 0⟩
def fd_law_word : FD := ⟨2, 2, false, (.seq (.iff (.cmp .Is (.var 1) (.lit .non)) (.seq (.ret (.lit (.str (Str.ofString "lost")))) .skip) .skip) (.seq (.iff (.chn .LtE .LtE (.op false .Add (.ix (.var 0) (.lit (.int 0))) (.ix (.var 0) (.lit (.int 2)))) (.var 1) (.op false .Sub (.ix (.var 0) (.lit (.int 1))) (.ix (.var 0) (.lit (.int 2))))) (.seq (.ret (.lit (.str (Str.ofString "in")))) .skip) .skip) (.seq (.iff (.chn .LtE .LtE (.op false .Sub (.ix (.var 0) (.lit (.int 0))) (.ix (.var 0) (.lit (.int 3)))) (.var 1) (.op false .Add (.ix (.var 0) (.lit (.int 1))) (.ix (.var 0) (.lit (.int 3))))) (.seq (.ret (.lit (.str (Str.ofString "edge")))) .skip) .skip) (.seq (.ret (.lit (.str (Str.ofString "out")))) .skip)))), 0⟩
def fd_law_onward : FD := ⟨3, 6, false, (.seq (.asg (.tp (.cn (.tp (.cn (.nm 4) (.cn (.nm 5) .nl))) (.cn (.nm 3) .nl))) (.tup (.cons (.var 1) (.cons (.call 22 (.cons (.var 0) (.cons (.var 2) .nil))) .nil)))) (.seq (.iff (.and (.cmp .Eq (.var 3) (.lit (.str (Str.ofString "lost")))) (.cmp .Eq (.ix (.var 0) (.lit (.int 6))) (.lit (.str (Str.ofString "keep"))))) (.seq (.ret (.tup (.cons (.var 1) (.cons (.lit .non) .nil)))) .skip) .skip) (.seq (.iff (.cmp .NotEq (.var 3) (.ite (.var 4) (.lit (.str (Str.ofString "out"))) (.lit (.str (Str.ofString "in"))))) (.seq (.ret (.tup (.cons (.tup (.cons (.var 4) (.cons (.lit (.int 0)) .nil))) (.cons (.lit .non) .nil)))) .skip) .skip) (.seq (.iff (.cmp .Lt (.op false .Add (.var 5) (.lit (.int 1))) (.ite (.var 4) (.ix (.var 0) (.lit (.int 5))) (.ix (.var 0) (.lit (.int 4))))) (.seq (.ret (.tup (.cons (.tup (.cons (.var 4) (.cons (.op false .Add (.var 5) (.lit (.int 1))) .nil))) (.cons (.lit .non) .nil)))) .skip) .skip) (.seq (.ret (.tup (.cons (.tup (.cons (.not (.var 4)) (.cons (.lit (.int 0)) .nil))) (.cons (.ite (.var 4) (.lit (.str (Str.ofString "gone"))) (.lit (.str (Str.ofString "come")))) .nil)))) .skip))))), 0⟩
def fd_law_led : FD := ⟨3, 6, false, (.seq (.asg (.nm 3) (.lst true .nil)) (.seq (.for_ (.nm 4) (.sq (.var 2)) (.seq (.asg (.tp (.cn (.nm 1) (.cn (.nm 5) .nl))) (.call 23 (.cons (.var 0) (.cons (.var 1) (.cons (.var 4) .nil))))) (.seq (.app (.var 3) (.var 5)) .skip))) (.seq (.ret (.tup (.cons (.var 3) (.cons (.var 1) .nil)))) .skip))), 0⟩
def fd_law_trip : FD := ⟨4, 10, false, (.seq (.par3 6 7 8 (.cons (.lit (.int 0)) (.cons (.lst true .nil) (.cons (.lst true .nil) .nil)))) (.seq (.asg (.nm 4) (.call 18 (.cons (.var 0) (.cons (.lst false (.cons (.ix (.var 1) (.lit (.int 0))) (.cons (.op false .Add (.ix (.var 1) (.lit (.int 1))) (.lit (.int 1))) (.cons (.op false .Sub (.ix (.var 1) (.lit (.int 0))) (.lit (.int 2))) .nil)))) .nil)))) (.seq (.for_ (.nm 5) (.rg1 (.var 3)) (.seq (.asg (.nm 4) (.op false .Sub (.op false .Add (.var 4) (.call 17 (.cons (.var 0) (.cons (.op false .Add (.op false .Mult (.lit (.int 2)) (.ix (.var 2) (.lit (.int 0)))) (.lit (.int 1))) .nil)))) (.ix (.var 2) (.lit (.int 0))))) (.seq (.iff (.and (.cmp .Lt (.var 6) (.ix (.var 2) (.lit (.int 2)))) (.cmp .Eq (.call 17 (.cons (.var 0) (.cons (.lit (.int 3)) .nil))) (.lit (.int 0)))) (.seq (.par2 6 9 (.cons (.op false .Add (.var 6) (.lit (.int 1))) (.cons (.lit .non) .nil))) .skip) (.seq (.par2 6 9 (.cons (.lit (.int 0)) (.cons (.op false .Sub (.op false .Add (.var 4) (.call 17 (.cons (.var 0) (.cons (.op false .Add (.op false .Mult (.lit (.int 2)) (.ix (.var 2) (.lit (.int 1)))) (.lit (.int 1))) .nil)))) (.ix (.var 2) (.lit (.int 1)))) .nil))) .skip)) (.seq (.app (.var 7) (.var 4)) (.seq (.app (.var 8) (.var 9)) .skip))))) (.seq (.ret (.tup (.cons (.blt false .tuple (.cons (.var 7) .nil)) (.cons (.blt false .tuple (.cons (.var 8) .nil)) .nil)))) .skip)))), 0⟩
def fd_law_rim : FD := ⟨3, 4, false, (.seq (.asg (.nm 3) (.blt false .max (.cons (.op false .Add (.op false .Add (.ix (.var 0) (.lit (.int 3))) (.ix (.var 1) (.lit (.int 1)))) (.lit (.int 1))) (.cons (.var 2) .nil)))) (.seq (.ret (.tup (.cons (.op false .Sub (.ix (.var 0) (.lit (.int 0))) (.var 3)) (.cons (.op false .Add (.ix (.var 0) (.lit (.int 1))) (.var 3)) .nil)))) .skip)), 1⟩
def fd_law_behind : FD := ⟨5, 9, false, (.seq (.asg (.nm 5) (.dnew false)) (.seq (.for_ (.nm 6) (.sq (.op false .Add (.lrg false (.op false .Sub (.var 4) (.ix (.var 1) (.lit (.int 1)))) (.op false .Add (.op false .Add (.var 4) (.ix (.var 1) (.lit (.int 1)))) (.lit (.int 1)))) (.ite (.cmp .Lt (.var 3) (.ix (.var 1) (.lit (.int 2)))) (.lst false (.cons (.lit .non) .nil)) (.lst false .nil)))) (.seq (.asg (.tp (.cn (.nm 7) (.cn (.nm 8) .nl))) (.call 23 (.cons (.var 0) (.cons (.var 2) (.cons (.var 6) .nil))))) (.seq (.sub (.var 5) (.tup (.cons (.tup (.cons (.var 4) (.cons (.var 7) (.cons (.ite (.cmp .Is (.var 6) (.lit .non)) (.op false .Add (.var 3) (.lit (.int 1))) (.lit (.int 0))) .nil)))) (.cons (.var 8) .nil))) (.lit (.bl true))) .skip))) (.seq (.ret (.blt false .list (.cons (.var 5) .nil))) .skip))), 1⟩
def fd_law_begins : FD := ⟨3, 7, false, (.seq (.asg (.tp (.cn (.nm 4) (.cn (.tp (.cn (.nm 5) (.cn (.nm 6) .nl))) .nl))) (.tup (.cons (.lst true .nil) (.cons (.call 26 (.cons (.var 0) (.cons (.var 1) (.cons (.var 2) .nil)))) .nil)))) (.seq (.for_ (.nm 3) (.rg2 (.var 5) (.op false .Add (.var 6) (.lit (.int 1)))) (.seq (.asg (.nm 4) (.op true .Add (.var 4) (.call 27 (.cons (.var 0) (.cons (.var 1) (.cons (.tup (.cons (.lit (.bl false)) (.cons (.lit (.int 0)) .nil))) (.cons (.lit (.int 0)) (.cons (.var 3) .nil)))))))) .skip)) (.seq (.ret (.var 4)) .skip))), 2⟩
def fd_law_graph : FD := ⟨3, 11, false, (.seq (.asg (.tp (.cn (.nm 4) (.cn (.tp (.cn (.nm 6) (.cn (.nm 7) .nl))) .nl))) (.tup (.cons (.dnew false) (.cons (.call 26 (.cons (.var 0) (.cons (.var 1) (.cons (.var 2) .nil)))) .nil)))) (.seq (.asg (.nm 3) (.lcB true [5, 9] (.var 5) (.tp (.cn (.nm 5) (.cn (.nm 9) .nl))) (.call 28 (.cons (.var 0) (.cons (.var 1) (.cons (.var 2) .nil)))) (.lit (.bl true)))) (.seq (.whl (.cmp .NotEq (.var 3) (.lst false .nil)) (.seq (.asg (.nm 5) (.pop (.var 3))) (.seq (.iff (.cmp .NotIn (.var 5) (.var 4)) (.seq (.sub (.var 4) (.var 5) (.lst false .nil)) (.seq (.for_ (.nm 8) (.rg2 (.blt false .max (.cons (.var 6) (.cons (.op false .Sub (.ix (.var 5) (.lit (.int 0))) (.ix (.var 1) (.lit (.int 0)))) .nil))) (.op false .Add (.blt false .min (.cons (.var 7) (.cons (.op false .Add (.ix (.var 5) (.lit (.int 0))) (.ix (.var 1) (.lit (.int 0)))) .nil))) (.lit (.int 1)))) (.seq (.sub (.var 4) (.var 5) (.op false .Add (.ix (.var 4) (.var 5)) (.call 27 (.cons (.var 0) (.cons (.var 1) (.cons (.ix (.var 5) (.lit (.int 1))) (.cons (.ix (.var 5) (.lit (.int 2))) (.cons (.var 8) .nil)))))))) .skip)) (.seq (.asg (.nm 3) (.op true .Add (.var 3) (.lc false [10, 9] (.var 10) (.tp (.cn (.nm 10) (.cn (.nm 9) .nl))) (.sq (.ix (.var 4) (.var 5))) (.lit (.bl true))))) .skip))) .skip) .skip))) (.seq (.ret (.var 4)) .skip)))), 1⟩
def fd_law_due : FD := ⟨3, 13, false, (.seq (.par2 8 9 (.cons (.op false .FloorDiv (.op false .Sub (.ix (.var 0) (.lit (.int 1))) (.ix (.var 0) (.lit (.int 0)))) (.lit (.int 2))) (.cons (.lit .non) .nil))) (.seq (.iff (.cmp .Eq (.var 2) (.tup .nil)) (.seq (.ret (.tup (.cons (.lit .non) (.cons (.var 8) .nil)))) .skip) .skip) (.seq (.asg (.nm 3) (.op false .Add (.op false .Add (.op false .Add (.ix (.var 0) (.lit (.int 3))) (.ix (.var 1) (.lit (.int 1)))) (.lit (.int 2))) (.op false .Mult (.ix (.var 1) (.lit (.int 0))) (.blt false .len (.cons (.var 2) .nil))))) (.seq (.asg (.nm 4) (.call 29 (.cons (.var 0) (.cons (.var 1) (.cons (.var 3) .nil))))) (.seq (.for_ (.nm 5) (.sq (.var 2)) (.seq (.asg (.nm 10) (.ite (.cmp .Is (.var 9) (.lit .non)) (.call 28 (.cons (.var 0) (.cons (.var 1) (.cons (.var 3) .nil)))) (.lst true .nil))) (.seq (.for_ (.nm 11) (.sq (.or (.var 9) (.lst false .nil))) (.seq (.ext (.var 10) (.ix (.var 4) (.var 11))) .skip)) (.seq (.asg (.nm 9) (.blt false .list (.cons (.dct (.lcB false [11, 12] (.tup (.cons (.var 11) (.cons (.lit (.bl true)) .nil))) (.tp (.cn (.nm 11) (.cn (.nm 12) .nl))) (.var 10) (.cmp .Eq (.var 12) (.var 5)))) .nil))) (.seq (.iff (.cmp .Eq (.var 9) (.lst false .nil)) (.seq (.ret (.lit .non)) .skip) .skip) .skip))))) (.seq (.asg (.nm 6) (.lc false [11] (.call 21 (.cons (.var 0) (.cons (.ix (.var 11) (.lit (.int 0))) .nil))) (.nm 11) (.sq (.var 9)) (.lit (.bl true)))) (.seq (.asg (.nm 7) (.call 21 (.cons (.var 0) (.cons (.ix (.call 26 (.cons (.var 0) (.cons (.var 1) (.cons (.var 3) .nil)))) (.lit (.int 0))) .nil)))) (.seq (.ret (.tup (.cons (.ite (.cmp .Eq (.blt false .min (.cons (.var 6) .nil)) (.var 7)) (.lit .non) (.blt false .min (.cons (.var 6) .nil))) (.cons (.blt false .max (.cons (.var 6) .nil)) .nil)))) .skip)))))))), 1⟩
def fd_law_drawn_words : FD := ⟨3, 6, false, (.seq (.asg (.nm 3) (.ix (.call 25 (.cons (.var 0) (.cons (.var 1) (.cons (.var 2) (.cons (.call 17 (.cons (.var 0) (.cons (.lit (.int 8)) .nil))) .nil))))) (.lit (.int 1)))) (.seq (.asg (.nm 4) (.blt false .tuple (.cons (.ix (.call 24 (.cons (.var 1) (.cons (.tup (.cons (.lit (.bl false)) (.cons (.lit (.int 0)) .nil))) (.cons (.var 3) .nil)))) (.lit (.int 0))) .nil))) (.seq (.iff (.and (.cmp .NotEq (.var 4) (.tup .nil)) (.cmp .Eq (.call 17 (.cons (.var 0) (.cons (.lit (.int 4)) .nil))) (.lit (.int 0)))) (.seq (.asg (.nm 5) (.call 17 (.cons (.var 0) (.cons (.blt false .len (.cons (.var 4) .nil)) .nil)))) (.seq (.asg (.nm 4) (.op false .Add (.op false .Add (.sl false (.var 4) .nil (.var 5)) (.tup (.cons (.call 18 (.cons (.var 0) (.cons (.lst false (.cons (.lit .non) (.cons (.lit (.str (Str.ofString "come"))) (.cons (.lit (.str (Str.ofString "gone"))) .nil)))) .nil))) .nil))) (.sl false (.var 4) (.op false .Add (.var 5) (.lit (.int 1))) .nil))) .skip)) .skip) (.seq (.ret (.var 4)) .skip)))), 0⟩
def fd_law : FD := ⟨1, 12, false, (.seq (.for_ (.nm 1) (.rg1 (.blt false .max (.cons (.lit (.int 3)) (.cons (.blt false .min (.cons (.lit (.int 8)) (.cons (.op false .Add (.blt false .len (.cons (.var 0) .nil)) (.lit (.int 2))) .nil))) .nil)))) (.seq (.asg (.nm 3) (.call 16 (.cons (.var 0) (.cons (.var 1) .nil)))) (.seq (.asg (.tp (.cn (.nm 9) (.cn (.nm 10) .nl))) (.tup (.cons (.call 19 (.cons (.var 3) (.cons (.lit (.int 6)) .nil))) (.cons (.call 20 (.cons (.var 3) .nil)) .nil)))) (.seq (.for_ (.nm 4) (.rg1 (.lit (.int 2))) (.seq (.asg (.nm 11) (.call 31 (.cons (.var 3) (.cons (.var 9) (.cons (.var 10) .nil))))) (.seq (.iff (.cmp .NotEq (.call 15 (.cons (.var 9) (.cons (.var 10) (.cons (.var 11) .nil)))) (.call 30 (.cons (.var 9) (.cons (.var 10) (.cons (.var 11) .nil))))) (.seq (.ret (.lit (.bl false))) .skip) .skip) .skip))) (.seq (.for_ (.nm 5) (.sq (.lst false (.cons (.lit .non) (.cons (.lst false (.cons (.lit (.str (Str.ofString "come"))) .nil)) (.cons (.tup (.cons (.lit (.str (Str.ofString "Come"))) .nil)) (.cons (.op false .Mult (.tup (.cons (.lit .non) .nil)) (.lit (.int 31))) (.cons (.tup (.cons (.lit (.int 1)) .nil)) (.cons (.lit (.str (Str.ofString "come"))) (.cons (.tup (.cons (.tup (.cons (.lit (.str (Str.ofString "come"))) .nil)) .nil)) .nil))))))))) (.seq (.iff (.cmp .NotEq (.lam 0 (.callL 15 (.cons (.var 9) (.cons (.var 10) (.cons (.var 5) .nil))))) (.lit (.str (Str.ofString "said")))) (.seq (.ret (.lit (.bl false))) .skip) .skip) .skip)) .skip))))) (.seq (.asg (.tp (.cn (.nm 6) (.cn (.nm 7) (.cn (.nm 8) .nl)))) (.tup (.cons (.tup (.cons (.lit (.int 0)) (.cons (.lit (.int 20)) (.cons (.lit (.int 0)) (.cons (.lit (.int 0)) (.cons (.lit (.int 1)) (.cons (.lit (.int 1)) (.cons (.lit (.str (Str.ofString "keep"))) .nil)))))))) (.cons (.tup (.cons (.lit (.int 0)) (.cons (.lit (.int 20)) (.cons (.lit (.int 2)) (.cons (.lit (.int 1)) (.cons (.lit (.int 2)) (.cons (.lit (.int 2)) (.cons (.lit (.str (Str.ofString "keep"))) .nil)))))))) (.cons (.tup (.cons (.lit (.int 1)) (.cons (.lit (.int 0)) (.cons (.lit (.int 0)) .nil)))) .nil))))) (.seq (.asg (.nm 2) (.lst false (.cons (.call 15 (.cons (.var 6) (.cons (.var 8) (.cons (.tup (.cons (.lit (.str (Str.ofString "come"))) .nil)) .nil)))) (.cons (.call 15 (.cons (.var 6) (.cons (.tup (.cons (.lit (.int 2)) (.cons (.lit (.int 1)) (.cons (.lit (.int 1)) .nil)))) (.cons (.tup (.cons (.lit (.str (Str.ofString "come"))) .nil)) .nil)))) .nil)))) (.seq (.asg (.nm 2) (.op false .Add (.var 2) (.lst false (.cons (.call 15 (.cons (.var 6) (.cons (.var 8) (.cons (.tup (.cons (.lit (.str (Str.ofString "come"))) (.cons (.lit (.str (Str.ofString "gone"))) .nil))) .nil)))) (.cons (.call 15 (.cons (.var 6) (.cons (.var 8) (.cons (.tup (.cons (.lit (.str (Str.ofString "gone"))) .nil)) .nil)))) .nil))))) (.seq (.iff (.or (.cmp .NotEq (.var 2) (.lst false (.cons (.tup (.cons (.lit (.int 0)) (.cons (.lit (.int 10)) .nil))) (.cons (.tup (.cons (.neg (.lit (.int 1))) (.cons (.lit (.int 10)) .nil))) (.cons (.tup (.cons (.neg (.lit (.int 1))) (.cons (.neg (.lit (.int 1))) .nil))) (.cons (.lit .non) .nil)))))) (.cmp .NotEq (.call 15 (.cons (.var 7) (.cons (.var 8) (.cons (.tup .nil) .nil)))) (.tup (.cons (.lit .non) (.cons (.lit (.int 10)) .nil))))) (.seq (.ret (.lit (.bl false))) .skip) .skip) (.seq (.iff (.or (.cmp .NotEq (.call 15 (.cons (.var 7) (.cons (.var 8) (.cons (.tup (.cons (.lit .non) (.cons (.lit (.str (Str.ofString "come"))) .nil))) .nil)))) (.tup (.cons (.lit (.int 2)) (.cons (.lit (.int 10)) .nil)))) (.cmp .NotEq (.call 15 (.cons (.var 6) (.cons (.var 8) (.cons (.tup (.cons (.lit (.str (Str.ofString "come"))) (.cons (.lit .non) .nil))) .nil)))) (.tup (.cons (.lit (.int 0)) (.cons (.lit (.int 10)) .nil))))) (.seq (.ret (.lit (.bl false))) .skip) .skip) (.seq (.iff (.or (.cmp .NotEq (.call 15 (.cons (.var 6) (.cons (.var 8) (.cons (.tup (.cons (.lit (.str (Str.ofString "come"))) (.cons (.lit (.str (Str.ofString "gone"))) (.cons (.lit (.str (Str.ofString "come"))) .nil)))) .nil)))) (.tup (.cons (.lit (.int 0)) (.cons (.lit (.int 0)) .nil)))) (.cmp .NotEq (.call 15 (.cons (.var 6) (.cons (.var 8) (.cons (.tup (.cons (.lit .non) .nil)) .nil)))) (.tup (.cons (.lit .non) (.cons (.neg (.lit (.int 1))) .nil))))) (.seq (.ret (.lit (.bl false))) .skip) .skip) (.seq (.iff (.cmp .NotEq (.call 15 (.cons (.var 6) (.cons (.tup (.cons (.lit (.int 2)) (.cons (.lit (.int 0)) (.cons (.lit (.int 0)) .nil)))) (.cons (.tup (.cons (.lit (.str (Str.ofString "come"))) (.cons (.lit (.str (Str.ofString "gone"))) .nil))) .nil)))) (.tup (.cons (.neg (.lit (.int 2))) (.cons (.neg (.lit (.int 1))) .nil)))) (.seq (.ret (.lit (.bl false))) .skip) .skip) (.seq (.ret (.cmp .Eq (.call 15 (.cons (.tup (.cons (.lit (.int 0)) (.cons (.op false .Pow (.lit (.int 10)) (.lit (.int 30))) (.cons (.lit (.int 1)) (.cons (.lit (.int 1)) (.cons (.lit (.int 1)) (.cons (.lit (.int 1)) (.cons (.lit (.str (Str.ofString "keep"))) .nil)))))))) (.cons (.var 8) (.cons (.tup (.cons (.lit (.str (Str.ofString "come"))) .nil)) .nil)))) (.tup (.cons (.lit (.int 1)) (.cons (.op false .Mult (.lit (.int 5)) (.op false .Pow (.lit (.int 10)) (.lit (.int 29)))) .nil))))) .skip))))))))), 0⟩
abbrev i_is_from : Nat := 0
abbrev i_is_good_watcher : Nat := 1
abbrev i_is_good_world : Nat := 2
abbrev i_half_of : Nat := 3
abbrev i_stepped : Nat := 4
abbrev i_need_watcher : Nat := 5
abbrev i_need_world : Nat := 6
abbrev i_bounds : Nat := 7
abbrev i_words_at : Nat := 8
abbrev i_looked : Nat := 9
abbrev i_firsts : Nat := 10
abbrev i_nexts : Nat := 11
abbrev i_are_words : Nat := 12
abbrev i_reach_of : Nat := 13
abbrev i_standings_told : Nat := 14
abbrev i_depths_told : Nat := 15
abbrev i_law_tun : Nat := 16
abbrev i_law_scoop : Nat := 17
abbrev i_law_any : Nat := 18
abbrev i_law_watcher : Nat := 19
abbrev i_law_world : Nat := 20
abbrev i_law_deep : Nat := 21
abbrev i_law_word : Nat := 22
abbrev i_law_onward : Nat := 23
abbrev i_law_led : Nat := 24
abbrev i_law_trip : Nat := 25
abbrev i_law_rim : Nat := 26
abbrev i_law_behind : Nat := 27
abbrev i_law_begins : Nat := 28
abbrev i_law_graph : Nat := 29
abbrev i_law_due : Nat := 30
abbrev i_law_drawn_words : Nat := 31
abbrev i_law : Nat := 32
def fds : List FD := [fd_is_from, fd_is_good_watcher, fd_is_good_world, fd_half_of, fd_stepped, fd_need_watcher, fd_need_world, fd_bounds, fd_words_at, fd_looked, fd_firsts, fd_nexts, fd_are_words, fd_reach_of, fd_standings_told, fd_depths_told, fd_law_tun, fd_law_scoop, fd_law_any, fd_law_watcher, fd_law_world, fd_law_deep, fd_law_word, fd_law_onward, fd_law_led, fd_law_trip, fd_law_rim, fd_law_behind, fd_law_begins, fd_law_graph, fd_law_due, fd_law_drawn_words, fd_law]
def cvals : Nat → T := fun c => match c with
  | _ => .non
def lams : Nat → Option (List (Nat × T) × T) := fun j => match j with
  | 0 => some ([(3, .str (Str.ofString "said"))], .str (Str.ofString "none"))
  | _ => none
def prg : Prg := ⟨fun f => fds[f]?, cvals, lams, 100000⟩
def lw : LW := ⟨[⟨"is_from", top 6, ["value", "low", "high"], ["value", "low", "high"], fd_is_from, false⟩,
  ⟨"is_good_watcher", top 7, ["value", "margin", "many", "edge"], ["value"], fd_is_good_watcher, false⟩,
  ⟨"is_good_world", top 8, ["value", "part"], ["value"], fd_is_good_world, false⟩,
  ⟨"half_of", top 9, ["watcher"], ["watcher"], fd_half_of, false⟩,
  ⟨"stepped", top 10, ["watcher", "stand", "word", "within", "row"], ["watcher", "stand", "word"], fd_stepped, false⟩,
  ⟨"need_watcher", top 11, ["value"], ["value"], fd_need_watcher, false⟩,
  ⟨"need_world", top 12, ["value"], ["value"], fd_need_world, false⟩,
  ⟨"bounds", top 14, ["watcher", "world", "reach", "top"], ["watcher", "world", "reach"], fd_bounds, false⟩,
  ⟨"words_at", top 15, ["watcher", "world", "deep", "lost", "found", "least", "most"], ["watcher", "world", "deep", "lost"], fd_words_at, false⟩,
  ⟨"looked", top 16, ["watcher", "world", "stand", "lost", "deep", "found", "word", "later", "told"], ["watcher", "world", "stand", "lost", "deep"], fd_looked, false⟩,
  ⟨"firsts", top 17, ["watcher", "world", "reach", "found", "deep", "low", "top"], ["watcher", "world", "reach"], fd_firsts, false⟩,
  ⟨"nexts", top 18, ["watcher", "world", "reach", "standing", "found", "deep", "low", "top"], ["watcher", "world", "reach", "standing"], fd_nexts, false⟩,
  ⟨"are_words", top 20, ["value", "word"], ["value"], fd_are_words, false⟩,
  ⟨"reach_of", top 21, ["watcher", "world", "many"], ["watcher", "world", "many"], fd_reach_of, false⟩,
  ⟨"standings_told", top 22, ["watcher", "world", "words", "found", "reach", "place", "word", "rows", "standing", "known", "row"], ["watcher", "world", "words"], fd_standings_told, false⟩,
  ⟨"depths_told", top 23, ["watcher", "world", "words", "some", "low", "top", "standing"], ["watcher", "world", "words"], fd_depths_told, false⟩,
  ⟨"_law_tun", top 25, ["_law_script", "_law_k", "_law_cell"], ["_law_script", "_law_k"], fd_law_tun, false⟩,
  ⟨"_law_scoop", top 26, ["_law_tun_here", "_law_wide", "_law_stirred", "_law_found"], ["_law_tun_here", "_law_wide"], fd_law_scoop, false⟩,
  ⟨"_law_any", top 27, ["_law_tun_here", "_law_things"], ["_law_tun_here", "_law_things"], fd_law_any, false⟩,
  ⟨"_law_watcher", top 28, ["_law_tun_here", "_law_wide", "_law_low", "_law_high", "_law_rows_so", "_law_margins"], ["_law_tun_here", "_law_wide"], fd_law_watcher, false⟩,
  ⟨"_law_world", top 29, ["_law_tun_here"], ["_law_tun_here"], fd_law_world, false⟩,
  ⟨"_law_deep", top 30, ["_law_watcher_so", "_law_place"], ["_law_watcher_so", "_law_place"], fd_law_deep, false⟩,
  ⟨"_law_word", top 31, ["_law_watcher_so", "_law_look"], ["_law_watcher_so", "_law_look"], fd_law_word, false⟩,
  ⟨"_law_onward", top 32, ["_law_watcher_so", "_law_stand_so", "_law_look", "_law_word_here", "_law_within_so", "_law_row"], ["_law_watcher_so", "_law_stand_so", "_law_look"], fd_law_onward, false⟩,
  ⟨"_law_led", top 33, ["_law_watcher_so", "_law_stand_so", "_law_looks_so", "_law_found", "_law_look", "_law_told"], ["_law_watcher_so", "_law_stand_so", "_law_looks_so"], fd_law_led, false⟩,
  ⟨"_law_trip", top 34, ["_law_tun_here", "_law_watcher_so", "_law_world_so", "_law_many", "_law_here", "_law_turn", "_law_lost", "_law_walk_so", "_law_looks_so", "_law_look"], ["_law_tun_here", "_law_watcher_so", "_law_world_so", "_law_many"], fd_law_trip, false⟩,
  ⟨"_law_rim", top 35, ["_law_watcher_so", "_law_world_so", "_law_reach", "_law_beyond"], ["_law_watcher_so", "_law_world_so", "_law_reach"], fd_law_rim, false⟩,
  ⟨"_law_behind", top 36, ["_law_watcher_so", "_law_world_so", "_law_stand_so", "_law_lost", "_law_place", "_law_found", "_law_look", "_law_later_so", "_law_told"], ["_law_watcher_so", "_law_world_so", "_law_stand_so", "_law_lost", "_law_place"], fd_law_behind, false⟩,
  ⟨"_law_begins", top 37, ["_law_watcher_so", "_law_world_so", "_law_reach", "_law_place", "_law_found", "_law_left", "_law_right"], ["_law_watcher_so", "_law_world_so", "_law_reach"], fd_law_begins, false⟩,
  ⟨"_law_graph", top 38, ["_law_watcher_so", "_law_world_so", "_law_reach", "_law_line", "_law_found", "_law_node", "_law_left", "_law_right", "_law_place", "_law_told", "_law_later_so"], ["_law_watcher_so", "_law_world_so", "_law_reach"], fd_law_graph, false⟩,
  ⟨"_law_due", top 39, ["_law_watcher_so", "_law_world_so", "_law_words_so", "_law_reach", "_law_graph_so", "_law_word_here", "_law_depths_so", "_law_rim_here", "_law_half", "_law_here", "_law_pairs_so", "_law_node", "_law_told"], ["_law_watcher_so", "_law_world_so", "_law_words_so"], fd_law_due, false⟩,
  ⟨"_law_drawn_words", top 40, ["_law_tun_here", "_law_watcher_so", "_law_world_so", "_law_looks_so", "_law_words_so", "_law_at"], ["_law_tun_here", "_law_watcher_so", "_law_world_so"], fd_law_drawn_words, false⟩,
  ⟨"law", top 42, ["_law_script", "_law_k", "_law_found", "_law_tun_here", "_law_turn", "_law_odd", "_law_plain", "_law_slow", "_law_one", "_law_watcher_so", "_law_world_so", "_law_words_so"], ["_law_script"], fd_law, true⟩], [⟨"_law_word_for", top 41, "_law_call", [(3, "said")], "none"⟩], [], ["WatchError", "InvalidWatcher", "InvalidWorld", "InvalidSaid"], ["abs", "all", "bool", "dict", "enumerate", "int", "isinstance", "len", "list", "max", "min", "range", "str", "tuple"], prg, [none, none, none, none], [], []⟩
theorem rep_ktup {g : GW} {fb m : List Addr} {H : Hp} {a : Addr} {vs : List V} {l : List T} (k : KTup g.K a vs) (r : RepL (g.w fb) m H l vs) : Rep (g.w fb) m H (.tup l) (.ref a) := by
  simp only [Rep]
  exact ⟨a, vs, rfl, .inr k, r⟩
theorem lw_tab : ∀ f, lw.prg.tab f = (lw.ds[f]?).map (·.fd) := fun f => by
  show fds[f]? = _
  have e : fds = lw.ds.map (·.fd) := rfl
  rw [e, List.getElem?_map]
theorem lw_ok : lw.ds.all lw.okD = true := by decide +kernel
theorem lw_okL : lw.ls.all lw.okL = true := by decide +kernel
end Fw

namespace Fw
open PySem L2 PyProof.Rows
/-! ## tun, scoop, any -/
theorem tun_ok (n : Nat) (k : Nat) (S : Sto) (ns : List Int) : ∃ S', runO prg (n + 1) i_law_tun [.scr ns, .int k] S = some (.ok (.box S.length) (S ++ [S'])) ∧ ∃ a b : Int, S' = .lst [.int a, .int b] ∧ 0 ≤ a ∧ 0 ≤ b ∧ b < 2147477807 := by
  rw [run_succ prg n i_law_tun _ S fd_law_tun rfl rfl]
  have hp : bop .Pow (.int 10) (.int 18) = some (.int 1000000000000000000) := by simp [bop]
  have fin : ∀ c : Int, 0 ≤ c → ∃ S', (some (Out.ok (T.box S.length) (S ++ [Ob.lst [if (1000000000000000000:Int) ≤ c then T.int c else T.int 0, T.int ((c % 2147477807 + 30197 * k + 811) % 2147477807)]])) : Res) = some (.ok (.box S.length) (S ++ [S'])) ∧ ∃ a b : Int, S' = .lst [.int a, .int b] ∧ 0 ≤ a ∧ 0 ≤ b ∧ b < 2147477807 := by
    intro c hc
    refine ⟨_, rfl, (if (1000000000000000000:Int) ≤ c then c else 0), ((c % 2147477807 + 30197 * k + 811) % 2147477807), ?_, ?_, Int.emod_nonneg _ (by decide), Int.emod_lt_of_pos _ (by decide)⟩
    · split <;> rfl
    · split <;> omega
  by_cases hk : (k : Int) < ns.length
  · have hk' : k < ns.length := by omega
    have e : ixT S (.scr ns) (.int k) = some (.int ns[k]) := by
      simp [ixT, atI_k ns k hk', List.getElem?_eq_getElem hk']
    obtain ⟨c, hc⟩ : ∃ c : Int, c = (if ns[k] < 0 then -ns[k] else ns[k]) := ⟨_, rfl⟩
    have hc0 : 0 ≤ c := by subst hc; split <;> omega
    obtain ⟨S', e1, e2⟩ := fin c hc0
    refine ⟨S', ?_, e2⟩
    rw [← e1]
    by_cases h18 : (1000000000000000000:Int) ≤ c
    · simp [fd_law_tun, init, hk', e, bindT, hp, bo_mod_s, bo_mulL, small64, line, h18, ← hc]
    · simp [fd_law_tun, init, hk', e, bindT, hp, bo_mod_s, bo_mulL, small64, line, h18, ← hc]
  · have hk' : ¬ k < ns.length := by omega
    have hc0 : 0 ≤ 109 * (k : Int) + 71 := by omega
    obtain ⟨S', e1, e2⟩ := fin (109 * (k : Int) + 71) hc0
    refine ⟨S', ?_, e2⟩
    rw [← e1]
    by_cases h18 : (1000000000000000000:Int) ≤ 109 * (k : Int) + 71
    · simp [fd_law_tun, init, hk', bindT, hp, bo_mod_s, bo_mulL, small64, line, h18]
    · simp [fd_law_tun, init, hk', bindT, hp, bo_mod_s, bo_mulL, small64, line, h18]

theorem scoop_ok (n : Nat) (k : Nat) (S : Sto) (w : Int) (h : Tn S k) (hw : 0 < w) (hw2 : w < 1073741824) :
    ∃ r S', runO prg (n + 1) i_law_scoop [.box k, .int w] S = some (.ok (.int r) S') ∧ 0 ≤ r ∧ r < w ∧ Tw k S S' := by
  obtain ⟨a, b, h, ha, hb, hb2⟩ := h
  have hk : k < S.length := (List.getElem?_eq_some_iff.mp h).1
  rw [run_succ prg n i_law_scoop _ S fd_law_scoop rfl rfl]
  by_cases h0 : 0 < a
  · refine ⟨a % w, S.set k (.lst [.int (a / w), .int b]), ?_, Int.emod_nonneg _ (by omega), Int.emod_lt_of_pos _ hw, hk, _, _, rfl, ?_, hb, hb2⟩
    · simp [fd_law_scoop, init, ix_box h, bo_mod hw, bo_fdiv hw hw2, h0, bindT, wSub, h, ixN, fin1_le]
    · exact Int.ediv_nonneg ha (by omega)
  · have h3 : S[k]? = some (Ob.lst [T.int a, T.int b]) := h
    have c1 : 0 ≤ (b * 46507 + 7001) % 2147477807 := Int.emod_nonneg _ (by decide)
    have c2 : (b * 46507 + 7001) % 2147477807 < 2147477807 := Int.emod_lt_of_pos _ (by decide)
    obtain ⟨c, hc⟩ : ∃ c : Int, c = (b * 46507 + 7001) % 2147477807 := ⟨_, rfl⟩
    rw [← hc] at c1 c2
    have hc64 : small64 c = true := by simp [small64]; omega
    have h2 : (S.set k (.lst [.int a, .int c]))[k]? = some (.lst [.int a, .int c]) := by simp [hk]
    refine ⟨c * (c / 71 + 53) % 2147477797 / 37 % w, S.set k (.lst [.int a, .int c]), ?_, Int.emod_nonneg _ (by omega), Int.emod_lt_of_pos _ hw, hk, _, _, rfl, ha, c1, c2⟩
    have i1 : atI [T.int a, T.int b] 1 = some (.int b) := by simp [atI, ixN]
    have i2 : atI [T.int a, T.int c] 1 = some (.int c) := by simp [atI, ixN]
    simp [fd_law_scoop, init, ix_box h, ix_box h2, i1, i2, bo_mod hw, bo_mod_s, bo_fdiv, h0, bindT, wSub, h, ixN, fin1_le, bo_mulR (i := b) (j := 46507) (by decide), ← hc, bo_mulL hc64]

theorem any_ok (n : Nat) (k : Nat) (S : Sto) (l : List T) (h : Tn S k) (hl : l ≠ []) (hl2 : l.length < 1073741824) :
    ∃ t S', runO prg (n + 2) i_law_any [.box k, .lst l] S = some (.ok t S') ∧ t ∈ l ∧ Tw k S S' := by
  have hp : 0 < l.length := List.length_pos_iff.mpr hl
  obtain ⟨r, S', e, h0, h1, w⟩ := scoop_ok n k S l.length h (by omega) (by omega)
  obtain ⟨t, et, hm⟩ := atI_nat (l := l) h0 (by omega)
  refine ⟨t, S', ?_, hm, w⟩
  rw [run_succ prg (n + 1) i_law_any _ S fd_law_any rfl rfl]
  simp [fd_law_any, init, e, et, fin1_le, w.len]
/-! ## is_from, is_good_watcher -/
def pl : T → Bool
  | .non => true
  | .bl _ => true
  | .int _ => true
  | .str _ => true
  | .tup _ => true
  | .lst _ => true
  | _ => false
@[simp] theorem pl_int (i : Int) : pl (.int i) = true := id rfl
@[simp] theorem pl_str (i : Str) : pl (.str i) = true := id rfl
def isI (lo hi : Int) : T → Bool
  | .int i => decide (lo ≤ i) && decide (i ≤ hi)
  | _ => false
theorem isI_int {lo hi : Int} {t : T} (h : isI lo hi t = true) : ∃ i, t = .int i ∧ lo ≤ i ∧ i ≤ hi := by
  cases t <;> simp [isI] at h
  exact ⟨_, rfl, h⟩
theorem is_from_ok (n : Nat) (t : T) (lo hi : Int) (S : Sto) (ht : pl t = true) : runO prg (n + 1) i_is_from [t, .int lo, .int hi] S = some (.ok (.bl (isI lo hi t)) S) := by
  rw [run_succ prg n i_is_from _ S fd_is_from rfl rfl]
  cases t with
  | int i =>
    by_cases h1 : lo ≤ i
    · simp [fd_is_from, init, isiT, tyT, isI, h1]
    · simp [fd_is_from, init, isiT, tyT, isI, h1]
  | non => simp [fd_is_from, init, isiT, tyT, isI]
  | bl b => simp [fd_is_from, init, isiT, tyT, isI]
  | str b => simp [fd_is_from, init, isiT, tyT, isI]
  | tup b => simp [fd_is_from, init, isiT, tyT, isI]
  | lst b => simp [fd_is_from, init, isiT, tyT, isI]
  | _ => simp [pl] at ht
def pl2 (t : T) : Prop := pl t = true ∧ ∀ l, t = .tup l → ∀ x ∈ l, pl x = true
def isKD : T → Bool
  | .str s => (Str.ofString "keep") == s || (Str.ofString "drop") == s
  | _ => false
def leT : T → T → Bool
  | .int i, .int j => decide (i ≤ j)
  | _, _ => false
def goodW : T → Bool
  | .tup [a, b, c, d, e, f, g] => isI (-1000000000000000000000000000000) 1000000000000000000000000000000 a && isI (-1000000000000000000000000000000) 1000000000000000000000000000000 b && leT a b && isI 0 3 c && isI 0 3 d && isI 1 3 e && isI 1 3 f && isKD g
  | _ => false
theorem in_kd (S : Sto) (s : Str) (l : List T) (hl : ∀ S, drf S (.tup l) = .tup l) (e : l = [.str (Str.ofString "keep"), .str (Str.ofString "drop")]) : cop S .In (.str s) (.tup l) = some (isKD (.str s)) := by
  subst e
  simp [cop, inT, toD, toDs, PyData.depth, PyData.eqv, isKD]
theorem in_kd2 (S : Sto) (s : Str) : cop S .In (.str s) (.tup [.str (Str.ofString "keep"), .str (Str.ofString "drop")]) = some (isKD (.str s)) := in_kd S s _ (fun _ => rfl) rfl
theorem in_kdL (S : Sto) (s : Str) : cop S .In (.str s) (.lst [.str (Str.ofString "keep"), .str (Str.ofString "drop")]) = some (isKD (.str s)) := by
  simp [cop, inT, toD, toDs, PyData.depth, PyData.eqv, isKD]
@[simp] theorem pow30 : bop .Pow (.int 10) (.int 30) = some (.int 1000000000000000000000000000000) := by simp [bop]
@[simp] theorem at7 (a b c d e f g : T) : atI [a, b, c, d, e, f, g] 1 = some b ∧ atI [a, b, c, d, e, f, g] 2 = some c ∧ atI [a, b, c, d, e, f, g] 3 = some d ∧ atI [a, b, c, d, e, f, g] 4 = some e ∧ atI [a, b, c, d, e, f, g] 5 = some f ∧ atI [a, b, c, d, e, f, g] 6 = some g := by
  simp [atI, ixN]
@[simp] theorem at3 (a b c : T) : atI [a, b, c] 1 = some b ∧ atI [a, b, c] 2 = some c := by
  simp [atI, ixN]
theorem len7 {α : Type} {l : List α} (h : l.length = 7) : ∃ a b c d e f g, l = [a, b, c, d, e, f, g] := by
  match l, h with
  | [a, b, c, d, e, f, g], _ => exact ⟨a, b, c, d, e, f, g, rfl⟩
theorem len3 {α : Type} {l : List α} (h : l.length = 3) : ∃ a b c, l = [a, b, c] := by
  match l, h with
  | [a, b, c], _ => exact ⟨a, b, c, rfl⟩
theorem goodW_len {l : List T} (h : l.length ≠ 7) : goodW (.tup l) = false := by
  unfold goodW
  split
  · simp_all
  · rfl
theorem goodW_ne {t : T} (h : ∀ l, t ≠ .tup l) : goodW t = false := by
  cases t <;> first | rfl | exact absurd rfl (h _)
theorem igw_ok (n : Nat) (t : T) (S : Sto) (h2 : pl2 t) : runO prg (n + 2) i_is_good_watcher [t] S = some (.ok (.bl (goodW t)) S) := by
  rw [run_succ prg (n + 1) i_is_good_watcher _ S fd_is_good_watcher rfl rfl]
  obtain ⟨ht, hl⟩ := h2
  cases t with
  | tup l =>
    by_cases h7 : l.length = 7
    · obtain ⟨a, b, c, d, e, f, g, rfl⟩ := len7 h7
      have hp := hl _ rfl
      have ha := hp a (by simp); have hb := hp b (by simp); have hc := hp c (by simp); have hd := hp d (by simp); have he := hp e (by simp); have hf := hp f (by simp); have hg := hp g (by simp)
      cases qa : isI (-1000000000000000000000000000000) 1000000000000000000000000000000 a with
      | false => simp [fd_is_good_watcher, init, isiT, tyT, cutL, HT.sIx, lcL, lcT, bindT, wipeR, line, is_from_ok, ha, hb, boolsOf, qa, goodW]
      | true =>
      obtain ⟨i, rfl, _, _⟩ := isI_int qa
      cases qb : isI (-1000000000000000000000000000000) 1000000000000000000000000000000 b with
      | false => simp [fd_is_good_watcher, init, isiT, tyT, cutL, HT.sIx, lcL, lcT, bindT, wipeR, line, is_from_ok, ha, hb, boolsOf, qa, qb, goodW]
      | true =>
      obtain ⟨j, rfl, _, _⟩ := isI_int qb
      by_cases hij : i ≤ j
      · have hij' : ¬ j < i := by omega
        cases qc : isI 0 3 c with
        | false => simp [fd_is_good_watcher, init, isiT, tyT, cutL, HT.sIx, lcL, lcT, bindT, wipeR, line, is_from_ok, hc, hd, boolsOf, qa, qb, qc, goodW, hij', leT, hij]
        | true =>
        cases qd : isI 0 3 d with
        | false => simp [fd_is_good_watcher, init, isiT, tyT, cutL, HT.sIx, lcL, lcT, bindT, wipeR, line, is_from_ok, hc, hd, boolsOf, qa, qb, qc, qd, goodW, hij', leT, hij]
        | true =>
        cases qe : isI 1 3 e with
        | false => simp [fd_is_good_watcher, init, isiT, tyT, cutL, HT.sIx, lcL, lcT, bindT, wipeR, line, is_from_ok, hc, hd, he, hf, boolsOf, qa, qb, qc, qd, qe, goodW, hij', leT, hij]
        | true =>
        cases qf : isI 1 3 f with
        | false => simp [fd_is_good_watcher, init, isiT, tyT, cutL, HT.sIx, lcL, lcT, bindT, wipeR, line, is_from_ok, hc, hd, he, hf, boolsOf, qa, qb, qc, qd, qe, qf, goodW, hij', leT, hij]
        | true =>
        cases g with
        | str s => simp [fd_is_good_watcher, init, isiT, tyT, cutL, HT.sIx, lcL, lcT, bindT, wipeR, line, is_from_ok, hc, hd, he, hf, boolsOf, qa, qb, qc, qd, qe, qf, goodW, hij', leT, hij, in_kd2]
        | fn s => simp [pl] at hg
        | box s => simp [pl] at hg
        | scr s => simp [pl] at hg
        | err s1 s2 s3 => simp [pl] at hg
        | _ => simp [fd_is_good_watcher, init, isiT, tyT, cutL, HT.sIx, lcL, lcT, bindT, wipeR, line, is_from_ok, hc, hd, he, hf, boolsOf, qa, qb, qc, qd, qe, qf, goodW, hij', leT, hij, isKD]
      · have hij' : j < i := by omega
        simp [fd_is_good_watcher, init, isiT, tyT, cutL, HT.sIx, lcL, lcT, bindT, wipeR, line, is_from_ok, ha, hb, boolsOf, qa, qb, goodW, hij', leT, hij]
    · have h7' : ¬ (l.length : Int) = 7 := by omega
      simp [fd_is_good_watcher, init, isiT, tyT, h7', goodW_len h7]
  | fn s => simp [pl] at ht
  | box s => simp [pl] at ht
  | scr s => simp [pl] at ht
  | err s1 s2 s3 => simp [pl] at ht
  | _ => simp [fd_is_good_watcher, init, isiT, tyT, goodW]
/-! ## is_good_world, is_good_walk -/
def goodWd : T → Bool
  | .tup [a, b, c] => isI 0 3 a && isI 0 3 b && isI 0 2 c
  | _ => false
theorem goodWd_len {l : List T} (h : l.length ≠ 3) : goodWd (.tup l) = false := by
  unfold goodWd
  split
  · simp_all
  · rfl
theorem igd_ok (n : Nat) (t : T) (S : Sto) (hpl : pl2 t) : runO prg (n + 2) i_is_good_world [t] S = some (.ok (.bl (goodWd t)) S) := by
  rw [run_succ prg (n + 1) i_is_good_world _ S fd_is_good_world rfl rfl]
  obtain ⟨ht, hl⟩ := hpl
  cases t with
  | tup l =>
    by_cases h7 : l.length = 3
    · obtain ⟨a, b, c, rfl⟩ := len3 h7
      have hp := hl _ rfl
      have ha := hp a (by simp); have hb := hp b (by simp); have hc := hp c (by simp)
      cases qa : isI 0 3 a with
      | false => simp [fd_is_good_world, init, isiT, tyT, cutL, HT.sIx, lcL, lcT, bindT, wipeR, line, is_from_ok, ha, hb, boolsOf, qa, goodWd]
      | true =>
      cases qb : isI 0 3 b with
      | false => simp [fd_is_good_world, init, isiT, tyT, cutL, HT.sIx, lcL, lcT, bindT, wipeR, line, is_from_ok, ha, hb, boolsOf, qa, qb, goodWd]
      | true => simp [fd_is_good_world, init, isiT, tyT, cutL, HT.sIx, lcL, lcT, bindT, wipeR, line, is_from_ok, ha, hb, hc, boolsOf, qa, qb, goodWd]
    · have h7' : ¬ (l.length : Int) = 3 := by omega
      simp [fd_is_good_world, init, isiT, tyT, h7', goodWd_len h7]
  | fn s => simp [pl] at ht
  | box s => simp [pl] at ht
  | scr s => simp [pl] at ht
  | err s1 s2 s3 => simp [pl] at ht
  | _ => simp [fd_is_good_world, init, isiT, tyT, goodWd]
theorem need_world_ok (n : Nat) (t : T) (S : Sto) (hpl : pl2 t) (hg : goodWd t = true) : runO prg (n + 3) i_need_world [t] S = some (.ok .non S) := by
  rw [run_succ prg (n + 2) i_need_world _ S fd_need_world rfl rfl]
  simp [fd_need_world, init, igd_ok, hpl, hg]
/-- a world -/
def mkWd (a b c : Int) : T := .tup [.int a, .int b, .int c]
def WdOk (a b c : Int) : Prop := 0 ≤ a ∧ a ≤ 3 ∧ 0 ≤ b ∧ b ≤ 3 ∧ 0 ≤ c ∧ c ≤ 2
theorem mkWd_pl (a b c : Int) : pl2 (mkWd a b c) := by
  refine ⟨rfl, fun l h x hx => ?_⟩
  unfold mkWd at h
  cases h
  simp at hx
  rcases hx with rfl | rfl | rfl <;> rfl
theorem mkWd_good {a b c : Int} (h : WdOk a b c) : goodWd (mkWd a b c) = true := by
  obtain ⟨h1, h2, h3, h4, h5, h6⟩ := h
  simp [goodWd, mkWd, isI, h1, h2, h3, h4, h5, h6]
/-! ## watchers, worlds, trips drawn -/
def mkW (a b c d e f : Int) (g : Str) : T := .tup [.int a, .int b, .int c, .int d, .int e, .int f, .str g]
def WOk (w : Int) (a b c d e f : Int) (g : Str) : Prop := -3 ≤ a ∧ a ≤ 7 ∧ a ≤ b ∧ b ≤ a + w ∧ 0 ≤ c ∧ c ≤ 3 ∧ 0 ≤ d ∧ d ≤ 3 ∧ 1 ≤ e ∧ e ≤ 3 ∧ 1 ≤ f ∧ f ≤ 3 ∧ (g = Str.ofString "keep" ∨ g = Str.ofString "drop")
theorem any_int (n k : Nat) (S : Sto) (l : List Int) (h : Tn S k) (hl : l ≠ []) (hl2 : l.length < 1073741824) :
    ∃ t S', runO prg (n + 2) i_law_any [.box k, .lst (l.map T.int)] S = some (.ok (.int t) S') ∧ t ∈ l ∧ Tw k S S' := by
  obtain ⟨t, S', e, hm, w⟩ := any_ok n k S (l.map T.int) h (by simpa using hl) (by simpa using hl2)
  obtain ⟨i, hi, rfl⟩ := List.mem_map.mp hm
  exact ⟨i, S', e, hi, w⟩
theorem law_watcher_ok (n k : Nat) (S : Sto) (w : Int) (h : Tn S k) (hw : 0 ≤ w) (hw2 : w < 1000000) :
    ∃ a b c d e f g S', runO prg (n + 3) i_law_watcher [.box k, .int w] S = some (.ok (mkW a b c d e f g) S') ∧ WOk w a b c d e f g ∧ Tw k S S' := by
  obtain ⟨a, S1, e1, m1, w1⟩ := any_int n k S [0, 0, -3, 7] h (by simp) (by simp)
  obtain ⟨b, S2, e2, b0, b1, w2⟩ := scoop_ok (n + 1) k S1 (w + 1) w1.tn (by omega) (by omega)
  obtain ⟨e, S3, e3, m3, w3⟩ := any_int n k S2 [0, 0, 1, 2] w2.tn (by simp) (by simp)
  obtain ⟨f, S4, e4, m4, w4⟩ := any_int n k S3 [0, 0, 1, 2] w3.tn (by simp) (by simp)
  obtain ⟨c, S5, e5, m5, w5⟩ := any_int n k S4 [0, 0, 1, 2, 3] w4.tn (by simp) (by simp)
  obtain ⟨d, S6, e6, m6, w6⟩ := any_int n k S5 [0, 0, 1, 2, 3] w5.tn (by simp) (by simp)
  obtain ⟨g, S7, e7, m7, w7⟩ := any_ok n k S6 [.str (Str.ofString "keep"), .str (Str.ofString "drop")] w6.tn (by simp) (by simp)
  have wt := ((((((w1.trans w2).trans w3).trans w4).trans w5).trans w6).trans w7)
  simp only [List.mem_cons, List.not_mem_nil, or_false] at m1 m3 m4 m5 m6 m7
  obtain ⟨s, rfl, hs⟩ : ∃ s, g = .str s ∧ (s = Str.ofString "keep" ∨ s = Str.ofString "drop") := by
    rcases m7 with rfl | rfl
    · exact ⟨_, rfl, .inl rfl⟩
    · exact ⟨_, rfl, .inr rfl⟩
  refine ⟨a, a + b, c, d, 1 + e, 1 + f, s, S7, ?_, ⟨by omega, by omega, by omega, by omega, by omega, by omega, by omega, by omega, by omega, by omega, by omega, by omega, hs⟩, wt⟩
  simp only [List.map_cons, List.map_nil] at e1 e3 e4 e5 e6
  rw [run_succ prg (n + 2) i_law_watcher _ S fd_law_watcher rfl rfl]
  simp [fd_law_watcher, init, e1, bindT, e2, e3, e4, e5, e6, e7, line, bq_addT, mkW, fin1_le, wt.len]
def lookT : Option Int → T
  | none => .non
  | some k => .int k
/-! ## words and stands -/
def depI (lo hi p : Int) : Int := if hi - p < p - lo then hi - p else p - lo
inductive Wd4 where | lost | inn | out | edge
  deriving DecidableEq
def Wd4.s : Wd4 → Str
  | .lost => Str.ofString "lost" | .inn => Str.ofString "in" | .out => Str.ofString "out" | .edge => Str.ofString "edge"
def wordD (inn out d : Int) : Wd4 := if inn ≤ d then .inn else if d < 0 - out then .out else .edge
def wordL (lo hi inn out : Int) : Option Int → Wd4
  | none => .lost
  | some k => wordD inn out (depI lo hi k)
inductive Sd where | no | come | gone
  deriving DecidableEq
def Sd.t : Sd → T
  | .no => .non | .come => .str (Str.ofString "come") | .gone => .str (Str.ofString "gone")
def isKeep (g : Str) : Bool := g == Str.ofString "keep"
/-- behind a word: within, row, what is said -/
def stepI (come gone : Int) (keep w : Bool) (row : Int) (x : Wd4) : Bool × Int × Sd :=
  if x = .lost then (w, if keep then row else 0, .no)
  else if x ≠ (if w then .out else .inn) then (w, 0, .no)
  else if row + 1 < (if w then gone else come) then (w, row + 1, .no)
  else (!w, 0, if w then .gone else .come)
def stT (w : Bool) (row : Int) : T := .tup [.bl w, .int row]
theorem co_str (S : Sto) (a b : Str) : cop S .Eq (.str a) (.str b) = some (a == b) := by
  simp [cop, eqT, toD, shal, PyData.depth, PyData.eqv]
theorem co_strN (S : Sto) (a b : Str) : cop S .NotEq (.str a) (.str b) = some (!(a == b)) := by
  simp [cop, eqT, toD, shal, PyData.depth, PyData.eqv]
theorem w_lost (x : Wd4) : (x.s == Str.ofString "lost") = decide (x = .lost) := by cases x <;> decide
theorem w_out (x : Wd4) : (x.s == Str.ofString "out") = decide (x = .out) := by cases x <;> decide
theorem w_in (x : Wd4) : (x.s == Str.ofString "in") = decide (x = .inn) := by cases x <;> decide
theorem cv_neg : ∀ (S : Sto) (l : List T), l.length = 7 → ixT S (.tup l) (.int (-1)) = l[6]? := by
  intro S l h
  simp [ixT, drf, atI, ixN, h]
theorem stepped_ok (n : Nat) (a b c d e f : Int) (g : Str) (w : Bool) (row : Int) (x : Wd4) (S : Sto) :
    runO prg (n + 1) i_stepped [mkW a b c d e f g, stT w row, .str x.s] S = some (.ok (.tup [stT (stepI e f (isKeep g) w row x).1 (stepI e f (isKeep g) w row x).2.1, (stepI e f (isKeep g) w row x).2.2.t]) S) := by
  rw [run_succ prg n i_stepped _ S fd_stepped rfl rfl]
  by_cases h1 : x = .lost
  · subst h1
    cases hk : isKeep g with
    | true =>
      have hk' : (g == Str.ofString "keep") = true := hk
      simp [fd_stepped, init, mkW, stT, bindT, co_str, w_lost, hk', stepI, line, Sd.t]
    | false =>
      have hk' : (g == Str.ofString "keep") = false := hk
      simp [fd_stepped, init, mkW, stT, bindT, co_str, w_lost, hk', stepI, line, Sd.t]
  · cases w with
    | true =>
      by_cases h2 : x = .out
      · subst h2
        by_cases h3 : row + 1 < f
        · simp [fd_stepped, init, mkW, stT, bindT, co_str, co_strN, w_lost, w_out, stepI, line, Sd.t, h3]
        · simp [fd_stepped, init, mkW, stT, bindT, co_str, co_strN, w_lost, w_out, stepI, line, Sd.t, h3]
      · simp [fd_stepped, init, mkW, stT, bindT, co_str, co_strN, w_lost, w_out, stepI, line, Sd.t, h1, h2]
    | false =>
      by_cases h2 : x = .inn
      · subst h2
        by_cases h3 : row + 1 < e
        · simp [fd_stepped, init, mkW, stT, bindT, co_str, co_strN, w_lost, w_in, stepI, line, Sd.t, h3]
        · simp [fd_stepped, init, mkW, stT, bindT, co_str, co_strN, w_lost, w_in, stepI, line, Sd.t, h3]
      · simp [fd_stepped, init, mkW, stT, bindT, co_str, co_strN, w_lost, w_in, stepI, line, Sd.t, h1, h2]
theorem law_word_ok (n : Nat) (a b c d e f : Int) (g : Str) (hc : 0 ≤ c) (hd : 0 ≤ d) (k : Option Int) (S : Sto) : runO prg (n + 1) i_law_word [mkW a b c d e f g, lookT k] S = some (.ok (.str (wordL a b c d k).s) S) := by
  rw [run_succ prg n i_law_word _ S fd_law_word rfl rfl]
  cases k with
  | none => simp [fd_law_word, init, lookT, cop, wordL, Wd4.s]
  | some k =>
    have hD : depI a b k = (if b - k < k - a then b - k else k - a) := rfl
    by_cases h1 : a + c ≤ k
    · by_cases h2 : k ≤ b - c
      · have hw : wordL a b c d (some k) = .inn := by
          simp only [wordL, wordD]; rw [if_pos]; rw [hD]; split <;> omega
        simp [fd_law_word, init, lookT, cop, mkW, hw, Wd4.s, h1, h2]
      · by_cases h4 : k ≤ b + d
        · have hw : wordL a b c d (some k) = .edge := by
            simp only [wordL, wordD]; rw [if_neg, if_neg] <;> rw [hD] <;> split <;> omega
          have h3 : a - d ≤ k := by omega
          simp [fd_law_word, init, lookT, cop, mkW, hw, Wd4.s, h1, h2, h3, h4]
        · have hw : wordL a b c d (some k) = .out := by
            simp only [wordL, wordD]; rw [if_neg, if_pos] <;> rw [hD] <;> split <;> omega
          have h3 : a - d ≤ k := by omega
          simp [fd_law_word, init, lookT, cop, mkW, hw, Wd4.s, h1, h2, h3, h4]
    · by_cases h3 : a - d ≤ k
      · by_cases h4 : k ≤ b + d
        · have hw : wordL a b c d (some k) = .edge := by
            simp only [wordL, wordD]; rw [if_neg, if_neg] <;> rw [hD] <;> split <;> omega
          simp [fd_law_word, init, lookT, cop, mkW, hw, Wd4.s, h1, h3, h4]
        · have hw : wordL a b c d (some k) = .out := by
            simp only [wordL, wordD]; rw [if_neg, if_pos] <;> rw [hD] <;> split <;> omega
          simp [fd_law_word, init, lookT, cop, mkW, hw, Wd4.s, h1, h3, h4]
      · have hw : wordL a b c d (some k) = .out := by
          simp only [wordL, wordD]; rw [if_neg, if_pos] <;> rw [hD] <;> split <;> omega
        simp [fd_law_word, init, lookT, cop, mkW, hw, Wd4.s, h1, h3]
theorem law_onward_ok (n : Nat) (a b c d e f : Int) (g : Str) (hc : 0 ≤ c) (hd : 0 ≤ d) (w : Bool) (row : Int) (k : Option Int) (S : Sto) :
    runO prg (n + 2) i_law_onward [mkW a b c d e f g, stT w row, lookT k] S = some (.ok (.tup [stT (stepI e f (isKeep g) w row (wordL a b c d k)).1 (stepI e f (isKeep g) w row (wordL a b c d k)).2.1, (stepI e f (isKeep g) w row (wordL a b c d k)).2.2.t]) S) := by
  rw [run_succ prg (n + 1) i_law_onward _ S fd_law_onward rfl rfl]
  have hw := fun S => law_word_ok n a b c d e f g hc hd k S
  simp only [mkW] at hw
  generalize wordL a b c d k = x at hw
  by_cases h1 : x = .lost
  · subst h1
    cases hk : isKeep g with
    | true =>
      have hk' : (g == Str.ofString "keep") = true := hk
      simp [fd_law_onward, init, mkW, stT, bindT, hw, co_str, w_lost, hk', stepI, line, Sd.t]
    | false =>
      have hk' : (g == Str.ofString "keep") = false := hk
      cases w <;> simp [fd_law_onward, init, mkW, stT, bindT, hw, co_str, co_strN, w_lost, w_out, w_in, hk', stepI, line, Sd.t]
  · cases w with
    | true =>
      by_cases h2 : x = .out
      · subst h2
        by_cases h3 : row + 1 < f
        · simp [fd_law_onward, init, mkW, stT, bindT, hw, co_str, co_strN, w_lost, w_out, stepI, line, Sd.t, h3]
        · simp [fd_law_onward, init, mkW, stT, bindT, hw, co_str, co_strN, w_lost, w_out, stepI, line, Sd.t, h3]
      · simp [fd_law_onward, init, mkW, stT, bindT, hw, co_str, co_strN, w_lost, w_out, stepI, line, Sd.t, h1, h2]
    | false =>
      by_cases h2 : x = .inn
      · subst h2
        by_cases h3 : row + 1 < e
        · simp [fd_law_onward, init, mkW, stT, bindT, hw, co_str, co_strN, w_lost, w_in, stepI, line, Sd.t, h3]
        · simp [fd_law_onward, init, mkW, stT, bindT, hw, co_str, co_strN, w_lost, w_in, stepI, line, Sd.t, h3]
      · simp [fd_law_onward, init, mkW, stT, bindT, hw, co_str, co_strN, w_lost, w_in, stepI, line, Sd.t, h1, h2]
/-! ## standings, as the program folds them -/
theorem run_to {n f : Nat} {ts : List T} {S S' : Sto} {fd : FD} {t u : T} (h : prg.tab f = some fd) (hl : ts.length = fd.np) (hb : noBxL 0 ts = true) (hm : fd.md = 1) (he : evS (evO prg n) fd.body (init fd ts) [] = some (.rt t S')) (hu : thaw 0 t S' = u) (ht : noBx 0 u = true) : runO prg (n + 1) f ts S = some (.ok u S) := by
  subst hu
  exact run_rt h hl hb hm he ht
theorem fin1_nil (t : T) : fin1 0 t [] = .ok t [] := id rfl
@[local simp high] theorem bq_max (S : Sto) (i j : Int) : bltT S .max [.int i, .int j] = some (.int (max i j)) := by
  rw [bl_max]; congr 2; split <;> omega
@[local simp high] theorem bq_min (S : Sto) (i j : Int) : bltT S .min [.int i, .int j] = some (.int (min i j)) := by
  rw [bl_min]; congr 2; split <;> omega
/-- a loop that builds a value -/
theorem forL_fold {α β : Type} {g : T → Rho → Sto → ResS} (enc : α → T) (st : β → Rho → Prop) (step : β → α → β) (S : Sto) : ∀ (l : List α) (b : β) (ρ : Rho), st b ρ → (∀ (pre post : List α) (a : α) (ρ : Rho), l = pre ++ a :: post → st (pre.foldl step b) ρ → ∃ ρ', g (enc a) ρ S = some (.nx ρ' S) ∧ st (step (pre.foldl step b) a) ρ') → ∃ ρ', forL g (l.map enc) ρ S = some (.nx ρ' S) ∧ st (l.foldl step b) ρ'
  | [], b, ρ, h, _ => ⟨ρ, rfl, h⟩
  | a :: l, b, ρ, h, k => by
    obtain ⟨ρ1, e1, h1⟩ := k [] l a ρ rfl h
    obtain ⟨ρ2, e2, h2⟩ := forL_fold enc st step S l (step b a) ρ1 h1 fun pre post x ρ e hs => by
      have := k (a :: pre) post x ρ (by rw [e]; rfl) hs
      exact this
    exact ⟨ρ2, by rw [List.map_cons, forL, e1]; exact e2, h2⟩
/-- .. that appends a list at each turn -/
theorem forL_app {α β : Type} {g : T → Rho → Sto → ResS} (enc : α → T) (fl : α → List β) (st : List β → Rho → Prop) (S : Sto) (l : List α) (b : List β) (ρ : Rho) (h : st b ρ) (k : ∀ (pre post : List α) (a : α) (ρ : Rho), l = pre ++ a :: post → st (b ++ pre.flatMap fl) ρ → ∃ ρ', g (enc a) ρ S = some (.nx ρ' S) ∧ st (b ++ pre.flatMap fl ++ fl a) ρ') :
    ∃ ρ', forL g (l.map enc) ρ S = some (.nx ρ' S) ∧ st (b ++ l.flatMap fl) ρ' := by
  have key : ∀ (l : List α) (b : List β), l.foldl (fun b a => b ++ fl a) b = b ++ l.flatMap fl := by
    intro l
    induction l with
    | nil => intro b; simp
    | cons a l ih => intro b; rw [List.foldl_cons, ih, List.flatMap_cons, List.append_assoc]
  rw [← key l b]
  refine forL_fold enc st (fun b a => b ++ fl a) S l b ρ h fun pre post a ρ e hs => ?_
  rw [key] at hs ⊢
  exact k pre post a ρ e hs
structure Wt where
  a : Int
  b : Int
  c : Int
  d : Int
  e : Int
  f : Int
  g : Str
def Wt.t (w : Wt) : T := mkW w.a w.b w.c w.d w.e w.f w.g
structure Wt.Ok (w : Wt) : Prop where
  ab : w.a ≤ w.b
  c0 : 0 ≤ w.c
  c3 : w.c ≤ 3
  d0 : 0 ≤ w.d
  d3 : w.d ≤ 3
  e1 : 1 ≤ w.e
  e3 : w.e ≤ 3
  f1 : 1 ≤ w.f
  f3 : w.f ≤ 3
  al : -1000000000000000000000000000000 ≤ w.a
  bh : w.b ≤ 1000000000000000000000000000000
  kd : w.g = Str.ofString "keep" ∨ w.g = Str.ofString "drop"
structure Wo where
  p : Int
  r : Int
  z : Int
def Wo.t (o : Wo) : T := mkWd o.p o.r o.z
abbrev Wo.Ok (o : Wo) : Prop := WdOk o.p o.r o.z
theorem nbL_map {α : Type} {f : α → T} : ∀ (l : List α), (∀ a ∈ l, noBx 0 (f a) = true) → noBxL 0 (l.map f) = true
  | [], _ => rfl
  | a :: l, h => by
    simp only [List.map_cons, noBxL, Bool.and_eq_true]
    exact ⟨h a (by simp), nbL_map l fun b hb => h b (by simp [hb])⟩
theorem nb_strs (l : List Wd4) : noBx 0 (.lst (l.map fun x => T.str x.s)) = true := nbL_map l fun _ _ => rfl
def Wt.half (w : Wt) : Int := (w.b - w.a) / 2
def Wt.step (w : Wt) (st : Bool × Int) (x : Wd4) : (Bool × Int) × Sd := (((stepI w.e w.f (isKeep w.g) st.1 st.2 x).1, (stepI w.e w.f (isKeep w.g) st.1 st.2 x).2.1), (stepI w.e w.f (isKeep w.g) st.1 st.2 x).2.2)
def tS2 (st : Bool × Int) : T := stT st.1 st.2
/-- how deep, the stand, how many were lost -/
structure Sg where
  d : Int
  s : Bool × Int
  l : Int
  deriving DecidableEq
def Sg.t (x : Sg) : T := .tup [.int x.d, tS2 x.s, .int x.l]
structure Rw where
  x : Sg
  w : Wd4
  k : Sd
def Rw.t (r : Rw) : T := .tup [r.x.t, .str r.w.s, r.k.t]
def wordsS (w : Wt) (o : Wo) (dp l : Int) : List Wd4 :=
  (if w.c ≤ min (dp + o.r) w.half then [Wd4.inn] else []) ++ (if dp - o.r < -w.d then [Wd4.out] else []) ++ (if max (dp - o.r) (-w.d) ≤ min (dp + o.r) (min w.half (w.c - 1)) then [Wd4.edge] else []) ++ (if l < o.z then [Wd4.lost] else [])
theorem half_ok (n : Nat) (w : Wt) (S : Sto) : runO prg (n + 1) i_half_of [w.t] S = some (.ok (.int w.half) S) := by
  have h2 : bop .FloorDiv (.int (w.b - w.a)) (.int 2) = some (.int w.half) := by simp [bop, Wt.half]
  exact run_to (fd := fd_half_of) (t := .int w.half) (S' := []) rfl rfl rfl rfl (by simp [fd_half_of, init, Wt.t, mkW, h2]) rfl rfl
def boundsS (w : Wt) (o : Wo) (reach : Int) : Int × Int := (0 - max (w.d + o.r + 1) reach, min w.half (max (w.c + o.r) reach))
theorem bounds_ok (n : Nat) (w : Wt) (o : Wo) (reach : Int) (S : Sto) : runO prg (n + 2) i_bounds [w.t, o.t, .int reach] S = some (.ok (.tup [.int (boundsS w o reach).1, .int (boundsS w o reach).2]) S) := by
  have h := half_ok n w []
  simp only [Wt.t, mkW] at h
  exact run_to (fd := fd_bounds) (t := .tup [.int (boundsS w o reach).1, .int (boundsS w o reach).2]) (S' := []) rfl rfl rfl rfl (by simp [fd_bounds, init, Wt.t, mkW, Wo.t, mkWd, h, bindT, boundsS, line]) rfl rfl
theorem words_ok (n : Nat) (w : Wt) (o : Wo) (dp l : Int) (S : Sto) : runO prg (n + 2) i_words_at [w.t, o.t, .int dp, .int l] S = some (.ok (.lst ((wordsS w o dp l).map fun x => .str x.s)) S) := by
  have h := half_ok n w []
  simp only [Wt.t, mkW] at h
  refine run_to (fd := fd_words_at) (t := .lst ((wordsS w o dp l).map fun x => .str x.s)) (S' := []) rfl rfl rfl rfl ?_ rfl ?_
  · by_cases h1 : w.c ≤ min (dp + o.r) w.half <;> by_cases h2 : dp - o.r < -w.d <;> by_cases h3 : max (dp - o.r) (-w.d) ≤ min (dp + o.r) (min w.half (w.c - 1)) <;> by_cases h4 : l < o.z <;>
      simp [fd_words_at, init, Wt.t, mkW, Wo.t, mkWd, h, bindT, wordsS, line, h1, h2, h3, h4, Wd4.s, bq_addL]
  · exact nb_strs _
def lookedS (w : Wt) (o : Wo) (s : Bool × Int) (l dp : Int) : List Rw := (wordsS w o dp l).map fun x => ⟨⟨dp, (w.step s x).1, if x = .lost then l + 1 else 0⟩, x, (w.step s x).2⟩
theorem words_len (w : Wt) (o : Wo) (dp l : Int) : (wordsS w o dp l).length ≤ 4 := by
  unfold wordsS
  simp only [List.length_append]
  split <;> split <;> split <;> split <;> simp
theorem nb_row (r : Rw) : noBx 0 r.t = true := by
  obtain ⟨x, w, k⟩ := r
  cases k <;> rfl
theorem nb_rows (l : List Rw) : noBx 0 (.lst (l.map Rw.t)) = true := nbL_map l fun r _ => nb_row r
/-- .. that appends one thing at each turn -/
theorem forL_one {α β : Type} {g : T → Rho → Sto → ResS} (enc : α → T) (fl : α → β) (st : List β → Rho → Prop) (S : Sto) (l : List α) (ρ : Rho) (h : st [] ρ) (k : ∀ (pre post : List α) (a : α) (ρ : Rho), l = pre ++ a :: post → st (pre.map fl) ρ → ∃ ρ', g (enc a) ρ S = some (.nx ρ' S) ∧ st (pre.map fl ++ [fl a]) ρ') :
    ∃ ρ', forL g (l.map enc) ρ S = some (.nx ρ' S) ∧ st (l.map fl) ρ' := by
  have e : ∀ l : List α, l.flatMap (fun a => [fl a]) = l.map fl := by
    intro l
    induction l with
    | nil => rfl
    | cons a l ih => rw [List.flatMap_cons, ih]; rfl
  have := forL_app (g := g) enc (fun a => [fl a]) st S l [] ρ h fun pre post a ρ hl hs => by
    rw [e, List.nil_append] at hs ⊢
    exact k pre post a ρ hl hs
  rwa [e, List.nil_append] at this
def lookedR (w : Wt) (s : Bool × Int) (l dp : Int) (x : Wd4) : Rw := ⟨⟨dp, (w.step s x).1, if x = .lost then l + 1 else 0⟩, x, (w.step s x).2⟩
theorem looked_ok (n : Nat) (w : Wt) (o : Wo) (s : Bool × Int) (l dp : Int) (S : Sto) : runO prg (n + 3) i_looked [w.t, o.t, tS2 s, .int l, .int dp] S = some (.ok (.lst ((lookedS w o s l dp).map Rw.t)) S) := by
  have hw := words_ok n w o dp l []
  have ef := forL_one (g := frT (evO prg (n + 2)) (.nm 6) (.seq (.asg (.tp (.cn (.nm 7) (.cn (.nm 8) .nl))) (.call 4 (.cons (.var 0) (.cons (.var 2) (.cons (.var 6) .nil))))) (.seq (.asg (.nm 5) (.op false .Add (.var 5) (.lst false (.cons (.tup (.cons (.tup (.cons (.var 4) (.cons (.var 7) (.cons (.ite (.cmp .Eq (.var 6) (.lit (.str (Str.ofString "lost")))) (.op false .Add (.var 3) (.lit (.int 1))) (.lit (.int 0))) .nil)))) (.cons (.var 6) (.cons (.var 8) .nil)))) .nil)))) .skip))) (fun x : Wd4 => T.str x.s) (lookedR w s l dp)
    (fun acc ρ => ∃ v6 v7 v8, ρ = [some w.t, some o.t, some (tS2 s), some (.int l), some (.int dp), some (.lst (acc.map Rw.t)), v6, v7, v8]) [] (wordsS w o dp l) [some w.t, some o.t, some (tS2 s), some (.int l), some (.int dp), some (.lst []), none, none, none] ⟨_, _, _, rfl⟩
    (fun pre post x ρ hl hs => by
      obtain ⟨v6, v7, v8, rfl⟩ := hs
      refine ⟨_, ?_, some (.str x.s), some (tS2 (w.step s x).1), some (w.step s x).2.t, rfl⟩
      have hlen : pre.length + 1 ≤ 16777216 := by
        have h4 := words_len w o dp l
        rw [hl] at h4
        simp only [List.length_append, List.length_cons] at h4
        omega
      have hst : runO prg (n + 2) i_stepped [w.t, tS2 s, .str x.s] [] = some (.ok (.tup [tS2 (w.step s x).1, (w.step s x).2.t]) []) := stepped_ok (n + 1) w.a w.b w.c w.d w.e w.f w.g s.1 s.2 x []
      rw [List.map_append]
      generalize hp : (pre.map (lookedR w s l dp)).map Rw.t = acc
      have ha : acc.length = pre.length := by rw [← hp]; simp
      by_cases hx : x = .lost
      · subst hx
        simp [frT, bindT, hst, line, co_str, w_lost, Rw.t, Sg.t, lookedR, bq_addL, ha, hlen]
      · simp [frT, bindT, hst, line, co_str, w_lost, hx, Rw.t, Sg.t, lookedR, bq_addL, ha, hlen])
  obtain ⟨ρ', ef, v6, v7, v8, rfl⟩ := ef
  have hl : (wordsS w o dp l).map (lookedR w s l dp) = lookedS w o s l dp := rfl
  rw [hl] at ef
  refine run_to (fd := fd_looked) (t := .lst ((lookedS w o s l dp).map Rw.t)) (S' := []) rfl rfl rfl rfl ?_ rfl (nb_rows _)
  have e0 : init fd_looked [w.t, o.t, tS2 s, .int l, .int dp] = [some w.t, some o.t, some (tS2 s), some (.int l), some (.int dp), none, none, none, none] := rfl
  rw [e0]
  simp [fd_looked, bindT, hw, line, ef, seqT]
/-! ## k10: firsts, nexts, standings -/
def irg (a b : Int) : List Int := (List.range (b - a).toNat).map fun k => a + (k : Nat)
theorem rng_irg (a b : Int) : rngT a (b - a).toNat = (irg a b).map .int := by simp [rngT, irg]
theorem mem_irg {a b x : Int} : x ∈ irg a b ↔ a ≤ x ∧ x < b := by
  simp only [irg, List.mem_map, List.mem_range]
  constructor
  · rintro ⟨k, hk, rfl⟩; omega
  · rintro ⟨h1, h2⟩; exact ⟨(x - a).toNat, by omega, by omega⟩
theorem len_irg (a b : Int) : (irg a b).length = (b - a).toNat := by simp [irg]
theorem fm_len {α β : Type} {f : α → List β} {c : Nat} : ∀ {l : List α}, (∀ a ∈ l, (f a).length ≤ c) → (l.flatMap f).length ≤ c * l.length
  | [], _ => by simp
  | a :: l, h => by
    have := fm_len (l := l) fun b hb => h b (by simp [hb])
    have := h a (by simp)
    simp only [List.flatMap_cons, List.length_append, List.length_cons, Nat.mul_add]
    omega
def firstsS (w : Wt) (o : Wo) (R : Int) : List Rw := (irg (boundsS w o R).1 ((boundsS w o R).2 + 1)).flatMap (lookedS w o (false, 0) 0)
def nextsS (w : Wt) (o : Wo) (R : Int) (x : Sg) : List Rw := (irg (max (boundsS w o R).1 (x.d - o.p)) (min (boundsS w o R).2 (x.d + o.p) + 1)).flatMap (lookedS w o x.s x.l)
theorem bd_le {w : Wt} {o : Wo} {R : Int} (hw : w.Ok) (ho : o.Ok) (h0 : 0 ≤ R) (h1 : R ≤ 1000) : -1000 ≤ (boundsS w o R).1 ∧ (boundsS w o R).1 ≤ -1 ∧ 0 ≤ (boundsS w o R).2 ∧ (boundsS w o R).2 ≤ 1000 := by
  obtain ⟨h2, h3, h4, h5, h6, h7⟩ := ho
  have := hw.ab; have := hw.c0; have := hw.c3; have := hw.d0; have := hw.d3
  simp only [boundsS, Wt.half]
  refine ⟨by omega, by omega, by omega, by omega⟩
theorem firsts_ok (n : Nat) (w : Wt) (o : Wo) (R : Int) (hw : w.Ok) (ho : o.Ok) (h0 : 0 ≤ R) (h1 : R ≤ 1000) (S : Sto) : runO prg (n + 4) i_firsts [w.t, o.t, .int R] S = some (.ok (.lst ((firstsS w o R).map Rw.t)) S) := by
  have hb := bounds_ok (n + 1) w o R []
  obtain ⟨b1, b2, b3, b4⟩ := bd_le hw ho h0 h1
  have hF : firstsS w o R = (irg (boundsS w o R).1 ((boundsS w o R).2 + 1)).flatMap (lookedS w o (false, 0) 0) := rfl
  generalize boundsS w o R = B at hb b1 b2 b3 b4 hF
  obtain ⟨lo, hi⟩ := B
  simp only at hb b1 b2 b3 b4 hF
  have ef := forL_app (g := frT (evO prg (n + 3)) (.nm 4) (.seq (.asg (.nm 3) (.op false .Add (.var 3) (.call 9 (.cons (.var 0) (.cons (.var 1) (.cons (.tup (.cons (.lit (.bl false)) (.cons (.lit (.int 0)) .nil))) (.cons (.lit (.int 0)) (.cons (.var 4) .nil)))))))) .skip)) T.int (lookedS w o (false, 0) 0)
    (fun acc ρ => ∃ v4, ρ = [some w.t, some o.t, some (.int R), some (.lst (acc.map Rw.t)), v4, some (.int lo), some (.int hi)]) [] (irg lo (hi + 1)) [] [some w.t, some o.t, some (.int R), some (.lst []), none, some (.int lo), some (.int hi)] ⟨_, rfl⟩
    (fun pre post dp ρ hl hs => by
      obtain ⟨v4, rfl⟩ := hs
      refine ⟨_, ?_, some (.int dp), rfl⟩
      have hlk : runO prg (n + 3) i_looked [w.t, o.t, .tup [.bl false, .int 0], .int 0, .int dp] [] = some (.ok (.lst ((lookedS w o (false, 0) 0 dp).map Rw.t)) []) := looked_ok n w o (false, 0) 0 dp []
      have hlen : (pre.flatMap (lookedS w o (false, 0) 0)).length ≤ 4 * pre.length := fm_len fun a _ => by
        simp only [lookedS, List.length_map]; exact words_len w o a 0
      have hp : pre.length ≤ 2001 := by
        have := congrArg List.length hl
        rw [len_irg] at this
        simp only [List.length_append, List.length_cons] at this
        omega
      have hlen2 : (lookedS w o (false, 0) 0 dp).length ≤ 4 := by
        simp only [lookedS, List.length_map]; exact words_len w o dp 0
      rw [List.nil_append]
      rw [List.map_append]
      generalize hp : (pre.flatMap (lookedS w o (false, 0) 0)).map Rw.t = acc
      have ha : acc.length = (pre.flatMap (lookedS w o (false, 0) 0)).length := by rw [← hp]; simp
      have hle : acc.length + (lookedS w o (false, 0) 0 dp).length ≤ 16777216 := by omega
      simp [frT, bindT, hlk, line, bq_addL, hle])
  obtain ⟨ρ', ef, v4, rfl⟩ := ef
  rw [List.nil_append, ← hF] at ef
  have hr : evE (evO prg (n + 3)) (.rg2 (.var 5) (.op false .Add (.var 6) (.lit (.int 1)))) [some w.t, some o.t, some (.int R), some (.lst []), none, some (.int lo), some (.int hi)] [] = some (.ok (.tup ((irg lo (hi + 1)).map .int)) []) := by
    have k1 : okR lo = true := by simp [okR]; omega
    have k2 : okR (hi + 1) = true := by simp [okR]; omega
    simp [k1, k2, rng_irg]
  refine run_to (fd := fd_firsts) (t := .lst ((firstsS w o R).map Rw.t)) (S' := []) rfl rfl rfl rfl ?_ rfl (nb_rows _)
  have e0 : init fd_firsts [w.t, o.t, .int R] = [some w.t, some o.t, some (.int R), none, none, none, none] := rfl
  rw [e0]
  simp only [fd_firsts]
  rw [seq_nx (ρ' := [some w.t, some o.t, some (.int R), none, none, some (.int lo), some (.int hi)]) (S' := []) (by simp [hb, bindT])]
  rw [seq_nx (asg_eq (t := .lst []) (S1 := []) (by simp))]; simp only [List.set]
  rw [seq_nx (for_eq hr ef), seq_rt (ret_eq (t := .lst ((firstsS w o R).map Rw.t)) (S1 := []) (by simp))]
theorem nexts_ok (n : Nat) (w : Wt) (o : Wo) (R : Int) (x : Sg) (hw : w.Ok) (ho : o.Ok) (h0 : 0 ≤ R) (h1 : R ≤ 1000) (x0 : -1000 ≤ x.d) (x1 : x.d ≤ 1000) (S : Sto) : runO prg (n + 4) i_nexts [w.t, o.t, .int R, x.t] S = some (.ok (.lst ((nextsS w o R x).map Rw.t)) S) := by
  have hb := bounds_ok (n + 1) w o R []
  obtain ⟨b1, b2, b3, b4⟩ := bd_le hw ho h0 h1
  have hF : nextsS w o R x = (irg (max (boundsS w o R).1 (x.d - o.p)) (min (boundsS w o R).2 (x.d + o.p) + 1)).flatMap (lookedS w o x.s x.l) := rfl
  generalize boundsS w o R = B at hb b1 b2 b3 b4 hF
  obtain ⟨lo, hi⟩ := B
  simp only at hb b1 b2 b3 b4 hF
  obtain ⟨d, s, l⟩ := x
  simp only at hF x0 x1
  obtain ⟨p0, p3, _⟩ := id ho
  have ef := forL_app (g := frT (evO prg (n + 3)) (.nm 5) (.seq (.asg (.nm 4) (.op false .Add (.var 4) (.call 9 (.cons (.var 0) (.cons (.var 1) (.cons (.ix (.var 3) (.lit (.int 1))) (.cons (.ix (.var 3) (.lit (.int 2))) (.cons (.var 5) .nil)))))))) .skip)) T.int (lookedS w o s l)
    (fun acc ρ => ∃ v5, ρ = [some w.t, some o.t, some (.int R), some (Sg.t ⟨d, s, l⟩), some (.lst (acc.map Rw.t)), v5, some (.int lo), some (.int hi)]) [] (irg (max lo (d - o.p)) (min hi (d + o.p) + 1)) [] [some w.t, some o.t, some (.int R), some (Sg.t ⟨d, s, l⟩), some (.lst []), none, some (.int lo), some (.int hi)] ⟨_, rfl⟩
    (fun pre post dp ρ hl hs => by
      obtain ⟨v5, rfl⟩ := hs
      refine ⟨_, ?_, some (.int dp), rfl⟩
      have hlk : runO prg (n + 3) i_looked [w.t, o.t, tS2 s, .int l, .int dp] [] = some (.ok (.lst ((lookedS w o s l dp).map Rw.t)) []) := looked_ok n w o s l dp []
      have hlen : (pre.flatMap (lookedS w o s l)).length ≤ 4 * pre.length := fm_len fun a _ => by
        simp only [lookedS, List.length_map]; exact words_len w o a l
      have hp : pre.length ≤ 2001 := by
        have := congrArg List.length hl
        rw [len_irg] at this
        simp only [List.length_append, List.length_cons] at this
        omega
      have hlen2 : (lookedS w o s l dp).length ≤ 4 := by
        simp only [lookedS, List.length_map]; exact words_len w o dp l
      rw [List.nil_append]
      rw [List.map_append]
      generalize hp : (pre.flatMap (lookedS w o s l)).map Rw.t = acc
      have ha : acc.length = (pre.flatMap (lookedS w o s l)).length := by rw [← hp]; simp
      have hle : acc.length + (lookedS w o s l dp).length ≤ 16777216 := by omega
      simp [frT, bindT, hlk, line, bq_addL, hle, Sg.t])
  obtain ⟨ρ', ef, v5, rfl⟩ := ef
  rw [List.nil_append, ← hF] at ef
  have hr : evE (evO prg (n + 3)) (.rg2 (.blt false .max (.cons (.var 6) (.cons (.op false .Sub (.ix (.var 3) (.lit (.int 0))) (.ix (.var 1) (.lit (.int 0)))) .nil))) (.op false .Add (.blt false .min (.cons (.var 7) (.cons (.op false .Add (.ix (.var 3) (.lit (.int 0))) (.ix (.var 1) (.lit (.int 0)))) .nil))) (.lit (.int 1)))) [some w.t, some o.t, some (.int R), some (Sg.t ⟨d, s, l⟩), some (.lst []), none, some (.int lo), some (.int hi)] [] = some (.ok (.tup ((irg (max lo (d - o.p)) (min hi (d + o.p) + 1)).map .int)) []) := by
    have k1 : okR (max lo (d - o.p)) = true := by simp [okR]; omega
    have k2 : okR (min hi (d + o.p) + 1) = true := by simp [okR]; omega
    simp [k1, k2, rng_irg, Sg.t, Wo.t, mkWd]
  refine run_to (fd := fd_nexts) (t := .lst ((nextsS w o R ⟨d, s, l⟩).map Rw.t)) (S' := []) rfl rfl rfl rfl ?_ rfl (nb_rows _)
  have e0 : init fd_nexts [w.t, o.t, .int R, Sg.t ⟨d, s, l⟩] = [some w.t, some o.t, some (.int R), some (Sg.t ⟨d, s, l⟩), none, none, none, none] := rfl
  rw [e0]
  simp only [fd_nexts]
  rw [seq_nx (ρ' := [some w.t, some o.t, some (.int R), some (Sg.t ⟨d, s, l⟩), none, none, some (.int lo), some (.int hi)]) (S' := []) (by simp [hb, bindT])]
  rw [seq_nx (asg_eq (t := .lst []) (S1 := []) (by simp))]; simp only [List.set]
  rw [seq_nx (for_eq hr ef), seq_rt (ret_eq (t := .lst ((nextsS w o R ⟨d, s, l⟩).map Rw.t)) (S1 := []) (by simp))]
def reachS (w : Wt) (o : Wo) (n : Nat) : Int := w.c + w.d + 2 * o.r + 2 + o.p * n
theorem reach_ok (n : Nat) (w : Wt) (o : Wo) (k : Nat) (hw : w.Ok) (ho : o.Ok) (S : Sto) : runO prg (n + 1) i_reach_of [w.t, o.t, .int k] S = some (.ok (.int (reachS w o k)) S) := by
  obtain ⟨h2, h3, h4, h5, h6, h7⟩ := ho
  refine run_to (fd := fd_reach_of) (t := .int (reachS w o k)) (S' := []) rfl rfl rfl rfl ?_ rfl rfl
  have hm : bop .Mult (.int o.p) (.int k) = some (.int (o.p * k)) := bo_mulL (by simp [small64]; omega)
  have hm2 : bop .Mult (.int 2) (.int o.r) = some (.int (2 * o.r)) := bo_mulL (by simp [small64])
  simp [fd_reach_of, init, Wt.t, mkW, Wo.t, mkWd, hm, hm2, reachS]
/-! ## dicts by keys of one kind -/
theorem nodup_le {α : Type} : ∀ {l k : List α}, l.Nodup → (∀ x ∈ l, x ∈ k) → l.length ≤ k.length
  | [], k, _, _ => Nat.zero_le _
  | x :: l, k, hn, h => by
    obtain ⟨h1, h2⟩ := List.nodup_cons.mp hn
    obtain ⟨a, b, rfl⟩ := List.append_of_mem (h x (by simp))
    have := nodup_le (l := l) (k := a ++ b) h2 fun y hy => by
      have := h y (List.mem_cons_of_mem _ hy)
      simp only [List.mem_append, List.mem_cons] at this ⊢
      rcases this with z | z | z
      · exact .inl z
      · subst z; exact absurd hy h1
      · exact .inr z
    simp only [List.length_append, List.length_cons] at this ⊢
    omega
structure KE (α : Type) where
  t : α → T
  k : α → NestedKey
  h : ∀ a, tkey (t a) = some (k a)
  i : ∀ {a b}, k a = k b → a = b
def putA {α β : Type} [DecidableEq α] : List (α × β) → α → β → List (α × β)
  | [], a, b => [(a, b)]
  | (k, w) :: l, a, b => if k = a then (k, b) :: l else (k, w) :: putA l a b
def getA {α β : Type} [DecidableEq α] : List (α × β) → α → Option β
  | [], _ => none
  | (k, w) :: l, a => if k = a then some w else getA l a
def encD {α β : Type} (e : KE α) (v : β → T) (l : List (α × β)) : List (T × T) := l.map fun p => (e.t p.1, v p.2)
theorem KE.nk {α : Type} (e : KE α) (a : α) : nk (e.t a) = some (e.k a) := (tkey_nk (e.h a)).1
theorem KE.eqk {α : Type} (e : KE α) (a b : α) : Fw.nk (e.t a) = some (e.k b) ↔ a = b := by
  rw [e.nk]
  constructor
  · intro h; exact e.i (Option.some.inj h)
  · rintro rfl; rfl
theorem dPut_A {α β : Type} [DecidableEq α] (e : KE α) (v : β → T) (a : α) (b : β) : ∀ l : List (α × β), dPut (encD e v l) (e.t a) (e.k a) (v b) = encD e v (putA l a b)
  | [] => rfl
  | (k, w) :: l => by
    have ih := dPut_A e v a b l
    by_cases h : k = a
    · subst h
      have h' := e.nk k
      simp only [encD, List.map_cons, dPut, h', if_true, putA]
    · have h' : ¬ Fw.nk (e.t k) = some (e.k a) := fun z => h ((e.eqk k a).mp z)
      simp only [encD] at ih
      simp only [encD, List.map_cons, dPut, h', if_false, putA, h, ih]
theorem dGet_A {α β : Type} [DecidableEq α] (e : KE α) (v : β → T) (a : α) : ∀ l : List (α × β), dGet (encD e v l) (e.k a) = (getA l a).map v
  | [] => rfl
  | (k, w) :: l => by
    have ih := dGet_A e v a l
    by_cases h : k = a
    · subst h
      have h' := e.nk k
      simp only [encD, List.map_cons, dGet, h', if_true, getA, Option.map_some]
    · have h' : ¬ Fw.nk (e.t k) = some (e.k a) := fun z => h ((e.eqk k a).mp z)
      simp only [encD] at ih
      simp only [encD, List.map_cons, dGet, h', if_false, getA, h, ih]
theorem mem_putA {α β : Type} [DecidableEq α] (a : α) (b : β) : ∀ (l : List (α × β)) (x : α), x ∈ (putA l a b).map (·.1) ↔ x = a ∨ x ∈ l.map (·.1)
  | [], x => by simp [putA]
  | (k, w) :: l, x => by
    have ih := mem_putA a b l x
    unfold putA
    split
    · rename_i h; subst h; simp
    · simp only [List.map_cons, List.mem_cons, ih]
      constructor
      · rintro (h | h | h) <;> simp [h]
      · rintro (h | h | h) <;> simp [h]
theorem nd_putA {α β : Type} [DecidableEq α] (a : α) (b : β) : ∀ (l : List (α × β)), (l.map (·.1)).Nodup → ((putA l a b).map (·.1)).Nodup
  | [], _ => by simp [putA]
  | (k, w) :: l, hn => by
    simp only [List.map_cons, List.nodup_cons] at hn
    have ih := nd_putA a b l hn.2
    unfold putA
    split
    · simp only [List.map_cons, List.nodup_cons]; exact hn
    · rename_i h
      simp only [List.map_cons, List.nodup_cons]
      refine ⟨fun z => ?_, ih⟩
      rcases (mem_putA a b l k).mp z with z | z
      · exact h z
      · exact hn.1 z
theorem len_putA {α β : Type} [DecidableEq α] (a : α) (b : β) : ∀ (l : List (α × β)), (putA l a b).length ≤ l.length + 1
  | [] => by simp [putA]
  | (k, w) :: l => by
    have ih := len_putA a b l
    unfold putA
    split <;> simp only [List.length_cons] <;> omega
theorem getA_put {α β : Type} [DecidableEq α] (a : α) (b : β) (x : α) : ∀ (l : List (α × β)), getA (putA l a b) x = if x = a then some b else getA l x
  | [] => by
    by_cases h : a = x
    · subst h; simp [putA, getA]
    · have h' : ¬ x = a := fun z => h z.symm
      simp [putA, getA, h, h']
  | (k, w) :: l => by
    have ih := getA_put a b x l
    by_cases h : k = a
    · subst h
      by_cases h2 : k = x
      · subst h2; simp [putA, getA]
      · have h2' : ¬ x = k := fun z => h2 z.symm
        simp [putA, getA, h2, h2']
    · by_cases h2 : k = x
      · subst h2; simp [putA, getA, h]
      · simp [putA, getA, h, h2, ih]
theorem getA_mem {α β : Type} [DecidableEq α] (x : α) : ∀ (l : List (α × β)), (getA l x).isSome ↔ x ∈ l.map (·.1)
  | [] => by simp [getA]
  | (k, w) :: l => by
    have ih := getA_mem x l
    by_cases h : k = x
    · simp [getA, h]
    · have h' : ¬ x = k := fun z => h z.symm
      simp only [getA, h, if_false, ih, List.map_cons, List.mem_cons, h', false_or]
/-- the keys of a list, each once -/
def onceD {α : Type} [DecidableEq α] (l : List α) : List (α × Unit) := l.foldl (fun d a => putA d a ()) []
def once {α : Type} [DecidableEq α] (l : List α) : List α := (onceD l).map (·.1)
def trueT : Unit → T := fun _ => .bl true
theorem once_gen {α : Type} [DecidableEq α] : ∀ (l : List α) (d : List (α × Unit)), (d.map (·.1)).Nodup → ((l.foldl (fun d a => putA d a ()) d).map (·.1)).Nodup ∧ ∀ x, x ∈ (l.foldl (fun d a => putA d a ()) d).map (·.1) ↔ x ∈ l ∨ x ∈ d.map (·.1)
  | [], d, h => ⟨h, fun x => by simp⟩
  | a :: l, d, h => by
    obtain ⟨h1, h2⟩ := once_gen l (putA d a ()) (nd_putA a () d h)
    refine ⟨h1, fun x => ?_⟩
    rw [List.foldl_cons, h2, mem_putA, List.mem_cons]
    constructor
    · rintro (z | z | z) <;> simp [z]
    · rintro ((z | z) | z) <;> simp [z]
theorem once_nd {α : Type} [DecidableEq α] (l : List α) : (once l).Nodup := (once_gen l [] List.nodup_nil).1
theorem mem_once {α : Type} [DecidableEq α] (l : List α) (x : α) : x ∈ once l ↔ x ∈ l := by
  have := (once_gen l [] List.nodup_nil).2 x
  simpa [once, onceD] using this
theorem dMk_once {α : Type} [DecidableEq α] (e : KE α) : ∀ (l : List α) (d : List (α × Unit)), dMk (l.map fun a => .tup [e.t a, .bl true]) (encD e trueT d) = some (encD e trueT (l.foldl (fun d a => putA d a ()) d))
  | [], d => rfl
  | a :: l, d => by
    have ih := dMk_once e l (putA d a ())
    have hp := dPut_A e trueT a () d
    simp only [trueT] at hp
    simp only [List.map_cons, dMk, e.h, List.foldl_cons]
    rw [show (T.bl true) = trueT () from rfl, dPut_A]
    exact ih
theorem encD_keys {α β : Type} (e : KE α) (v : β → T) (l : List (α × β)) : (encD e v l).map (·.1) = (l.map (·.1)).map e.t := by simp [encD]
/-! ### standings as keys -/
def b2i (b : Bool) : Int := if b = true then 1 else 0
def Sg.k (x : Sg) : NestedKey := .tup [.num x.d, .tup [.num (b2i x.s.1), .num x.s.2], .num x.l]
def Sd.k : Sd → NestedKey
  | .no => .none | .come => .text (Str.ofString "come") | .gone => .text (Str.ofString "gone")
theorem b2i_inj {a b : Bool} (h : b2i a = b2i b) : a = b := by cases a <;> cases b <;> first | rfl | cases h
theorem Sg.ki {a b : Sg} (h : a.k = b.k) : a = b := by
  obtain ⟨d, ⟨s, r⟩, l⟩ := a
  obtain ⟨d', ⟨s', r'⟩, l'⟩ := b
  simp only [Sg.k, NestedKey.tup.injEq, List.cons.injEq, NestedKey.num.injEq, and_true] at h
  obtain ⟨rfl, ⟨h1, rfl⟩, rfl⟩ := h
  rw [b2i_inj h1]
theorem Sd.ki {a b : Sd} (h : a.k = b.k) : a = b := by
  cases a <;> cases b <;> first | rfl | exact NestedKey.noConfusion h | skip
  · exact absurd (NestedKey.text.inj h) (by decide)
  · exact absurd (NestedKey.text.inj h) (by decide)
def sgE : KE Sg where
  t := Sg.t
  k := Sg.k
  h x := by
    obtain ⟨d, ⟨s, r⟩, l⟩ := x
    rfl
  i := Sg.ki
def psT (p : Sg × Sd) : T := .tup [p.1.t, p.2.t]
def psE : KE (Sg × Sd) where
  t := psT
  k p := .tup [p.1.k, p.2.k]
  h x := by
    obtain ⟨⟨d, ⟨s, r⟩, l⟩, k⟩ := x
    cases k <;> rfl
  i := by
    intro a b h
    obtain ⟨x, k⟩ := a
    obtain ⟨y, j⟩ := b
    simp only [NestedKey.tup.injEq, List.cons.injEq, and_true] at h
    obtain ⟨h1, h2⟩ := h
    rw [Sg.ki h1, Sd.ki h2]
/-- standings of a box of numbers -/
structure SgB (a b : Int) (x : Sg) : Prop where
  d0 : a ≤ x.d
  d1 : x.d ≤ b
  r0 : 0 ≤ x.s.2
  r1 : x.s.2 ≤ 2
  l0 : 0 ≤ x.l
  l1 : x.l ≤ 2
def allSg (a b : Int) : List Sg := (irg a (b + 1)).flatMap fun d => [true, false].flatMap fun w => [0, 1, 2].flatMap fun r => [0, 1, 2].map fun l => ⟨d, (w, r), l⟩
theorem allSg_len (a b : Int) : (allSg a b).length ≤ 18 * (b + 1 - a).toNat := by
  have := fm_len (l := irg a (b + 1)) (c := 18) (f := fun d => [true, false].flatMap fun w => [0, 1, 2].flatMap fun r => [0, 1, 2].map fun l => (⟨d, (w, r), l⟩ : Sg)) (fun d _ => Nat.le_refl _)
  rw [len_irg] at this
  exact this
theorem allSg_mem {a b : Int} {x : Sg} (h : SgB a b x) : x ∈ allSg a b := by
  obtain ⟨d0, d1, r0, r1, l0, l1⟩ := h
  obtain ⟨d, ⟨s, r⟩, l⟩ := x
  simp only at d0 d1 r0 r1 l0 l1
  simp only [allSg, List.mem_flatMap]
  refine ⟨d, mem_irg.mpr ⟨d0, by omega⟩, s, by cases s <;> simp, r, ?_, ?_⟩
  · have : r = 0 ∨ r = 1 ∨ r = 2 := by omega
    rcases this with rfl | rfl | rfl <;> simp
  · have : l = 0 ∨ l = 1 ∨ l = 2 := by omega
    rcases this with rfl | rfl | rfl <;> simp
theorem few_sg {a b : Int} {l : List Sg} (hn : l.Nodup) (h : ∀ x ∈ l, SgB a b x) : l.length ≤ 18 * (b + 1 - a).toNat :=
  Nat.le_trans (nodup_le hn fun x hx => allSg_mem (h x hx)) (allSg_len a b)
/-! ### standings told -/
theorem bd_word {w : Wt} {s : Bool × Int} {x : Wd4} (hw : w.Ok) (h0 : 0 ≤ s.2) (h1 : s.2 ≤ 2) : 0 ≤ (w.step s x).1.2 ∧ (w.step s x).1.2 ≤ 2 := by
  obtain ⟨s, r⟩ := s
  have := hw.e1; have := hw.e3; have := hw.f1; have := hw.f3
  simp only at h0 h1
  cases s <;> cases x <;> simp [Wt.step, stepI] <;> split <;> first | omega | (simp only; omega) | simp
theorem mem_words {w : Wt} {o : Wo} {dp l : Int} (h : .lost ∈ wordsS w o dp l) : l < o.z := by
  unfold wordsS at h
  simp only [List.mem_append] at h
  rcases h with ((h | h) | h) | h
  · split at h <;> simp at h
  · split at h <;> simp at h
  · split at h <;> simp at h
  · split at h
    · assumption
    · simp at h
theorem looked_bd {w : Wt} {o : Wo} {s : Bool × Int} {l dp a b : Int} {r : Rw} (hw : w.Ok) (ho : o.Ok) (h0 : 0 ≤ s.2) (h1 : s.2 ≤ 2) (h2 : 0 ≤ l) (h3 : a ≤ dp) (h4 : dp ≤ b) (h : r ∈ lookedS w o s l dp) : SgB a b r.x := by
  simp only [lookedS, List.mem_map] at h
  obtain ⟨x, hx, rfl⟩ := h
  have hz : o.z ≤ 2 := ho.2.2.2.2.2
  obtain ⟨r0, r1⟩ := bd_word (x := x) hw h0 h1
  refine ⟨h3, h4, r0, r1, ?_, ?_⟩
  · simp only; split <;> omega
  · simp only
    split
    · rename_i e; subst e
      have := mem_words hx
      omega
    · omega
theorem firsts_bd {w : Wt} {o : Wo} {R : Int} {r : Rw} (hw : w.Ok) (ho : o.Ok) (h : r ∈ firstsS w o R) : SgB (boundsS w o R).1 (boundsS w o R).2 r.x := by
  simp only [firstsS, List.mem_flatMap] at h
  obtain ⟨d, hd, h⟩ := h
  obtain ⟨h1, h2⟩ := mem_irg.mp hd
  exact looked_bd hw ho (by simp) (by simp) (by simp) h1 (by omega) h
theorem nexts_bd {w : Wt} {o : Wo} {R : Int} {x : Sg} {r : Rw} {a b : Int} (hw : w.Ok) (ho : o.Ok) (hx : SgB a b x) (h : r ∈ nextsS w o R x) : SgB (boundsS w o R).1 (boundsS w o R).2 r.x := by
  simp only [nextsS, List.mem_flatMap] at h
  obtain ⟨d, hd, h⟩ := h
  obtain ⟨h1, h2⟩ := mem_irg.mp hd
  exact looked_bd hw ho hx.r0 hx.r1 hx.l0 (by omega) (by omega) h
theorem nexts_len (w : Wt) (o : Wo) (R : Int) (x : Sg) (ho : o.Ok) : (nextsS w o R x).length ≤ 28 := by
  have h := fm_len (l := irg (max (boundsS w o R).1 (x.d - o.p)) (min (boundsS w o R).2 (x.d + o.p) + 1)) (c := 4) (f := lookedS w o x.s x.l) fun d _ => by
    simp only [lookedS, List.length_map]; exact words_len w o d x.l
  rw [len_irg] at h
  have := ho.2.1
  have : (min (boundsS w o R).2 (x.d + o.p) + 1 - max (boundsS w o R).1 (x.d - o.p)).toNat ≤ 7 := by omega
  simp only [nextsS]
  omega
theorem firsts_len (w : Wt) (o : Wo) (R : Int) (hw : w.Ok) (ho : o.Ok) (h0 : 0 ≤ R) (h1 : R ≤ 1000) : (firstsS w o R).length ≤ 8004 := by
  have h := fm_len (l := irg (boundsS w o R).1 ((boundsS w o R).2 + 1)) (c := 4) (f := lookedS w o (false, 0) 0) fun d _ => by
    simp only [lookedS, List.length_map]; exact words_len w o d 0
  rw [len_irg] at h
  obtain ⟨b1, b2, b3, b4⟩ := bd_le hw ho h0 h1
  simp only [firstsS]
  omega
/-- the rows behind one look more, and those that said so -/
def rowsS (w : Wt) (o : Wo) (R : Int) (i : Nat) (found : List Sg) : List Rw := (if i = 0 then firstsS w o R else []) ++ found.flatMap (nextsS w o R)
def saidS (rows : List Rw) (k : Sd) : List Sg := once ((rows.filter fun r => r.k = k).map Rw.x)
def stdS (w : Wt) (o : Wo) (R : Int) (l : List (Sd × Nat)) : List Sg := l.foldl (fun found p => saidS (rowsS w o R p.2 found) p.1) []
theorem mem_said {rows : List Rw} {k : Sd} {x : Sg} : x ∈ saidS rows k ↔ ∃ r ∈ rows, r.k = k ∧ r.x = x := by
  simp only [saidS, mem_once, List.mem_map, List.mem_filter, decide_eq_true_eq]
  constructor
  · rintro ⟨r, ⟨h1, h2⟩, h3⟩; exact ⟨r, h1, h2, h3⟩
  · rintro ⟨r, h1, h2, h3⟩; exact ⟨r, ⟨h1, h2⟩, h3⟩
structure StdOk (w : Wt) (o : Wo) (R : Int) (found : List Sg) : Prop where
  nd : found.Nodup
  bd : ∀ x ∈ found, SgB (boundsS w o R).1 (boundsS w o R).2 x
theorem rows_bd {w : Wt} {o : Wo} {R : Int} {i : Nat} {found : List Sg} (hw : w.Ok) (ho : o.Ok) (h : StdOk w o R found) : ∀ r ∈ rowsS w o R i found, SgB (boundsS w o R).1 (boundsS w o R).2 r.x := by
  intro r hr
  simp only [rowsS, List.mem_append, List.mem_flatMap] at hr
  rcases hr with hr | ⟨x, hx, hr⟩
  · split at hr
    · exact firsts_bd hw ho hr
    · simp at hr
  · exact nexts_bd hw ho (h.bd x hx) hr
theorem said_ok {w : Wt} {o : Wo} {R : Int} {i : Nat} {found : List Sg} {k : Sd} (hw : w.Ok) (ho : o.Ok) (h : StdOk w o R found) : StdOk w o R (saidS (rowsS w o R i found) k) where
  nd := once_nd _
  bd x hx := by
    obtain ⟨r, h1, h2, rfl⟩ := mem_said.mp hx
    exact rows_bd hw ho h r h1
theorem std_ok (w : Wt) (o : Wo) (R : Int) (hw : w.Ok) (ho : o.Ok) : ∀ (l : List (Sd × Nat)) (f : List Sg), StdOk w o R f → StdOk w o R (l.foldl (fun found p => saidS (rowsS w o R p.2 found) p.1) f)
  | [], f, h => h
  | p :: l, f, h => std_ok w o R hw ho l _ (said_ok hw ho h)
theorem std_few {w : Wt} {o : Wo} {R : Int} {found : List Sg} (hw : w.Ok) (ho : o.Ok) (h0 : 0 ≤ R) (h1 : R ≤ 1000) (h : StdOk w o R found) : found.length ≤ 36018 := by
  obtain ⟨b1, b2, b3, b4⟩ := bd_le hw ho h0 h1
  have := few_sg h.nd h.bd
  omega
theorem rows_len {w : Wt} {o : Wo} {R : Int} {i : Nat} {found : List Sg} (hw : w.Ok) (ho : o.Ok) (h0 : 0 ≤ R) (h1 : R ≤ 1000) (h : StdOk w o R found) : (rowsS w o R i found).length ≤ 1016508 := by
  have h2 := std_few hw ho h0 h1 h
  have h3 := fm_len (l := found) (c := 28) (f := nextsS w o R) fun x _ => nexts_len w o R x ho
  have h4 := firsts_len w o R hw ho h0 h1
  simp only [rowsS, List.length_append]
  split
  · omega
  · simp only [List.length_nil]; omega
/-! ### the program's standings, walked -/
theorem forL_st {α : Type} {g : T → Rho → Sto → ResS} (enc : α → T) (P : List α → Rho → Sto → Prop) : ∀ (l pre : List α) (ρ : Rho) (S : Sto), P pre ρ S → (∀ (p : List α) (a : α) (post : List α) (ρ : Rho) (S : Sto), pre ++ l = p ++ a :: post → P p ρ S → ∃ ρ' S', g (enc a) ρ S = some (.nx ρ' S') ∧ P (p ++ [a]) ρ' S') → ∃ ρ' S', forL g (l.map enc) ρ S = some (.nx ρ' S') ∧ P (pre ++ l) ρ' S'
  | [], pre, ρ, S, h, _ => ⟨ρ, S, rfl, by rw [List.append_nil]; exact h⟩
  | a :: l, pre, ρ, S, h, k => by
    obtain ⟨ρ1, S1, e1, h1⟩ := k pre a l ρ S rfl h
    have e : pre ++ a :: l = (pre ++ [a]) ++ l := by simp
    obtain ⟨ρ2, S2, e2, h2⟩ := forL_st enc P l (pre ++ [a]) ρ1 S1 h1 fun p x post ρ S hl hp => k p x post ρ S (by rw [e]; exact hl) hp
    exact ⟨ρ2, S2, by rw [List.map_cons, forL, e1]; exact e2, by rw [e]; exact h2⟩
theorem co_sd (S : Sto) (a b : Sd) : cop S .Eq a.t b.t = some (decide (a = b)) := by
  cases a <;> cases b <;> first | rfl | simp [cop, eqT, toD, shal, PyData.depth, PyData.eqv, Sd.t]
def kiT (p : Sd × Nat) : T := .tup [.int (p.2 : Nat), p.1.t]
theorem enu_zip : ∀ (l : List Sd) (i : Nat), enuT i (l.map Sd.t) = (l.zipIdx i).map kiT
  | [], _ => rfl
  | a :: l, i => by
    rw [List.map_cons, enuT, enu_zip l (i + 1)]
    rfl
theorem fm_said (rows : List Rw) (k : Sd) : rows.filterMap (fun r => if r.k = k then some (T.tup [r.x.t, .bl true]) else none) = ((rows.filter fun r => r.k = k).map Rw.x).map fun a => T.tup [sgE.t a, .bl true] := by
  induction rows with
  | nil => rfl
  | cons r rows ih =>
    by_cases h : r.k = k
    · rw [List.filterMap_cons, if_pos h, List.filter_cons, if_pos (by simp [h]), List.map_cons, List.map_cons, ih]; rfl
    · rw [List.filterMap_cons, if_neg h, List.filter_cons, if_neg (by simp [h]), ih]
structure StdP (w : Wt) (o : Wo) (R : Int) (wt : T) (pre : List (Sd × Nat)) (ρ : Rho) : Prop where
  h : ∃ v5 v6 v7 v8 v9 v10, ρ = [some w.t, some o.t, some wt, some (.lst ((stdS w o R pre).map Sg.t)), some (.int R), v5, v6, v7, v8, v9, v10]
theorem std_turn (n : Nat) (w : Wt) (o : Wo) (R : Int) (wt : T) (hw : w.Ok) (ho : o.Ok) (h0 : 0 ≤ R) (h1 : R ≤ 1000) (pre : List (Sd × Nat)) (p : Sd × Nat) (ρ : Rho) (S : Sto) (hs : StdP w o R wt pre ρ) :
    ∃ ρ' S', frT (evO prg (n + 5)) (.tp (.cn (.nm 5) (.cn (.nm 6) .nl))) (.seq (.asg (.nm 7) (.ite (.cmp .Eq (.var 5) (.lit (.int 0))) (.call 10 (.cons (.var 0) (.cons (.var 1) (.cons (.var 4) .nil)))) (.lst false .nil))) (.seq (.for_ (.nm 8) (.sq (.var 3)) (.seq (.asg (.nm 7) (.op false .Add (.var 7) (.call 11 (.cons (.var 0) (.cons (.var 1) (.cons (.var 4) (.cons (.var 8) .nil))))))) .skip)) (.seq (.asg (.nm 9) (.dct (.lc false [10] (.tup (.cons (.ix (.var 10) (.lit (.int 0))) (.cons (.lit (.bl true)) .nil))) (.nm 10) (.sq (.var 7)) (.cmp .Eq (.ix (.var 10) (.lit (.int 2))) (.var 6))))) (.seq (.asg (.nm 3) (.blt false .list (.cons (.var 9) .nil))) .skip)))) (kiT p) ρ S = some (.nx ρ' S') ∧ StdP w o R wt (pre ++ [p]) ρ' := by
  obtain ⟨v5, v6, v7, v8, v9, v10, rfl⟩ := hs.h
  obtain ⟨k, i⟩ := p
  have hok : StdOk w o R (stdS w o R pre) := std_ok w o R hw ho pre [] ⟨List.nodup_nil, fun x hx => by cases hx⟩
  have hnew : stdS w o R (pre ++ [(k, i)]) = saidS (rowsS w o R i (stdS w o R pre)) k := by simp [stdS, List.foldl_append]
  obtain ⟨b1, b2, b3, b4⟩ := bd_le hw ho h0 h1
  generalize hfd : stdS w o R pre = found at hok hnew
  have hrl := rows_len (i := i) hw ho h0 h1 hok
  have ef := forL_app (g := frT (evO prg (n + 5)) (.nm 8) (.seq (.asg (.nm 7) (.op false .Add (.var 7) (.call 11 (.cons (.var 0) (.cons (.var 1) (.cons (.var 4) (.cons (.var 8) .nil))))))) .skip)) Sg.t (nextsS w o R)
    (fun acc ρ => ∃ v8, ρ = [some w.t, some o.t, some wt, some (.lst (found.map Sg.t)), some (.int R), some (.int (i : Nat)), some k.t, some (.lst (acc.map Rw.t)), v8, v9, v10]) S found (if i = 0 then firstsS w o R else []) [some w.t, some o.t, some wt, some (.lst (found.map Sg.t)), some (.int R), some (.int (i : Nat)), some k.t, some (.lst ((if i = 0 then firstsS w o R else []).map Rw.t)), v8, v9, v10] ⟨_, rfl⟩
    (fun pre post x ρ hl hs => by
      obtain ⟨v8, rfl⟩ := hs
      refine ⟨_, ?_, some x.t, rfl⟩
      have hx := hok.bd x (by rw [hl]; simp)
      have hn := nexts_ok (n + 1) w o R x hw ho h0 h1 (by have := hx.d0; omega) (by have := hx.d1; omega) S
      have hle : ((if i = 0 then firstsS w o R else []) ++ pre.flatMap (nextsS w o R)).length + (nextsS w o R x).length ≤ 16777216 := by
        have : rowsS w o R i found = (if i = 0 then firstsS w o R else []) ++ pre.flatMap (nextsS w o R) ++ nextsS w o R x ++ post.flatMap (nextsS w o R) := by
          rw [rowsS, hl]; simp
        rw [this] at hrl
        rw [List.length_append, List.length_append] at hrl
        omega
      rw [List.map_append (l₂ := nextsS w o R x)]
      generalize hp : ((if i = 0 then firstsS w o R else []) ++ pre.flatMap (nextsS w o R)) = acc at hle
      simp [frT, bindT, hn, line, bq_addL, hle])
  obtain ⟨ρ', ef, v8', rfl⟩ := ef
  have hrw : (if i = 0 then firstsS w o R else []) ++ found.flatMap (nextsS w o R) = rowsS w o R i found := rfl
  rw [hrw] at ef
  have hlc : lcL (lcT (evO prg (n + 5)) (.tup (.cons (.ix (.var 10) (.lit (.int 0))) (.cons (.lit (.bl true)) .nil))) (.nm 10) (.cmp .Eq (.ix (.var 10) (.lit (.int 2))) (.var 6)) (wipeR [some w.t, some o.t, some wt, some (.lst (found.map Sg.t)), some (.int R), some (.int (i : Nat)), some k.t, some (.lst ((rowsS w o R i found).map Rw.t)), v8', v9, v10] [10])) ((rowsS w o R i found).map Rw.t) [] S = some ((rowsS w o R i found).filterMap (fun r => if r.k = k then some (T.tup [r.x.t, .bl true]) else none), S) := by
    refine lcL_enc Rw.t _ (fun r _ => ?_) (by have : line = 16777216 := rfl; omega)
    by_cases hk : r.k = k
    · simp [lcT, bindT, wipeR, Rw.t, co_sd, hk, line]
    · simp [lcT, bindT, wipeR, Rw.t, co_sd, hk, line]
  rw [fm_said] at hlc
  have hdm := dMk_once sgE (((rowsS w o R i found).filter fun r => r.k = k).map Rw.x) []
  have hdm : dMk ((((rowsS w o R i found).filter fun r => r.k = k).map Rw.x).map fun a => T.tup [sgE.t a, .bl true]) [] = some (encD sgE trueT (onceD (((rowsS w o R i found).filter fun r => r.k = k).map Rw.x))) := hdm
  have hky : (encD sgE trueT (onceD (((rowsS w o R i found).filter fun r => r.k = k).map Rw.x))).map (·.1) = (saidS (rowsS w o R i found) k).map Sg.t := encD_keys _ _ _
  refine ⟨[some w.t, some o.t, some wt, some (.lst ((stdS w o R (pre ++ [(k, i)])).map Sg.t)), some (.int R), some (.int (i : Nat)), some k.t, some (.lst ((rowsS w o R i found).map Rw.t)), v8', some (.box S.length), v10], S ++ [.dct (encD sgE trueT (onceD (((rowsS w o R i found).filter fun r => r.k = k).map Rw.x)))], ?_, ⟨_, _, _, _, _, _, rfl⟩⟩
  rw [hnew]
  have hfi : evE (evO prg (n + 5)) (.ite (.cmp .Eq (.var 5) (.lit (.int 0))) (.call 10 (.cons (.var 0) (.cons (.var 1) (.cons (.var 4) .nil)))) (.lst false .nil)) [some w.t, some o.t, some wt, some (.lst (found.map Sg.t)), some (.int R), some (.int (i : Nat)), some k.t, v7, v8, v9, v10] S = some (.ok (.lst ((if i = 0 then firstsS w o R else []).map Rw.t)) S) := by
    have hf := firsts_ok (n + 1) w o R hw ho h0 h1 S
    by_cases hi : i = 0
    · subst hi; simp [hf]
    · have hi' : ¬ (i : Int) = 0 := by omega
      simp [hi, hi']
  have hb : bindT (.tp (.cn (.nm 5) (.cn (.nm 6) .nl))) (kiT (k, i)) [some w.t, some o.t, some wt, some (.lst (found.map Sg.t)), some (.int R), v5, v6, v7, v8, v9, v10] = some [some w.t, some o.t, some wt, some (.lst (found.map Sg.t)), some (.int R), some (.int (i : Nat)), some k.t, v7, v8, v9, v10] := rfl
  simp only [frT, hb]
  rw [seq_nx (asg_eq hfi)]; simp only [List.set]
  rw [seq_nx (for_eq (l := found.map Sg.t) (S1 := S) (by simp [seqT]) ef)]
  rw [seq_nx (asg_eq (t := .box S.length) (S1 := S ++ [.dct (encD sgE trueT (onceD (((rowsS w o R i found).filter fun r => r.k = k).map Rw.x)))]) (by simp [seqT, hlc, hdm, -List.map_map]))]; simp only [List.set]
  rw [seq_nx (asg_eq (t := .lst ((saidS (rowsS w o R i found) k).map Sg.t)) (S1 := S ++ [.dct (encD sgE trueT (onceD (((rowsS w o R i found).filter fun r => r.k = k).map Rw.x)))]) (by simp [bltT, drf, dLen, hky, -List.map_map]))]; simp only [List.set]
  rfl
theorem standings_ok (n : Nat) (w : Wt) (o : Wo) (ks : List Sd) (hw : w.Ok) (ho : o.Ok) (hk : ks.length ≤ 100) (S : Sto) : runO prg (n + 6) i_standings_told [w.t, o.t, .tup (ks.map Sd.t)] S = some (.ok (.lst ((stdS w o (reachS w o ks.length) (ks.zipIdx 0)).map Sg.t)) S) := by
  have hr := reach_ok (n + 4) w o ks.length hw ho []
  obtain ⟨p0, p1, r0, r1, z0, z1⟩ := id ho
  have := hw.c0; have := hw.c3; have := hw.d0; have := hw.d3
  have pk : o.p * ks.length ≤ 3 * ks.length := Int.mul_le_mul_of_nonneg_right p1 (by omega)
  have pk0 : 0 ≤ o.p * ks.length := Int.mul_nonneg p0 (by omega)
  have h0 : 0 ≤ reachS w o ks.length := by simp only [reachS]; omega
  have h1 : reachS w o ks.length ≤ 1000 := by simp only [reachS]; omega
  generalize reachS w o ks.length = R at hr h0 h1
  obtain ⟨ρ', S', ef, hp⟩ := forL_st (g := frT (evO prg (n + 5)) (.tp (.cn (.nm 5) (.cn (.nm 6) .nl))) (.seq (.asg (.nm 7) (.ite (.cmp .Eq (.var 5) (.lit (.int 0))) (.call 10 (.cons (.var 0) (.cons (.var 1) (.cons (.var 4) .nil)))) (.lst false .nil))) (.seq (.for_ (.nm 8) (.sq (.var 3)) (.seq (.asg (.nm 7) (.op false .Add (.var 7) (.call 11 (.cons (.var 0) (.cons (.var 1) (.cons (.var 4) (.cons (.var 8) .nil))))))) .skip)) (.seq (.asg (.nm 9) (.dct (.lc false [10] (.tup (.cons (.ix (.var 10) (.lit (.int 0))) (.cons (.lit (.bl true)) .nil))) (.nm 10) (.sq (.var 7)) (.cmp .Eq (.ix (.var 10) (.lit (.int 2))) (.var 6))))) (.seq (.asg (.nm 3) (.blt false .list (.cons (.var 9) .nil))) .skip))))) kiT (fun pre ρ _ => StdP w o R (.tup (ks.map Sd.t)) pre ρ) (ks.zipIdx 0) [] [some w.t, some o.t, some (.tup (ks.map Sd.t)), some (.lst []), some (.int R), none, none, none, none, none, none] [] ⟨⟨_, _, _, _, _, _, rfl⟩⟩
    (fun p a post ρ S hl hs => by
      obtain ⟨ρ', S', e, h⟩ := std_turn n w o R _ hw ho h0 h1 p a ρ S hs
      exact ⟨ρ', S', e, h⟩)
  obtain ⟨v5, v6, v7, v8, v9, v10, rfl⟩ := hp.h
  rw [List.nil_append] at ef
  have hnb : noBxL 0 [w.t, o.t, .tup (ks.map Sd.t)] = true := by
    have := nbL_map (f := Sd.t) ks (fun a _ => by cases a <;> rfl)
    simp [noBxL, noBx, this, Wt.t, mkW, Wo.t, mkWd]
  refine run_to (fd := fd_standings_told) (t := .lst ((stdS w o R (ks.zipIdx 0)).map Sg.t)) (S' := S') rfl rfl hnb rfl ?_ rfl (nbL_map _ fun x _ => by rfl)
  have e0 : init fd_standings_told [w.t, o.t, .tup (ks.map Sd.t)] = [some w.t, some o.t, some (.tup (ks.map Sd.t)), none, none, none, none, none, none, none, none] := rfl
  rw [e0]
  simp only [fd_standings_told]
  rw [seq_nx (ρ' := [some w.t, some o.t, some (.tup (ks.map Sd.t)), some (.lst []), some (.int R), none, none, none, none, none, none]) (S' := []) (by simp [hr, bindT])]
  rw [seq_nx (for_eq (l := (ks.zipIdx 0).map kiT) (S1 := []) (by simp [enu_zip]) ef), seq_rt (ret_eq (t := .lst ((stdS w o R (ks.zipIdx 0)).map Sg.t)) (S1 := S') (by simp))]
/-! ### depths_told -/
def minL : List Int → Int
  | [] => 0
  | a :: r => minI a r
def maxL : List Int → Int
  | [] => 0
  | a :: r => maxI a r
theorem minL_spec {l : List Int} (h : l ≠ []) : minL l ∈ l ∧ ∀ z ∈ l, minL l ≤ z := by
  cases l with
  | nil => exact absurd rfl h
  | cons a r => exact minI_spec r a
theorem maxL_spec {l : List Int} (h : l ≠ []) : maxL l ∈ l ∧ ∀ z ∈ l, z ≤ maxL l := by
  cases l with
  | nil => exact absurd rfl h
  | cons a r => exact maxI_spec r a
theorem intsOf_map : ∀ l : List Int, intsOf (l.map T.int) = some l
  | [] => rfl
  | a :: l => by simp [intsOf, intsOf_map l]
theorem bl_minL (S : Sto) {l : List Int} (h : l ≠ []) : bltT S .min [.lst (l.map T.int)] = some (.int (minL l)) := by
  cases l with
  | nil => exact absurd rfl h
  | cons a r =>
    have := intsOf_map (a :: r)
    simp only [bltT, drf_lst, this, minL]
theorem bl_maxL (S : Sto) {l : List Int} (h : l ≠ []) : bltT S .max [.lst (l.map T.int)] = some (.int (maxL l)) := by
  cases l with
  | nil => exact absurd rfl h
  | cons a r =>
    have := intsOf_map (a :: r)
    simp only [bltT, drf_lst, this, maxL]
theorem Wt.Ok.good {w : Wt} (h : w.Ok) : goodW w.t = true := by
  obtain ⟨h1, h2, h3, h4, h5, h6, h7, h8, h9, h10, h11, h12⟩ := h
  have e1 : w.a ≤ 1000000000000000000000000000000 := by omega
  have e2 : -1000000000000000000000000000000 ≤ w.b := by omega
  rcases h12 with h12 | h12 <;> simp [Wt.t, mkW, goodW, isI, leT, isKD, h12, h1, h2, h3, h4, h5, h6, h7, h8, h9, h10, h11, e1, e2]
theorem need_ok (n : Nat) (w : Wt) (h : w.Ok) (S : Sto) : runO prg (n + 3) i_need_watcher [w.t] S = some (.ok .non S) := by
  rw [run_succ prg (n + 2) i_need_watcher _ S fd_need_watcher rfl rfl]
  have h1 := igw_ok n w.t S ⟨rfl, fun l hl x hx => by
    have : l = [.int w.a, .int w.b, .int w.c, .int w.d, .int w.e, .int w.f, .str w.g] := by injection hl with hl; exact hl.symm
    subst this
    simp only [List.mem_cons, List.not_mem_nil, or_false] at hx
    rcases hx with rfl | rfl | rfl | rfl | rfl | rfl | rfl <;> rfl⟩
  rw [h.good] at h1
  simp [fd_need_watcher, init, h1]
theorem need_wd (n : Nat) (o : Wo) (h : o.Ok) (S : Sto) : runO prg (n + 3) i_need_world [o.t] S = some (.ok .non S) := need_world_ok n _ S (mkWd_pl _ _ _) (mkWd_good h)
theorem eqT_nilL {l : List T} {ds : List PyData} (h : toDs l = some ds) : eqT (.lst l) (.lst []) = some l.isEmpty := by
  have e : ds.isEmpty = l.isEmpty := by
    cases l with
    | nil => simp [toDs] at h; subst h; rfl
    | cons a l =>
      simp only [toDs] at h
      split at h
      · split at h
        · cases h; rfl
        · cases h
      · cases h
  have sh : shal (.list ds) (.list []) = true := by simp [shal, PyData.depth, PyData.depthAll]
  simp only [eqT, toD, h, toDs, sh, if_true]
  rw [← e]
  cases ds <;> rfl
theorem eqT_nilT {l : List T} {ds : List PyData} (h : toDs l = some ds) : eqT (.tup l) (.tup []) = some l.isEmpty := by
  have e : ds.isEmpty = l.isEmpty := by
    cases l with
    | nil => simp [toDs] at h; subst h; rfl
    | cons a l =>
      simp only [toDs] at h
      split at h
      · split at h
        · cases h; rfl
        · cases h
      · cases h
  have sh : shal (.tuple ds) (.tuple []) = true := by simp [shal, PyData.depth, PyData.depthAll]
  simp only [eqT, toD, h, toDs, sh, if_true]
  rw [← e]
  cases ds <;> rfl

theorem co_eqE {S : Sto} {l : List T} {ds : List PyData} (h : toDs l = some ds) : cop S .Eq (.lst l) (.lst []) = some l.isEmpty := by
  simp [cop, eqT_nilL h]
theorem co_eqTE {S : Sto} {l : List T} {ds : List PyData} (h : toDs l = some ds) : cop S .Eq (.tup l) (.tup []) = some l.isEmpty := by
  simp [cop, eqT_nilT h]
theorem isC : ∀ a : Sd, a ≠ .no → cop S .In a.t (.tup [.str (Str.ofString "come"), .str (Str.ofString "gone")]) = some true
  | .no, h => absurd rfl h
  | .come, _ => by simp [Sd.t, cop, inT, toD, toDs, shal, PyData.depth, PyData.eqv, drf]
  | .gone, _ => by simp [Sd.t, cop, inT, toD, toDs, shal, PyData.depth, PyData.eqv, drf]
theorem toDs_sd : ∀ l : List Sd, ∃ ds, toDs (l.map Sd.t) = some ds
  | [] => ⟨_, rfl⟩
  | a :: l => by
    obtain ⟨ds, h⟩ := toDs_sd l
    cases a <;> simp [toDs, toD, Sd.t, h]
theorem toDs_int : ∀ l : List Int, ∃ ds, toDs (l.map T.int) = some ds
  | [] => ⟨_, rfl⟩
  | a :: l => by
    obtain ⟨ds, h⟩ := toDs_int l
    simp [toDs, toD, h]
theorem boolsOf_tt : ∀ l : List Sd, boolsOf (l.map fun _ => T.bl true) = some (l.map fun _ => true)
  | [] => rfl
  | a :: l => by simp [boolsOf, boolsOf_tt l]
theorem are_ok (n : Nat) (ks : List Sd) (hk : ks.length ≤ 30) (S : Sto) : runO prg (n + 1) i_are_words [.tup (ks.map Sd.t)] S = some (.ok (.bl true) S) := by
  have hnb : noBxL 0 [.tup (ks.map Sd.t)] = true := by
    have := nbL_map (f := Sd.t) ks (fun a _ => by cases a <;> rfl)
    simp [noBxL, noBx, this]
  refine run_to (fd := fd_are_words) (t := .bl true) (S' := []) rfl rfl hnb rfl ?_ rfl rfl
  have hlc : lcL (lcT (evO prg n) (.or (.cmp .Is (.var 1) (.lit .non)) (.and (.isi (.var 1) "str") (.cmp .In (.var 1) (.tup (.cons (.lit (.str (Str.ofString "come"))) (.cons (.lit (.str (Str.ofString "gone"))) .nil)))))) (.nm 1) (.lit (.bl true)) [some (.tup (ks.map Sd.t)), none]) (ks.map Sd.t) [] [] = some (ks.map fun _ => T.bl true, []) := by
    refine lcL_encM Sd.t (fun _ => T.bl true) ks (fun a _ => ?_) (by have : line = 16777216 := rfl; omega)
    cases a <;> simp [lcT, bindT, Sd.t, isiT, tyT, isC] <;> rfl
  have h30 : ¬ (30 : Int) < (ks.length : Int) := by omega
  have hall : bltT [] .all [.lst (ks.map fun _ => T.bl true)] = some (.bl true) := by
    have : (ks.map fun _ => true).all id = true := by simp
    simp [bltT, drf, boolsOf_tt, this]
  simp [fd_are_words, init, isiT, tyT, h30, wipeR, seqT, hlc, hall]
def optT : Option Int → T
  | none => .non
  | some i => .int i
def toldS (w : Wt) (o : Wo) (ks : List Sd) : Option (Option Int × Int) :=
  if ks = [] then some (none, w.half)
  else
    let ds := (stdS w o (reachS w o ks.length) (ks.zipIdx 0)).map Sg.d
    let b := boundsS w o (reachS w o ks.length)
    if ds = [] then none else some (if minL ds = b.1 then none else some (minL ds), if maxL ds = b.2 then w.half else maxL ds)
def toldT : Option (Option Int × Int) → T
  | none => .non
  | some (a, b) => .tup [optT a, .int b]
theorem nb_told (x : Option (Option Int × Int)) : noBx 0 (toldT x) = true := by
  rcases x with _ | ⟨_ | a, b⟩ <;> rfl
theorem thaw_told (x : Option (Option Int × Int)) (S : Sto) : thaw 0 (toldT x) S = toldT x := by
  rcases x with _ | ⟨_ | a, b⟩ <;> rfl
theorem told_ok (n : Nat) (w : Wt) (o : Wo) (ks : List Sd) (hw : w.Ok) (ho : o.Ok) (hk : ks.length ≤ 30) (S : Sto) : runO prg (n + 7) i_depths_told [w.t, o.t, .tup (ks.map Sd.t)] S = some (.ok (toldT (toldS w o ks)) S) := by
  have n1 := need_ok (n + 3) w hw []
  have n2 := need_wd (n + 3) o ho []
  have n3 := are_ok (n + 5) ks hk []
  have n4 := half_ok (n + 5) w []
  have hnb : noBxL 0 [w.t, o.t, .tup (ks.map Sd.t)] = true := by
    have := nbL_map (f := Sd.t) ks (fun a _ => by cases a <;> rfl)
    simp [noBxL, noBx, this, Wt.t, mkW, Wo.t, mkWd]
  by_cases hks : ks = []
  · subst hks
    refine run_to (fd := fd_depths_told) (t := .tup [.non, .int w.half]) (S' := []) rfl rfl hnb rfl ?_ rfl rfl
    have hq : cop [] .Eq (.tup []) (.tup []) = some true := rfl
    simp [fd_depths_told, init, n1, n2, n3, n4, hq, line] at n3 ⊢
    simp [n3, n4, hq]
  · obtain ⟨dk, edk⟩ := toDs_sd ks
    have hq : cop [] .Eq (.tup (ks.map Sd.t)) (.tup []) = some false := by
      rw [co_eqTE edk]
      cases ks with
      | nil => exact absurd rfl hks
      | cons a l => rfl
    have n5 := standings_ok n w o ks hw ho (by omega) []
    have n6 := reach_ok (n + 5) w o ks.length hw ho []
    have n7 := bounds_ok (n + 4) w o (reachS w o ks.length) []
    have hR : 0 ≤ reachS w o ks.length ∧ reachS w o ks.length ≤ 1000 := by
      obtain ⟨p0, p1, r0, r1, z0, z1⟩ := id ho
      have := hw.c0; have := hw.c3; have := hw.d0; have := hw.d3
      have pk : o.p * ks.length ≤ 3 * ks.length := Int.mul_le_mul_of_nonneg_right p1 (by omega)
      have pk0 : 0 ≤ o.p * ks.length := Int.mul_nonneg p0 (by omega)
      simp only [reachS]; omega
    have hst : StdOk w o (reachS w o ks.length) (stdS w o (reachS w o ks.length) (ks.zipIdx 0)) := std_ok w o _ hw ho _ [] ⟨List.nodup_nil, fun x hx => by cases hx⟩
    have hlen := std_few hw ho hR.1 hR.2 hst
    have hT : toldS w o ks = (if (stdS w o (reachS w o ks.length) (ks.zipIdx 0)).map Sg.d = [] then none else some (if minL ((stdS w o (reachS w o ks.length) (ks.zipIdx 0)).map Sg.d) = (boundsS w o (reachS w o ks.length)).1 then none else some (minL ((stdS w o (reachS w o ks.length) (ks.zipIdx 0)).map Sg.d)), if maxL ((stdS w o (reachS w o ks.length) (ks.zipIdx 0)).map Sg.d) = (boundsS w o (reachS w o ks.length)).2 then w.half else maxL ((stdS w o (reachS w o ks.length) (ks.zipIdx 0)).map Sg.d))) := by
      unfold toldS; rw [if_neg hks]
    generalize stdS w o (reachS w o ks.length) (ks.zipIdx 0) = sg at n5 hlen hT
    generalize reachS w o ks.length = R at n6 n7 hT
    generalize boundsS w o R = B at n7 hT
    obtain ⟨lo, hi⟩ := B
    simp only at n7 hT
    have hlc : lcL (lcT (evO prg (n + 6)) (.blt false .int (.cons (.ix (.var 6) (.lit (.int 0))) .nil)) (.nm 6) (.lit (.bl true)) [some w.t, some o.t, some (.tup (ks.map Sd.t)), none, none, none, none]) (sg.map Sg.t) [] [] = some (sg.map fun x => T.int x.d, []) := by
      refine lcL_encM Sg.t (fun x => T.int x.d) sg (fun a _ => ?_) (by have : line = 16777216 := rfl; omega)
      simp [lcT, bindT, Sg.t]
    have hlc : lcL (lcT (evO prg (n + 6)) (.blt false .int (.cons (.ix (.var 6) (.lit (.int 0))) .nil)) (.nm 6) (.lit (.bl true)) [some w.t, some o.t, some (.tup (ks.map Sd.t)), none, none, none, none]) (sg.map Sg.t) [] [] = some ((sg.map Sg.d).map T.int, []) := by
      rw [hlc, List.map_map]; rfl
    generalize hds : sg.map Sg.d = ds at hlc hT
    obtain ⟨dd, edd⟩ := toDs_int ds
    have hqd : cop [] .Eq (.lst (ds.map T.int)) (.lst []) = some ds.isEmpty := by rw [co_eqE edd]; simp
    rw [hT]
    refine run_to (fd := fd_depths_told) (t := toldT (if ds = [] then none else some (if minL ds = lo then none else some (minL ds), if maxL ds = hi then w.half else maxL ds))) (S' := []) rfl rfl hnb rfl ?_ (thaw_told _ _) (nb_told _)
    have e0 : init fd_depths_told [w.t, o.t, .tup (ks.map Sd.t)] = [some w.t, some o.t, some (.tup (ks.map Sd.t)), none, none, none, none] := rfl
    rw [e0]
    simp only [fd_depths_told]
    rw [seq_nx (ρ' := [some w.t, some o.t, some (.tup (ks.map Sd.t)), none, none, none, none]) (S' := []) (by simp [n1])]
    rw [seq_nx (ρ' := [some w.t, some o.t, some (.tup (ks.map Sd.t)), none, none, none, none]) (S' := []) (by simp [n2])]
    rw [seq_nx (ρ' := [some w.t, some o.t, some (.tup (ks.map Sd.t)), none, none, none, none]) (S' := []) (by simp [n3])]
    rw [seq_nx (ρ' := [some w.t, some o.t, some (.tup (ks.map Sd.t)), none, none, none, none]) (S' := []) (by simp [hq])]
    rw [seq_nx (ρ' := [some w.t, some o.t, some (.tup (ks.map Sd.t)), some (.lst (ds.map .int)), none, none, none]) (S' := []) (by simp [wipeR, n5, seqT, hlc, bindT])]
    by_cases hd : ds = []
    · subst hd
      rw [seq_rt (t := .non) (S' := []) (by simp at hqd; simp [hqd])]
      rfl
    · have hde : ds.isEmpty = false := by cases ds <;> simp at hd ⊢
      have m1 := bl_minL [] hd
      have m2 := bl_maxL [] hd
      rw [seq_nx (ρ' := [some w.t, some o.t, some (.tup (ks.map Sd.t)), some (.lst (ds.map .int)), none, none, none]) (S' := []) (by simp [hqd, hde])]
      rw [seq_nx (ρ' := [some w.t, some o.t, some (.tup (ks.map Sd.t)), some (.lst (ds.map .int)), some (.int lo), some (.int hi), none]) (S' := []) (by simp [n6, n7, bindT])]
      by_cases q1 : minL ds = lo <;> by_cases q2 : maxL ds = hi <;> simp [m1, m2, q1, q2, n4, line, hd, toldT, optT]
/-! ## the plain law of depths -/
inductive Rch (w : Wt) (o : Wo) (lo hi : Int) : List Sd → Sg → Prop
  | one {d : Int} {r : Rw} : lo ≤ d → d ≤ hi → r ∈ lookedS w o (false, 0) 0 d → Rch w o lo hi [r.k] r.x
  | more {ks : List Sd} {x : Sg} {d : Int} {r : Rw} : Rch w o lo hi ks x → lo ≤ d → d ≤ hi → x.d - o.p ≤ d → d ≤ x.d + o.p → r ∈ lookedS w o x.s x.l d → Rch w o lo hi (ks ++ [r.k]) r.x
theorem looked_d {w : Wt} {o : Wo} {s : Bool × Int} {l d : Int} {r : Rw} (h : r ∈ lookedS w o s l d) : r.x.d = d := by
  simp only [lookedS, List.mem_map] at h
  obtain ⟨x, _, rfl⟩ := h
  rfl
theorem Rch.bd {w : Wt} {o : Wo} {lo hi : Int} {ks : List Sd} {x : Sg} (h : Rch w o lo hi ks x) : lo ≤ x.d ∧ x.d ≤ hi := by
  cases h with
  | one h1 h2 h3 => rw [looked_d h3]; exact ⟨h1, h2⟩
  | more _ h1 h2 _ _ h3 => rw [looked_d h3]; exact ⟨h1, h2⟩
theorem Rch.ne {w : Wt} {o : Wo} {lo hi : Int} {x : Sg} (h : Rch w o lo hi [] x) : False := by
  generalize hk : ([] : List Sd) = ks at h
  cases h with
  | one _ _ _ => cases hk
  | more _ _ _ _ _ _ => cases ‹List Sd› <;> cases hk
theorem looked_map {w : Wt} {o : Wo} {s : Bool × Int} {l d d' : Int} {r : Rw} (hw : wordsS w o d' l = wordsS w o d l) (h : r ∈ lookedS w o s l d) : ∃ r' ∈ lookedS w o s l d', r'.k = r.k ∧ r'.x = ⟨d', r.x.s, r.x.l⟩ := by
  simp only [lookedS, List.mem_map] at h
  obtain ⟨x, hx, rfl⟩ := h
  refine ⟨_, List.mem_map.mpr ⟨x, by rw [hw]; exact hx, rfl⟩, rfl, rfl⟩
/-- a path under a map of depths that keeps words and goes no wider -/
theorem Rch.map {w : Wt} {o : Wo} {lo hi lo' hi' : Int} {f : Int → Int} (hf : ∀ d, lo ≤ d → d ≤ hi → lo' ≤ f d ∧ f d ≤ hi') (hn : ∀ d e, d - o.p ≤ e → e ≤ d + o.p → f d - o.p ≤ f e ∧ f e ≤ f d + o.p) (hw : ∀ d l, lo ≤ d → d ≤ hi → wordsS w o (f d) l = wordsS w o d l) {ks : List Sd} {x : Sg} (h : Rch w o lo hi ks x) : Rch w o lo' hi' ks ⟨f x.d, x.s, x.l⟩ := by
  induction h with
  | @one d r h1 h2 h3 =>
    obtain ⟨r', m, e1, e2⟩ := looked_map (hw d 0 h1 h2) h3
    rw [looked_d h3, ← e1, ← e2]
    exact .one (hf d h1 h2).1 (hf d h1 h2).2 m
  | @more ks x d r h0 h1 h2 h3 h4 h5 ih =>
    obtain ⟨r', m, e1, e2⟩ := looked_map (hw d x.l h1 h2) h5
    rw [looked_d h5, ← e1, ← e2]
    exact .more (x := ⟨f x.d, x.s, x.l⟩) ih (hf d h1 h2).1 (hf d h1 h2).2 (hn x.d d h3 h4).1 (hn x.d d h3 h4).2 m
theorem Rch.top {w : Wt} {o : Wo} {lo hi U : Int} (hp : 0 ≤ o.p) {ks : List Sd} {x : Sg} (h : Rch w o lo hi ks x) : x.d + o.p * ks.length ≤ U → Rch w o lo (min hi U) ks x := by
  induction h with
  | @one d r h1 h2 h3 =>
    intro hu
    rw [looked_d h3] at hu
    simp only [List.length_cons, List.length_nil, Nat.zero_add, Int.natCast_one, Int.mul_one] at hu
    exact .one h1 (by omega) h3
  | @more ks x d r h0 h1 h2 h3 h4 h5 ih =>
    intro hu
    rw [looked_d h5] at hu
    have e : o.p * ((ks ++ [r.k]).length : Nat) = o.p * ks.length + o.p := by
      rw [List.length_append, List.length_cons, List.length_nil, Int.natCast_add, Int.mul_add]; simp
    rw [e] at hu
    have : 0 ≤ o.p * (ks.length : Int) := Int.mul_nonneg hp (by omega)
    exact .more (ih (by omega)) h1 (by omega) h3 h4 h5
theorem Rch.bot {w : Wt} {o : Wo} {lo hi U : Int} (hp : 0 ≤ o.p) {ks : List Sd} {x : Sg} (h : Rch w o lo hi ks x) : U ≤ x.d - o.p * ks.length → Rch w o (max lo U) hi ks x := by
  induction h with
  | @one d r h1 h2 h3 =>
    intro hu
    rw [looked_d h3] at hu
    simp only [List.length_cons, List.length_nil, Nat.zero_add, Int.natCast_one, Int.mul_one] at hu
    exact .one (by omega) h2 h3
  | @more ks x d r h0 h1 h2 h3 h4 h5 ih =>
    intro hu
    rw [looked_d h5] at hu
    have e : o.p * ((ks ++ [r.k]).length : Nat) = o.p * ks.length + o.p := by
      rw [List.length_append, List.length_cons, List.length_nil, Int.natCast_add, Int.mul_add]; simp
    rw [e] at hu
    have : 0 ≤ o.p * (ks.length : Int) := Int.mul_nonneg hp (by omega)
    exact .more (ih (by omega)) (by omega) h2 h3 h4 h5
theorem std_snoc (w : Wt) (o : Wo) (R : Int) (ks : List Sd) (k : Sd) : stdS w o R ((ks ++ [k]).zipIdx 0) = saidS (rowsS w o R ks.length (stdS w o R (ks.zipIdx 0))) k := by
  simp [stdS, List.zipIdx_append, List.foldl_append]
theorem std_rch (w : Wt) (o : Wo) (R : Int) : ∀ (n : Nat) (ks : List Sd), ks.length = n → ∀ x, x ∈ stdS w o R (ks.zipIdx 0) ↔ Rch w o (boundsS w o R).1 (boundsS w o R).2 ks x := by
  intro n
  induction n with
  | zero =>
    intro ks hk x
    cases ks with
    | nil =>
      constructor
      · intro h; simp [stdS] at h
      · intro h; exact h.ne.elim
    | cons => simp at hk
  | succ n ih =>
    intro ks hk x
    obtain ⟨pre, k, rfl⟩ : ∃ pre k, ks = pre ++ [k] := ⟨ks.dropLast, ks.getLast (by intro h; subst h; simp at hk), (List.dropLast_concat_getLast _).symm⟩
    have hp : pre.length = n := by simp at hk; exact hk
    have ih := ih pre hp
    rw [std_snoc, mem_said]
    constructor
    · rintro ⟨r, hr, rfl, rfl⟩
      simp only [rowsS, List.mem_append, List.mem_flatMap] at hr
      rcases hr with hr | ⟨y, hy, hr⟩
      · split at hr
        · rename_i h0
          have : pre = [] := List.length_eq_zero_iff.mp h0
          subst this
          simp only [firstsS, List.mem_flatMap] at hr
          obtain ⟨d, hd, hr⟩ := hr
          obtain ⟨h1, h2⟩ := mem_irg.mp hd
          exact .one h1 (by omega) hr
        · simp at hr
      · simp only [nextsS, List.mem_flatMap] at hr
        obtain ⟨d, hd, hr⟩ := hr
        obtain ⟨h1, h2⟩ := mem_irg.mp hd
        exact .more ((ih y).mp hy) (by omega) (by omega) (by omega) (by omega) hr
    · intro h
      generalize hq : pre ++ [k] = q at h
      cases h with
      | @one d r h1 h2 h3 =>
        have : pre = [] ∧ k = r.k := by
          cases pre with
          | nil => simp at hq; exact ⟨rfl, hq⟩
          | cons a l => simp at hq
        obtain ⟨rfl, rfl⟩ := this
        refine ⟨r, ?_, rfl, rfl⟩
        simp only [rowsS, List.length_nil, if_true, List.mem_append]
        exact .inl (List.mem_flatMap.mpr ⟨d, mem_irg.mpr ⟨h1, by omega⟩, h3⟩)
      | @more ks' y d r h0 h1 h2 h3 h4 h5 =>
        obtain ⟨rfl, e⟩ := List.append_inj' hq rfl
        simp at e
        subst e
        refine ⟨r, ?_, rfl, rfl⟩
        simp only [rowsS, List.mem_append, List.mem_flatMap]
        exact .inr ⟨y, (ih y).mpr h0, List.mem_flatMap.mpr ⟨d, mem_irg.mpr ⟨by omega, by omega⟩, h5⟩⟩
theorem Wt.half_nn {w : Wt} (hw : w.Ok) : 0 ≤ w.half := by
  have := hw.ab
  simp only [Wt.half]; omega
theorem words_low {w : Wt} {o : Wo} {d e l : Int} (hw : w.Ok) (ho : o.Ok) (hd : d ≤ -(w.d + o.r + 1)) (he : e ≤ -(w.d + o.r + 1)) : wordsS w o d l = wordsS w o e l := by
  obtain ⟨p0, p1, r0, r1, z0, z1⟩ := id ho
  have := hw.c0; have := hw.c3; have := hw.d0; have := hw.d3
  have q : ∀ d, d ≤ -(w.d + o.r + 1) → wordsS w o d l = ([] ++ [Wd4.out]) ++ [] ++ (if l < o.z then [Wd4.lost] else []) := by
    intro d hd
    unfold wordsS
    rw [if_neg (by omega), if_pos (by omega), if_neg (by omega)]
  rw [q d hd, q e he]
theorem words_high {w : Wt} {o : Wo} {d e l : Int} (hw : w.Ok) (ho : o.Ok) (h1 : d ≤ w.half) (h2 : e ≤ w.half) (hd : w.c + o.r ≤ d) (he : w.c + o.r ≤ e) : wordsS w o d l = wordsS w o e l := by
  obtain ⟨p0, p1, r0, r1, z0, z1⟩ := id ho
  have := hw.c0; have := hw.c3; have := hw.d0; have := hw.d3
  have q : ∀ d, d ≤ w.half → w.c + o.r ≤ d → wordsS w o d l = [Wd4.inn] ++ [] ++ [] ++ (if l < o.z then [Wd4.lost] else []) := by
    intro d hh hd
    unfold wordsS
    rw [if_pos (by omega), if_neg (by omega), if_neg (by omega)]
  rw [q d h1 hd, q e h2 he]
/-- clamped -/
theorem Rch.clamp {w : Wt} {o : Wo} {lo hi C T : Int} (hw : w.Ok) (ho : o.Ok) (hh : hi ≤ w.half) (hT : T ≤ w.half) (hC : w.d + o.r + 1 ≤ C) (hTT : T = w.half ∨ w.c + o.r ≤ T) (hCT : -C ≤ T) {ks : List Sd} {x : Sg} (h : Rch w o lo hi ks x) : Rch w o (-C) T ks ⟨max (-C) (min x.d T), x.s, x.l⟩ := by
  refine Rch.map (f := fun d => max (-C) (min d T)) (fun d _ _ => ⟨by omega, by omega⟩) (fun d e h1 h2 => ⟨by omega, by omega⟩) (fun d l h1 h2 => ?_) h
  by_cases q1 : d < -C
  · exact words_low hw ho (by omega) (by omega)
  · by_cases q2 : T < d
    · rcases hTT with e | e
      · omega
      · exact words_high hw ho (by omega) (by omega) (by omega) (by omega)
    · have : max (-C) (min d T) = d := by omega
      rw [this]
def rim2 (w : Wt) (o : Wo) (n : Nat) : Int := w.d + o.r + 2 + o.p * n
theorem told_due {w : Wt} {o : Wo} {ks : List Sd} (hw : w.Ok) (ho : o.Ok) (hks : ks ≠ []) (ds : List Int) (hds : ∀ z, z ∈ ds ↔ ∃ x, Rch w o (-(rim2 w o ks.length)) w.half ks x ∧ x.d = z) :
    toldS w o ks = if ds = [] then none else some (if minL ds = -(rim2 w o ks.length) then none else some (minL ds), maxL ds) := by
  obtain ⟨p0, p1, r0, r1, z0, z1⟩ := id ho
  have c0 := hw.c0; have c3 := hw.c3; have d0 := hw.d0; have d3 := hw.d3
  have hh := w.half_nn hw
  have pk0 : 0 ≤ o.p * (ks.length : Int) := Int.mul_nonneg p0 (by omega)
  have hst := std_rch w o (reachS w o ks.length) _ ks rfl
  have hB1 : (boundsS w o (reachS w o ks.length)).1 = -(reachS w o ks.length) := by simp only [boundsS, reachS]; omega
  have hB2 : (boundsS w o (reachS w o ks.length)).2 = min w.half (reachS w o ks.length) := by simp only [boundsS, reachS]; omega
  have hR : reachS w o ks.length = rim2 w o ks.length + w.c + o.r := by simp only [reachS, rim2]; omega
  have hr2 : rim2 w o ks.length = w.d + o.r + 2 + o.p * ks.length := rfl
  unfold toldS
  rw [if_neg hks]
  simp only
  rw [hB1, hB2] at hst
  rw [hB1, hB2]
  generalize hd1 : (stdS w o (reachS w o ks.length) (ks.zipIdx 0)).map Sg.d = d1
  have hm1 : ∀ z, z ∈ d1 ↔ ∃ x, Rch w o (-(reachS w o ks.length)) (min w.half (reachS w o ks.length)) ks x ∧ x.d = z := by
    intro z
    rw [← hd1, List.mem_map]
    constructor
    · rintro ⟨x, h, e⟩; exact ⟨x, (hst x).mp h, e⟩
    · rintro ⟨x, h, e⟩; exact ⟨x, (hst x).mpr h, e⟩
  generalize rim2 w o ks.length = B at *
  generalize reachS w o ks.length = R at *
  -- from one to the other
  have t12 : ∀ z ∈ d1, max (-B) z ∈ ds := by
    intro z hz
    obtain ⟨x, hx, rfl⟩ := (hm1 z).mp hz
    have := hx.bd
    refine (hds _).mpr ⟨_, Rch.clamp (C := B) (T := w.half) hw ho (by omega) (Int.le_refl _) (by omega) (.inl rfl) (by omega) hx, ?_⟩
    simp only; omega
  have t21 : ∀ z ∈ ds, min z (min w.half R) ∈ d1 := by
    intro z hz
    obtain ⟨x, hx, rfl⟩ := (hds z).mp hz
    have := hx.bd
    refine (hm1 _).mpr ⟨_, Rch.clamp (C := R) (T := min w.half R) hw ho (Int.le_refl _) (by omega) (by omega) (by omega) (by omega) hx, ?_⟩
    simp only; omega
  -- the rims
  have tlow : -B ∈ ds → -R ∈ d1 := by
    intro hz
    obtain ⟨x, hx, e⟩ := (hds _).mp hz
    have h2 := hx.top (U := -(w.d + o.r + 2)) p0 (by rw [e, hr2]; omega)
    have h3 := Rch.map (f := fun d => d - (R - B)) (lo' := -R) (hi' := min w.half R) (fun d _ _ => ⟨by omega, by omega⟩) (fun d e _ _ => ⟨by omega, by omega⟩) (fun d l h1 h2 => words_low hw ho (by omega) (by omega)) h2
    exact (hm1 _).mpr ⟨_, h3, by simp only; omega⟩
  have thigh : R < w.half → R ∈ d1 → w.half ∈ ds := by
    intro hlt hz
    obtain ⟨x, hx, e⟩ := (hm1 _).mp hz
    have h2 := hx.bot (U := w.c + o.r) p0 (by rw [e, hR, hr2]; omega)
    have h3 := Rch.map (f := fun d => d + (w.half - R)) (lo' := -B) (hi' := w.half) (fun d _ _ => ⟨by omega, by omega⟩) (fun d e _ _ => ⟨by omega, by omega⟩) (fun d l h1 h2 => words_high hw ho (by omega) (by omega) (by omega) (by omega)) h2
    exact (hds _).mpr ⟨_, h3, by simp only; omega⟩
  have b1 : ∀ z ∈ d1, -R ≤ z ∧ z ≤ min w.half R := by
    intro z hz; obtain ⟨x, hx, rfl⟩ := (hm1 z).mp hz; exact hx.bd
  have b2 : ∀ z ∈ ds, -B ≤ z ∧ z ≤ w.half := by
    intro z hz; obtain ⟨x, hx, rfl⟩ := (hds z).mp hz; exact hx.bd
  by_cases he : ds = []
  · have : d1 = [] := by
      cases d1 with
      | nil => rfl
      | cons a l => have := t12 a (by simp); rw [he] at this; cases this
    rw [if_pos he, if_pos this]
  · have he1 : d1 ≠ [] := by
      cases ds with
      | nil => exact absurd rfl he
      | cons a l => intro h; have := t21 a (by simp); rw [h] at this; cases this
    rw [if_neg he, if_neg he1]
    obtain ⟨mi1, mi2⟩ := minL_spec he1
    obtain ⟨ma1, ma2⟩ := maxL_spec he1
    obtain ⟨ni1, ni2⟩ := minL_spec he
    obtain ⟨na1, na2⟩ := maxL_spec he
    have u1 := ni2 _ (t12 _ mi1)
    have u2 := mi2 _ (t21 _ ni1)
    have u3 := na2 _ (t12 _ ma1)
    have u4 := ma2 _ (t21 _ na1)
    have v1 := b1 _ mi1; have v2 := b1 _ ma1; have v3 := b2 _ ni1; have v4 := b2 _ na1
    have w1 : minL ds = -B → minL d1 = -R := by
      intro e; have := mi2 _ (tlow (by rw [← e]; exact ni1)); omega
    have w2 : R < w.half → maxL d1 = R → maxL ds = w.half := by
      intro h e; have := na2 _ (thigh h (by rw [← e]; exact ma1)); omega
    congr 2
    · by_cases q : minL ds = -B
      · rw [if_pos q, if_pos (w1 q)]
      · have q1 : ¬ minL d1 = -R := by omega
        have q2 : minL d1 = minL ds := by omega
        rw [if_neg q, if_neg q1, q2]
    · by_cases q : maxL d1 = min w.half R
      · rw [if_pos q]
        by_cases q3 : R < w.half
        · exact (w2 q3 (by omega)).symm
        · omega
      · rw [if_neg q]; omega
/-! ## places -/
def looksS (o : Wo) (place l : Int) : List (Option Int) := (irg (place - o.r) (place + o.r + 1)).map some ++ (if l < o.z then [none] else [])
def Wt.dep (w : Wt) (p : Int) : Int := depI w.a w.b p
theorem dep_eq (w : Wt) (p : Int) : w.dep p = min (p - w.a) (w.b - p) := by
  unfold Wt.dep depI; split <;> omega
theorem mem_wordsS {w : Wt} {o : Wo} {dp l : Int} {x : Wd4} (hw : w.Ok) (ho : o.Ok) (hd : dp ≤ w.half) : x ∈ wordsS w o dp l ↔ (x = .lost ∧ l < o.z) ∨ ∃ t, dp - o.r ≤ t ∧ t ≤ min (dp + o.r) w.half ∧ wordD w.c w.d t = x := by
  obtain ⟨p0, p1, r0, r1, z0, z1⟩ := id ho
  have c0 := hw.c0; have d0 := hw.d0
  have hh := w.half_nn hw
  unfold wordsS
  simp only [List.mem_append]
  have ev : ∀ {c : Prop} [Decidable c] {y : Wd4}, x ∈ (if c then [y] else []) ↔ c ∧ x = y := by
    intro c _ y; split <;> simp [*]
  simp only [ev]
  constructor
  · rintro (((⟨h, rfl⟩ | ⟨h, rfl⟩) | ⟨h, rfl⟩) | ⟨h, rfl⟩)
    · exact .inr ⟨min (dp + o.r) w.half, by omega, Int.le_refl _, by unfold wordD; rw [if_pos h]⟩
    · exact .inr ⟨dp - o.r, Int.le_refl _, by omega, by unfold wordD; rw [if_neg (by omega), if_pos (by omega)]⟩
    · exact .inr ⟨max (dp - o.r) (-w.d), by omega, by omega, by unfold wordD; rw [if_neg (by omega), if_neg (by omega)]⟩
    · exact .inl ⟨rfl, h⟩
  · rintro (⟨rfl, h⟩ | ⟨t, h1, h2, rfl⟩)
    · exact .inr ⟨h, rfl⟩
    · refine .inl ?_
      unfold wordD
      split
      · exact .inl (.inl ⟨by omega, rfl⟩)
      · split
        · exact .inl (.inr ⟨by omega, rfl⟩)
        · exact .inr ⟨by omega, rfl⟩
theorem dep_half (w : Wt) (p : Int) : w.dep p ≤ w.half := by
  rw [dep_eq]; unfold Wt.half; omega
theorem mem_looks {w : Wt} {o : Wo} {p l : Int} {x : Wd4} (hw : w.Ok) (ho : o.Ok) : x ∈ wordsS w o (w.dep p) l ↔ ∃ k ∈ looksS o p l, wordL w.a w.b w.c w.d k = x := by
  obtain ⟨p0, p1, r0, r1, z0, z1⟩ := id ho
  have hab := hw.ab
  rw [mem_wordsS hw ho (dep_half w p)]
  have key : ∀ t, (w.dep p - o.r ≤ t ∧ t ≤ min (w.dep p + o.r) w.half) ↔ ∃ k, p - o.r ≤ k ∧ k < p + o.r + 1 ∧ w.dep k = t := by
    intro t
    constructor
    · rintro ⟨h1, h2⟩
      rw [dep_eq] at h1 h2
      have hh : w.half = (w.b - w.a) / 2 := rfl
      by_cases q : p - w.a ≤ w.b - p
      · exact ⟨w.a + t, by omega, by omega, by rw [dep_eq]; omega⟩
      · exact ⟨w.b - t, by omega, by omega, by rw [dep_eq]; omega⟩
    · rintro ⟨k, h1, h2, rfl⟩
      have := dep_half w k
      rw [dep_eq w p, dep_eq w k] at *
      omega
  constructor
  · rintro (⟨rfl, h⟩ | ⟨t, h1, h2, rfl⟩)
    · exact ⟨none, by simp [looksS, h], rfl⟩
    · obtain ⟨k, h3, h4, rfl⟩ := (key t).mp ⟨h1, h2⟩
      exact ⟨some k, by simp only [looksS, List.mem_append, List.mem_map]; exact .inl ⟨k, mem_irg.mpr ⟨h3, h4⟩, rfl⟩, rfl⟩
  · rintro ⟨k, hk, rfl⟩
    simp only [looksS, List.mem_append, List.mem_map] at hk
    rcases hk with ⟨k, hk, rfl⟩ | hk
    · obtain ⟨h1, h2⟩ := mem_irg.mp hk
      obtain ⟨h3, h4⟩ := (key (w.dep k)).mpr ⟨k, h1, h2, rfl⟩
      exact .inr ⟨w.dep k, h3, h4, rfl⟩
    · split at hk
      · simp at hk; subst hk; exact .inl ⟨rfl, by assumption⟩
      · cases hk
/-- what a look leads to -/
def Wt.onw (w : Wt) (s : Bool × Int) (k : Option Int) : (Bool × Int) × Sd := w.step s (wordL w.a w.b w.c w.d k)
def lookR (w : Wt) (s : Bool × Int) (l p : Int) (k : Option Int) : Sg × Sd := (⟨p, (w.onw s k).1, if k = none then l + 1 else 0⟩, (w.onw s k).2)
def behindS (w : Wt) (o : Wo) (s : Bool × Int) (l p : Int) : List (Sg × Sd) := once ((looksS o p l).map (lookR w s l p))
theorem lost_none {w : Wt} {k : Option Int} : wordL w.a w.b w.c w.d k = .lost ↔ k = none := by
  cases k with
  | none => simp [wordL]
  | some k =>
    simp only [wordL, wordD]
    constructor
    · intro h
      split at h
      · cases h
      · split at h <;> cases h
    · intro h; cases h
theorem mem_behind {w : Wt} {o : Wo} {s : Bool × Int} {l p : Int} (hw : w.Ok) (ho : o.Ok) (y : Sg × Sd) : y ∈ behindS w o s l p ↔ y.1.d = p ∧ ∃ r ∈ lookedS w o s l (w.dep p), r.k = y.2 ∧ r.x = ⟨w.dep p, y.1.s, y.1.l⟩ := by
  simp only [behindS, mem_once, List.mem_map, lookedS]
  constructor
  · rintro ⟨k, hk, rfl⟩
    refine ⟨rfl, _, ⟨_, (mem_looks hw ho).mpr ⟨k, hk, rfl⟩, rfl⟩, rfl, ?_⟩
    simp only [lookR, Wt.onw, lost_none]
  · rintro ⟨h, r, ⟨x, hx, rfl⟩, e1, e2⟩
    obtain ⟨k, hk, rfl⟩ := (mem_looks hw ho).mp hx
    refine ⟨k, hk, ?_⟩
    obtain ⟨⟨d, s', l'⟩, z⟩ := y
    simp only at h e1 e2
    simp only [Sg.mk.injEq, lost_none] at e2
    obtain ⟨_, e2, e3⟩ := e2
    simp only [lookR, Wt.onw, h, e1, e2, e3]
/-! ### paths of places -/
inductive Lch (w : Wt) (o : Wo) (B : Int) : List Sd → Sg → Prop
  | one {p : Int} {y : Sg × Sd} : w.a - B ≤ p → p ≤ w.b + B → y ∈ behindS w o (false, 0) 0 p → Lch w o B [y.2] y.1
  | more {ks : List Sd} {x : Sg} {p : Int} {y : Sg × Sd} : Lch w o B ks x → w.a - B ≤ p → p ≤ w.b + B → x.d - o.p ≤ p → p ≤ x.d + o.p → y ∈ behindS w o x.s x.l p → Lch w o B (ks ++ [y.2]) y.1
theorem Lch.rch {w : Wt} {o : Wo} {B : Int} (hw : w.Ok) (ho : o.Ok) {ks : List Sd} {x : Sg} (h : Lch w o B ks x) : Rch w o (-B) w.half ks ⟨w.dep x.d, x.s, x.l⟩ := by
  have hp := ho.1
  have hab := hw.ab
  induction h with
  | @one p y h1 h2 h3 =>
    obtain ⟨e, r, hr, e1, e2⟩ := (mem_behind hw ho y).mp h3
    rw [e, ← e1, ← e2]
    have := dep_half w p
    exact .one (by rw [dep_eq]; omega) this hr
  | @more ks x p y h0 h1 h2 h3 h4 h5 ih =>
    obtain ⟨e, r, hr, e1, e2⟩ := (mem_behind hw ho y).mp h5
    rw [e, ← e1, ← e2]
    have := dep_half w p
    refine .more (x := ⟨w.dep x.d, x.s, x.l⟩) ih (by rw [dep_eq]; omega) this ?_ ?_ hr
    · simp only; rw [dep_eq, dep_eq]; omega
    · simp only; rw [dep_eq, dep_eq]; omega
theorem dep_left {w : Wt} {d : Int} (h : d ≤ w.half) : w.dep (w.a + d) = d := by
  rw [dep_eq]; unfold Wt.half at h; omega
theorem Rch.lch {w : Wt} {o : Wo} {B : Int} (hw : w.Ok) (ho : o.Ok) (hB : 0 ≤ B) {ks : List Sd} {x : Sg} (h : Rch w o (-B) w.half ks x) : Lch w o B ks ⟨w.a + x.d, x.s, x.l⟩ := by
  have hab := hw.ab
  have hh : w.half = (w.b - w.a) / 2 := rfl
  induction h with
  | @one d r h1 h2 h3 =>
    have m : ((⟨w.a + d, r.x.s, r.x.l⟩, r.k) : Sg × Sd) ∈ behindS w o (false, 0) 0 (w.a + d) := (mem_behind hw ho _).mpr ⟨rfl, r, by rw [dep_left h2]; exact h3, rfl, by rw [dep_left h2, ← looked_d h3]⟩
    rw [looked_d h3]
    exact .one (y := (⟨w.a + d, r.x.s, r.x.l⟩, r.k)) (by omega) (by omega) m
  | @more ks x d r h0 h1 h2 h3 h4 h5 ih =>
    have m : ((⟨w.a + d, r.x.s, r.x.l⟩, r.k) : Sg × Sd) ∈ behindS w o x.s x.l (w.a + d) := (mem_behind hw ho _).mpr ⟨rfl, r, by rw [dep_left h2]; exact h5, rfl, by rw [dep_left h2, ← looked_d h5]⟩
    rw [looked_d h5]
    exact .more (x := ⟨w.a + x.d, x.s, x.l⟩) (y := (⟨w.a + d, r.x.s, r.x.l⟩, r.k)) ih (by omega) (by omega) (by simp only; omega) (by simp only; omega) m
theorem told_law {w : Wt} {o : Wo} {ks : List Sd} (hw : w.Ok) (ho : o.Ok) (hks : ks ≠ []) (here : List Sg) (hh : ∀ x, x ∈ here ↔ Lch w o (rim2 w o ks.length) ks x) :
    toldS w o ks = if here.map (fun x => w.dep x.d) = [] then none else some (if minL (here.map fun x => w.dep x.d) = -(rim2 w o ks.length) then none else some (minL (here.map fun x => w.dep x.d)), maxL (here.map fun x => w.dep x.d)) := by
  obtain ⟨p0, p1, r0, r1, z0, z1⟩ := id ho
  have d0 := hw.d0
  have pk0 : 0 ≤ o.p * (ks.length : Int) := Int.mul_nonneg p0 (by omega)
  refine told_due hw ho hks _ fun z => ?_
  rw [List.mem_map]
  constructor
  · rintro ⟨x, hx, rfl⟩
    exact ⟨_, ((hh x).mp hx).rch hw ho, rfl⟩
  · rintro ⟨x, hx, rfl⟩
    have hb := hx.bd
    exact ⟨_, (hh _).mpr (hx.lch hw ho (by simp only [rim2]; omega)), dep_left hb.2⟩
/-! ## the law, walked -/
theorem rim_ok (n : Nat) (w : Wt) (o : Wo) (B : Int) (hB : w.d + o.r + 1 ≤ B) (S : Sto) : runO prg (n + 1) i_law_rim [w.t, o.t, .int B] S = some (.ok (.tup [.int (w.a - B), .int (w.b + B)]) S) := by
  have hm : max (w.d + o.r + 1) B = B := by omega
  exact run_to (fd := fd_law_rim) (t := .tup [.int (w.a - B), .int (w.b + B)]) (S' := []) rfl rfl rfl rfl (by simp [fd_law_rim, init, bindT, Wt.t, mkW, Wo.t, mkWd, hm, line]) rfl rfl
theorem onw_ok (n : Nat) (w : Wt) (hw : w.Ok) (s : Bool × Int) (k : Option Int) (S : Sto) : runO prg (n + 2) i_law_onward [w.t, tS2 s, lookT k] S = some (.ok (.tup [tS2 (w.onw s k).1, (w.onw s k).2.t]) S) := law_onward_ok n _ _ _ _ _ _ _ hw.c0 hw.d0 s.1 s.2 k S
theorem co_isN (S : Sto) (k : Option Int) : cop S .Is (lookT k) .non = some (decide (k = none)) := by
  cases k <;> simp [cop, lookT]
theorem looks_T (o : Wo) (p l : Int) : (looksS o p l).map lookT = rngT (p - o.r) (p + o.r + 1 - (p - o.r)).toNat ++ (if l < o.z then [T.non] else []) := by
  rw [rng_irg, looksS, List.map_append, List.map_map]
  congr 1
  split <;> rfl
def bhF (d : List ((Sg × Sd) × Unit)) (y : Sg × Sd) : List ((Sg × Sd) × Unit) := putA d y ()
theorem bh_len : ∀ (l : List (Sg × Sd)) (d : List ((Sg × Sd) × Unit)), (l.foldl bhF d).length ≤ d.length + l.length
  | [], d => by simp
  | y :: l, d => by
    have h1 := bh_len l (bhF d y)
    have h2 := len_putA y () d
    simp only [List.foldl_cons, List.length_cons]
    simp only [bhF] at h1 ⊢
    omega
theorem looks_len (o : Wo) (ho : o.Ok) (p l : Int) : (looksS o p l).length ≤ 8 := by
  obtain ⟨p0, p1, r0, r1, z0, z1⟩ := ho
  simp only [looksS, List.length_append, List.length_map, len_irg]
  split <;> simp only [List.length_cons, List.length_nil] <;> omega
theorem nb_ps (l : List (Sg × Sd)) : noBx 0 (.lst (l.map psT)) = true := nbL_map l fun x _ => by
  obtain ⟨⟨d, ⟨s, r⟩, l⟩, k⟩ := x
  cases k <;> rfl
theorem behind_ok (n : Nat) (w : Wt) (o : Wo) (hw : w.Ok) (ho : o.Ok) (s : Bool × Int) (l p : Int) (hp0 : -1000 ≤ p) (hp1 : p ≤ 1000) (S : Sto) : runO prg (n + 3) i_law_behind [w.t, o.t, tS2 s, .int l, .int p] S = some (.ok (.lst ((behindS w o s l p).map psT)) S) := by
  obtain ⟨q0, q1, r0, r1, z0, z1⟩ := id ho
  obtain ⟨ρ', S', ef, v6, v7, v8, rfl, rfl⟩ := forL_st (g := frT (evO prg (n + 2)) (.nm 6) (.seq (.asg (.tp (.cn (.nm 7) (.cn (.nm 8) .nl))) (.call 23 (.cons (.var 0) (.cons (.var 2) (.cons (.var 6) .nil))))) (.seq (.sub (.var 5) (.tup (.cons (.tup (.cons (.var 4) (.cons (.var 7) (.cons (.ite (.cmp .Is (.var 6) (.lit .non)) (.op false .Add (.var 3) (.lit (.int 1))) (.lit (.int 0))) .nil)))) (.cons (.var 8) .nil))) (.lit (.bl true))) .skip))) lookT (fun pre ρ S' => ∃ v6 v7 v8, ρ = [some w.t, some o.t, some (tS2 s), some (.int l), some (.int p), some (.box 0), v6, v7, v8] ∧ S' = [.dct (encD psE trueT ((pre.map (lookR w s l p)).foldl bhF []))])
    (looksS o p l) [] [some w.t, some o.t, some (tS2 s), some (.int l), some (.int p), some (.box 0), none, none, none] [.dct []] ⟨_, _, _, rfl, rfl⟩
    (fun pre k post ρ S' hl hs => by
      obtain ⟨v6, v7, v8, rfl, rfl⟩ := hs
      refine ⟨[some w.t, some o.t, some (tS2 s), some (.int l), some (.int p), some (.box 0), some (lookT k), some (tS2 (w.onw s k).1), some (w.onw s k).2.t], _, ?_, _, _, _, rfl, rfl⟩
      rw [List.map_append, List.foldl_append]
      generalize hd : (pre.map (lookR w s l p)).foldl bhF [] = d
      have hlen : d.length ≤ 8 := by
        have h1 := bh_len (pre.map (lookR w s l p)) []
        have h2 := looks_len o ho p l
        rw [List.nil_append] at hl
        rw [hl] at h2
        rw [hd] at h1
        simp at h1 h2
        omega
      have hdl : (encD psE trueT d).length < 16777216 := by
        simp only [encD, List.length_map]; omega
      have hon := fun S => onw_ok n w hw s k S
      have hpu := dPut_A psE trueT (lookR w s l p k) () d
      have htk : tkey (T.tup [Sg.t (lookR w s l p k).1, (w.onw s k).2.t]) = some (psE.k (lookR w s l p k)) := psE.h (lookR w s l p k)
      have hpu : dPut (encD psE trueT d) (T.tup [Sg.t (lookR w s l p k).1, (w.onw s k).2.t]) (psE.k (lookR w s l p k)) (.bl true) = encD psE trueT (bhF d (lookR w s l p k)) := hpu
      cases k with
      | none =>
        simp [lookR, Sg.t] at htk hpu
        simp [frT, bindT, hon, co_isN, line, wSub, hdl, htk, hpu]; rfl
      | some k =>
        simp [lookR, Sg.t] at htk hpu
        simp [frT, bindT, hon, co_isN, line, wSub, hdl, htk, hpu]; rfl)
  rw [List.nil_append] at ef
  have hk : (encD psE trueT (((looksS o p l).map (lookR w s l p)).foldl bhF [])).map (·.1) = (behindS w o s l p).map psT := encD_keys _ _ _
  have hsrc : evE (evO prg (n + 2)) (.sq (.op false .Add (.lrg false (.op false .Sub (.var 4) (.ix (.var 1) (.lit (.int 1)))) (.op false .Add (.op false .Add (.var 4) (.ix (.var 1) (.lit (.int 1)))) (.lit (.int 1)))) (.ite (.cmp .Lt (.var 3) (.ix (.var 1) (.lit (.int 2)))) (.lst false (.cons (.lit .non) .nil)) (.lst false .nil)))) [some w.t, some o.t, some (tS2 s), some (.int l), some (.int p), some (.box 0), none, none, none] [.dct []] = some (.ok (.tup ((looksS o p l).map lookT)) [.dct []]) := by
    have k1 : okR (p - o.r) = true := by simp [okR]; omega
    have k2 : okR (p + o.r + 1) = true := by simp [okR]; omega
    have k3 : (p + o.r + 1 - (p - o.r)).toNat ≤ 16777216 := by omega
    have k4 : (p + o.r + 1 - (p - o.r)).toNat + 1 ≤ 16777216 := by omega
    rw [looks_T]
    by_cases hl : l < o.z
    · simp [Wo.t, mkWd, k1, k2, k3, k4, hl, line, bq_addL, seqT]
    · simp [Wo.t, mkWd, k1, k2, k3, hl, line, bq_addL, seqT]
  refine run_to (fd := fd_law_behind) (t := .lst ((behindS w o s l p).map psT)) (S' := [.dct (encD psE trueT (((looksS o p l).map (lookR w s l p)).foldl bhF []))]) rfl rfl rfl rfl ?_ rfl (nb_ps _)
  have e0 : init fd_law_behind [w.t, o.t, tS2 s, .int l, .int p] = [some w.t, some o.t, some (tS2 s), some (.int l), some (.int p), none, none, none, none] := rfl
  rw [e0]
  simp only [fd_law_behind]
  rw [seq_nx (asg_eq (t := .box 0) (S1 := [.dct []]) (by simp))]; simp only [List.set]
  rw [seq_nx (for_eq hsrc ef), seq_rt (ret_eq (t := .lst ((behindS w o s l p).map psT)) (S1 := [.dct (encD psE trueT (((looksS o p l).map (lookR w s l p)).foldl bhF []))]) (by simp [bltT, drf, dLen, hk, -List.map_map]))]
theorem run_bx {n f k : Nat} {ts l : List T} {S S' : Sto} {fd : FD} (h : prg.tab f = some fd) (hl : ts.length = fd.np) (hb : noBxL 0 ts = true) (hm : fd.md = 2) (he : evS (evO prg n) fd.body (init fd ts) [] = some (.rt (.box k) S')) (hk : S'[k]? = some (.lst l)) (hn : noBxL 0 l = true) : runO prg (n + 1) f ts S = some (.ok (.box S.length) (S ++ [.lst l])) := by
  rw [run_loc prg n f ts S fd h hl hb (md := 1) hm, he]
  show locO S (fin1B (.box k) S') = _
  simp only [fin1B, hk, hn, if_true]
  simp [locO, noBx, noBxO, hn]
def beginsS (w : Wt) (o : Wo) (B : Int) : List (Sg × Sd) := (irg (w.a - B) (w.b + B + 1)).flatMap (behindS w o (false, 0) 0)
theorem once_len {α : Type} [DecidableEq α] (l : List α) : (once l).length ≤ l.length := by
  have h : ∀ x ∈ once l, x ∈ l := fun x hx => (mem_once l x).mp hx
  exact nodup_le (once_nd l) h
theorem behind_len (w : Wt) (o : Wo) (ho : o.Ok) (s : Bool × Int) (l p : Int) : (behindS w o s l p).length ≤ 8 := by
  have h1 := once_len ((looksS o p l).map (lookR w s l p))
  have h2 := looks_len o ho p l
  rw [List.length_map] at h1
  exact Nat.le_trans h1 h2
/-- a watcher of a small fence -/
structure Small (w : Wt) : Prop where
  a0 : -3 ≤ w.a
  b1 : w.b ≤ 13
theorem begins_ok (n : Nat) (w : Wt) (o : Wo) (B : Int) (hw : w.Ok) (hs : Small w) (ho : o.Ok) (hB : w.d + o.r + 1 ≤ B) (hB2 : B ≤ 100) (S : Sto) : runO prg (n + 4) i_law_begins [w.t, o.t, .int B] S = some (.ok (.box S.length) (S ++ [.lst ((beginsS w o B).map psT)])) := by
  have hr := rim_ok (n + 2) w o B hB
  have a0 := hs.a0; have b1 := hs.b1; have hab := hw.ab
  have hd0 := hw.d0; have hr0 := ho.2.2.1
  obtain ⟨ρ', S', ef, v3, k, rfl, hk⟩ := forL_st (g := frT (evO prg (n + 3)) (.nm 3) (.seq (.asg (.nm 4) (.op true .Add (.var 4) (.call 27 (.cons (.var 0) (.cons (.var 1) (.cons (.tup (.cons (.lit (.bl false)) (.cons (.lit (.int 0)) .nil))) (.cons (.lit (.int 0)) (.cons (.var 3) .nil)))))))) .skip)) T.int (fun pre ρ S' => ∃ v3 k, ρ = [some w.t, some o.t, some (.int B), v3, some (.box k), some (.int (w.a - B)), some (.int (w.b + B))] ∧ S'[k]? = some (.lst ((pre.flatMap (behindS w o (false, 0) 0)).map psT)))
    (irg (w.a - B) (w.b + B + 1)) [] [some w.t, some o.t, some (.int B), none, some (.box 0), some (.int (w.a - B)), some (.int (w.b + B))] [.lst []] ⟨_, _, rfl, rfl⟩
    (fun pre p post ρ S' hl hs => by
      obtain ⟨v3, k, rfl, hk⟩ := hs
      have hl : irg (w.a - B) (w.b + B + 1) = pre ++ p :: post := hl
      have hlb := congrArg List.length hl
      rw [len_irg] at hlb
      have hp := mem_irg.mp (show p ∈ irg (w.a - B) (w.b + B + 1) by rw [hl]; simp)
      have hbh : ∀ S, runO prg (n + 3) i_law_behind [w.t, o.t, .tup [.bl false, .int 0], .int 0, .int p] S = some (.ok (.lst ((behindS w o (false, 0) 0 p).map psT)) S) := fun S => behind_ok n w o hw ho (false, 0) 0 p (by omega) (by omega) S
      refine ⟨[some w.t, some o.t, some (.int B), some (.int p), some (.box S'.length), some (.int (w.a - B)), some (.int (w.b + B))], S' ++ [.lst (((pre ++ [p]).flatMap (behindS w o (false, 0) 0)).map psT)], ?_, _, _, rfl, by simp⟩
      have h1 : (pre.flatMap (behindS w o (false, 0) 0)).length ≤ 8 * pre.length := fm_len fun a _ => behind_len w o ho _ _ _
      have h2 := behind_len w o ho (false, 0) 0 p
      simp only [List.length_append, List.length_cons] at hlb
      have hle : (pre.flatMap (behindS w o (false, 0) 0)).length + (behindS w o (false, 0) 0 p).length ≤ 16777216 := by omega
      have hfm : (pre ++ [p]).flatMap (behindS w o (false, 0) 0) = pre.flatMap (behindS w o (false, 0) 0) ++ behindS w o (false, 0) 0 p := by simp
      rw [hfm, List.map_append]
      generalize pre.flatMap (behindS w o (false, 0) 0) = acc at hk hle
      have hdr : drf S' (.box k) = .lst (acc.map psT) := by simp [drf, hk]
      simp [frT, bindT, hbh, hdr, line, bq_addL, hle])
  rw [List.nil_append] at hk
  have hn : noBxL 0 ((beginsS w o B).map psT) = true := by
    have := nb_ps (beginsS w o B)
    simpa [noBx] using this
  have hsrc : evE (evO prg (n + 3)) (.rg2 (.var 5) (.op false .Add (.var 6) (.lit (.int 1)))) [some w.t, some o.t, some (.int B), none, some (.box 0), some (.int (w.a - B)), some (.int (w.b + B))] [.lst []] = some (.ok (.tup ((irg (w.a - B) (w.b + B + 1)).map .int)) [.lst []]) := by
    have k1 : okR (w.a - B) = true := by simp [okR]; omega
    have k2 : okR (w.b + B + 1) = true := by simp [okR]; omega
    simp [k1, k2, rng_irg]
  refine run_bx (fd := fd_law_begins) (k := k) (S' := S') rfl rfl rfl rfl ?_ hk hn
  have e0 : init fd_law_begins [w.t, o.t, .int B] = [some w.t, some o.t, some (.int B), none, none, none, none] := rfl
  rw [e0]
  simp only [fd_law_begins]
  rw [seq_nx (ρ' := [some w.t, some o.t, some (.int B), none, some (.box 0), some (.int (w.a - B)), some (.int (w.b + B))]) (S' := [.lst []]) (by simp [hr, bindT, line])]
  rw [seq_nx (for_eq hsrc ef), seq_rt (ret_eq (t := .box k) (S1 := S') (by simp))]
/-! ## the law's graph -/
theorem whl_inv {c : Rho → Sto → Res} {g : Rho → Sto → ResS} (I : Nat → Rho → Sto → Prop) (D : Rho → Sto → Prop) (h : ∀ m ρ S, I m ρ S → (∃ t, c ρ S = some (.ok t S) ∧ truthy S t = some false ∧ D ρ S) ∨ (∃ t ρ' S' m', c ρ S = some (.ok t S) ∧ truthy S t = some true ∧ g ρ S = some (.nx ρ' S') ∧ m' < m ∧ I m' ρ' S')) : ∀ (k m : Nat) (ρ : Rho) (S : Sto), I m ρ S → m < k → ∃ ρ' S', whlL c g k ρ S = some (.nx ρ' S') ∧ D ρ' S'
  | 0, m, _, _, _, hk => absurd hk (Nat.not_lt_zero m)
  | k + 1, m, ρ, S, hi, hk => by
    rcases h m ρ S hi with ⟨t, e1, e2, d⟩ | ⟨t, ρ', S', m', e1, e2, e3, hm, hi'⟩
    · exact ⟨ρ, S, by simp only [whlL, e1, e2], d⟩
    · obtain ⟨ρ2, S2, e4, d⟩ := whl_inv I D h k m' ρ' S' hi' (by omega)
      exact ⟨ρ2, S2, by simp only [whlL, e1, e2, e3]; exact e4, d⟩
def linksS (w : Wt) (o : Wo) (B : Int) (x : Sg) : List (Sg × Sd) := (irg (max (w.a - B) (x.d - o.p)) (min (w.b + B) (x.d + o.p) + 1)).flatMap (behindS w o x.s x.l)
theorem links_len (w : Wt) (o : Wo) (B : Int) (x : Sg) (ho : o.Ok) : (linksS w o B x).length ≤ 56 := by
  have h := fm_len (l := irg (max (w.a - B) (x.d - o.p)) (min (w.b + B) (x.d + o.p) + 1)) (c := 8) (f := behindS w o x.s x.l) fun d _ => behind_len w o ho _ _ _
  rw [len_irg] at h
  have := ho.2.1
  have : (min (w.b + B) (x.d + o.p) + 1 - max (w.a - B) (x.d - o.p)).toNat ≤ 7 := by omega
  simp only [linksS]
  omega
theorem behind_bd {w : Wt} {o : Wo} {s : Bool × Int} {l p a b : Int} {y : Sg × Sd} (hw : w.Ok) (ho : o.Ok) (h0 : 0 ≤ s.2) (h1 : s.2 ≤ 2) (h2 : 0 ≤ l) (h3 : a ≤ p) (h4 : p ≤ b) (h : y ∈ behindS w o s l p) : SgB a b y.1 := by
  obtain ⟨e, r, hr, e1, e2⟩ := (mem_behind hw ho y).mp h
  have hb := looked_bd hw ho h0 h1 h2 (Int.le_refl (w.dep p)) (Int.le_refl _) hr
  rw [e2] at hb
  exact ⟨by omega, by omega, hb.r0, hb.r1, hb.l0, hb.l1⟩
theorem links_bd {w : Wt} {o : Wo} {B a b : Int} {x : Sg} {y : Sg × Sd} (hw : w.Ok) (ho : o.Ok) (hx : SgB a b x) (h : y ∈ linksS w o B x) : SgB (w.a - B) (w.b + B) y.1 := by
  simp only [linksS, List.mem_flatMap] at h
  obtain ⟨p, hp, h⟩ := h
  obtain ⟨h1, h2⟩ := mem_irg.mp hp
  exact behind_bd hw ho hx.r0 hx.r1 hx.l0 (by omega) (by omega) h
theorem begins_bd {w : Wt} {o : Wo} {B : Int} {y : Sg × Sd} (hw : w.Ok) (ho : o.Ok) (h : y ∈ beginsS w o B) : SgB (w.a - B) (w.b + B) y.1 := by
  simp only [beginsS, List.mem_flatMap] at h
  obtain ⟨p, hp, h⟩ := h
  obtain ⟨h1, h2⟩ := mem_irg.mp hp
  exact behind_bd hw ho (by simp) (by simp) (by simp) (by omega) (by omega) h
/-- the walk over the graph: what is to do, what is found -/
structure Gr (w : Wt) (o : Wo) (B : Int) (line : List Sg) (found : List (Sg × List (Sg × Sd))) : Prop where
  nd : (found.map (·.1)).Nodup
  val : ∀ x v, getA found x = some v → v = linksS w o B x
  lb : ∀ x ∈ line, SgB (w.a - B) (w.b + B) x
  kb : ∀ x ∈ found.map (·.1), SgB (w.a - B) (w.b + B) x
  clo : ∀ x ∈ found.map (·.1), ∀ y ∈ linksS w o B x, y.1 ∈ line ∨ y.1 ∈ found.map (·.1)
  beg : ∀ y ∈ beginsS w o B, y.1 ∈ line ∨ y.1 ∈ found.map (·.1)
theorem Gr.start {w : Wt} {o : Wo} {B : Int} (hw : w.Ok) (ho : o.Ok) : Gr w o B ((beginsS w o B).map (·.1)) [] where
  nd := List.nodup_nil
  val x v h := by cases h
  lb x hx := by
    obtain ⟨y, hy, rfl⟩ := List.mem_map.mp hx
    exact begins_bd hw ho hy
  kb x hx := by cases hx
  clo x hx := by cases hx
  beg y hy := .inl (List.mem_map_of_mem hy)
theorem Gr.skip {w : Wt} {o : Wo} {B : Int} {line : List Sg} {x : Sg} {found : List (Sg × List (Sg × Sd))} (h : Gr w o B (line ++ [x]) found) (hx : x ∈ found.map (·.1)) : Gr w o B line found where
  nd := h.nd
  val := h.val
  lb y hy := h.lb y (by simp [hy])
  kb := h.kb
  clo y hy z hz := by
    rcases h.clo y hy z hz with k | k
    · rcases List.mem_append.mp k with k | k
      · exact .inl k
      · rw [List.mem_singleton.mp k]; exact .inr hx
    · exact .inr k
  beg z hz := by
    rcases h.beg z hz with k | k
    · rcases List.mem_append.mp k with k | k
      · exact .inl k
      · rw [List.mem_singleton.mp k]; exact .inr hx
    · exact .inr k
theorem Gr.step {w : Wt} {o : Wo} {B : Int} {line : List Sg} {x : Sg} {found : List (Sg × List (Sg × Sd))} (hw : w.Ok) (ho : o.Ok) (h : Gr w o B (line ++ [x]) found) : Gr w o B (line ++ (linksS w o B x).map (·.1)) (putA found x (linksS w o B x)) where
  nd := nd_putA _ _ _ h.nd
  val y v e := by
    rw [getA_put] at e
    split at e
    · rename_i q; subst q; exact (Option.some.inj e).symm
    · exact h.val y v e
  lb y hy := by
    rcases List.mem_append.mp hy with k | k
    · exact h.lb y (by simp [k])
    · obtain ⟨z, hz, rfl⟩ := List.mem_map.mp k
      exact links_bd hw ho (h.lb x (by simp)) hz
  kb y hy := by
    rcases (mem_putA _ _ _ _).mp hy with k | k
    · subst k; exact h.lb y (by simp)
    · exact h.kb y k
  clo y hy z hz := by
    rcases (mem_putA _ _ _ _).mp hy with k | k
    · subst k
      exact .inl (List.mem_append.mpr (.inr (List.mem_map_of_mem hz)))
    · rcases h.clo y k z hz with q | q
      · rcases List.mem_append.mp q with q | q
        · exact .inl (List.mem_append.mpr (.inl q))
        · rw [List.mem_singleton.mp q]; exact .inr ((mem_putA _ _ _ _).mpr (.inl rfl))
      · exact .inr ((mem_putA _ _ _ _).mpr (.inr q))
  beg z hz := by
    rcases h.beg z hz with q | q
    · rcases List.mem_append.mp q with q | q
      · exact .inl (List.mem_append.mpr (.inl q))
      · rw [List.mem_singleton.mp q]; exact .inr ((mem_putA _ _ _ _).mpr (.inl rfl))
    · exact .inr ((mem_putA _ _ _ _).mpr (.inr q))
theorem Gr.few {w : Wt} {o : Wo} {B : Int} {line : List Sg} {found : List (Sg × List (Sg × Sd))} (h : Gr w o B line found) : found.length ≤ 18 * (w.b + B + 1 - (w.a - B)).toNat := by
  have := few_sg h.nd h.kb
  rwa [List.length_map] at this
theorem putA_new {α β : Type} [DecidableEq α] (a : α) (b : β) : ∀ (l : List (α × β)), a ∉ l.map (·.1) → putA l a b = l ++ [(a, b)]
  | [], _ => rfl
  | (k, v) :: l, h => by
    simp only [List.map_cons, List.mem_cons, not_or] at h
    have h1 : ¬ k = a := fun z => h.1 z.symm
    rw [putA, if_neg h1, putA_new a b l h.2]
    rfl
/-- how many turns are left at most -/
def left (w : Wt) (B : Int) (line : List Sg) (found : List (Sg × List (Sg × Sd))) : Nat := line.length + 57 * (18 * (w.b + B + 1 - (w.a - B)).toNat - found.length)
theorem left_skip {w : Wt} {B : Int} {line : List Sg} {x : Sg} {found : List (Sg × List (Sg × Sd))} : left w B line found < left w B (line ++ [x]) found := by
  simp only [left, List.length_append, List.length_cons, List.length_nil]; omega
theorem left_step {w : Wt} {o : Wo} {B : Int} {line : List Sg} {x : Sg} {found : List (Sg × List (Sg × Sd))} (hw : w.Ok) (ho : o.Ok) (h : Gr w o B (line ++ [x]) found) (hx : x ∉ found.map (·.1)) : left w B (line ++ (linksS w o B x).map (·.1)) (putA found x (linksS w o B x)) < left w B (line ++ [x]) found := by
  have h1 := (h.step hw ho).few
  have h2 := links_len w o B x ho
  rw [putA_new _ _ _ hx] at h1 ⊢
  simp only [left, List.length_append, List.length_cons, List.length_nil, List.length_map] at h1 ⊢
  omega
/-- at the end every standing there can be is a key -/
theorem Gr.all {w : Wt} {o : Wo} {B : Int} {found : List (Sg × List (Sg × Sd))} (h : Gr w o B [] found) {ks : List Sd} {x : Sg} (hl : Lch w o B ks x) : getA found x = some (linksS w o B x) := by
  have hk : x ∈ found.map (·.1) := by
    induction hl with
    | @one p y h1 h2 h3 =>
      have : y ∈ beginsS w o B := List.mem_flatMap.mpr ⟨p, mem_irg.mpr ⟨h1, by omega⟩, h3⟩
      rcases h.beg y this with q | q
      · cases q
      · exact q
    | @more ks x p y h0 h1 h2 h3 h4 h5 ih =>
      have : y ∈ linksS w o B x := List.mem_flatMap.mpr ⟨p, mem_irg.mpr ⟨by omega, by omega⟩, h5⟩
      rcases h.clo x ih y this with q | q
      · cases q
      · exact q
  have hs := (getA_mem x found).mpr hk
  cases hg : getA found x with
  | none => rw [hg] at hs; cases hs
  | some v => rw [h.val x v hg]
theorem lcBL_enc {α : Type} {g : T → Sto → Option (Option T × Sto)} (enc : α → T) {f : α → Option T} {S : Sto} {k : Nat} (l : List α) (hk : S[k]? = some (.lst (l.map enc))) (h : ∀ a ∈ l, g (enc a) S = some (f a, S)) : ∀ (post pre : List α) (fuel : Nat) (acc : List T), l = pre ++ post → post.length < fuel → acc.length + post.length ≤ line → lcBL g k fuel pre.length acc S = some (acc ++ post.filterMap f, S)
  | [], pre, fuel, acc, e, hf, _ => by
    obtain ⟨m, rfl⟩ : ∃ m, fuel = m + 1 := ⟨fuel - 1, by simp at hf; omega⟩
    subst e
    have hn : ((pre ++ []).map enc)[pre.length]? = none := by simp
    simp only [lcBL, hk, hn]
    simp
  | a :: post, pre, fuel, acc, e, hf, hl => by
    obtain ⟨m, rfl⟩ : ∃ m, fuel = m + 1 := ⟨fuel - 1, by simp at hf; omega⟩
    have hn : (l.map enc)[pre.length]? = some (enc a) := by rw [e]; simp
    have ha := h a (by rw [e]; simp)
    have e' : l = (pre ++ [a]) ++ post := by rw [e]; simp
    simp only [List.length_cons] at hf hl
    have ih := fun acc hx => lcBL_enc enc l hk h post (pre ++ [a]) m acc e' (by omega) hx
    simp only [List.length_append, List.length_cons, List.length_nil] at ih
    simp only [lcBL, hk, hn, ha]
    cases hfa : f a with
    | none =>
      simp only [List.filterMap_cons, hfa]
      exact ih acc (by omega)
    | some y =>
      have : acc.length < line := by omega
      simp only [List.filterMap_cons, hfa, this, if_true]
      rw [ih (acc ++ [y]) (by simp only [List.length_append, List.length_cons, List.length_nil]; omega)]
      simp
theorem noBxD_enc {α β : Type} (e : KE α) (v : β → T) (h1 : ∀ a, noBx 0 (e.t a) = true) (h2 : ∀ b, noBx 0 (v b) = true) : ∀ l : List (α × β), noBxD 0 (encD e v l) = true
  | [] => rfl
  | p :: l => by
    have ih := noBxD_enc e v h1 h2 l
    simp only [encD] at ih
    simp only [encD, List.map_cons, noBxD, h1, h2, ih, Bool.and_self]
theorem run_dct {n f k : Nat} {ts : List T} {l : List (T × T)} {S S' : Sto} {fd : FD} (h : prg.tab f = some fd) (hl : ts.length = fd.np) (hb : noBxL 0 ts = true) (hm : fd.md = 1) (he : evS (evO prg n) fd.body (init fd ts) [] = some (.rt (.box k) S')) (hk : S'[k]? = some (.dct l)) (hn : noBxD 0 l = true) : runO prg (n + 1) f ts S = some (.ok (.box S.length) (S ++ [.dct l])) := by
  rw [run_loc prg n f ts S fd h hl hb (md := 0) hm, he]
  show locO S (fin1 0 (.box k) S') = _
  have h0 : ¬ S'.length ≤ 0 := by
    intro z
    have : S' = [] := List.eq_nil_of_length_eq_zero (Nat.le_zero.mp z)
    subst this; simp at hk
  have ho : ownD 0 (.box k) S' = some (.dct l) := by simp [ownD, hk]
  unfold fin1
  rw [if_neg h0, ho]
  simp [noBxO, hn, locO, noBx]
/-! ### the graph, walked -/
def lvT (v : List (Sg × Sd)) : T := .lst (v.map psT)
theorem putA_put {α β : Type} [DecidableEq α] (a : α) (b c : β) : ∀ l : List (α × β), putA (putA l a b) a c = putA l a c
  | [] => by simp [putA]
  | (k, v) :: l => by
    by_cases h : k = a
    · simp [putA, h]
    · simp [putA, h, putA_put a b c l]
theorem sg_get {S : Sto} {d : List (Sg × List (Sg × Sd))} (h : S[0]? = some (.dct (encD sgE lvT d))) (x : Sg) : ixT S (.box 0) x.t = (getA d x).map lvT := by
  have h1 : drf S (.box 0) = .box 0 := by simp [drf, h]
  have h2 : dKey S 0 x.t = some (encD sgE lvT d, sgE.k x) := by
    have : tkey x.t = some (sgE.k x) := sgE.h x
    simp [dKey, h, this]
  have h3 := dGet_A sgE lvT x d
  simp [ixT, h1, h2, h3]
theorem sg_put {S : Sto} {d : List (Sg × List (Sg × Sd))} (h : S[0]? = some (.dct (encD sgE lvT d))) (hl : d.length < 16777216) (x : Sg) (v : List (Sg × Sd)) : wSub S (.box 0) x.t (lvT v) = some (S.set 0 (.dct (encD sgE lvT (putA d x v)))) := by
  have h1 : tkey x.t = some (sgE.k x) := sgE.h x
  have h2 : (encD sgE lvT d).length < line := by
    have : line = 16777216 := rfl
    simp only [encD, List.length_map]; omega
  have h3 : dPut (encD sgE lvT d) x.t (sgE.k x) (lvT v) = encD sgE lvT (putA d x v) := dPut_A sgE lvT x v d
  simp [wSub, h, h1, h2, h3]
def grR (w : Wt) (o : Wo) (B : Int) (kl : Nat) (v5 v8 v9 v10 : Option T) : Rho := [some w.t, some o.t, some (.int B), some (.box kl), some (.box 0), v5, some (.int (w.a - B)), some (.int (w.b + B)), v8, v9, v10]
theorem gr_in (n : Nat) (w : Wt) (o : Wo) (B : Int) (hw : w.Ok) (hs : Small w) (ho : o.Ok) (hB0 : 0 ≤ B) (hB2 : B ≤ 100) (x : Sg) (hx : SgB (w.a - B) (w.b + B) x) (kl : Nat) (hkl : kl ≠ 0) (d : List (Sg × List (Sg × Sd))) (hd : d.length < 16777215) (v8 v9 v10 : Option T) (S : Sto) (h0 : S[0]? = some (.dct (encD sgE lvT (putA d x [])))) :
    ∃ v8' S', forL (frT (evO prg (n + 4)) (.nm 8) (.seq (.sub (.var 4) (.var 5) (.op false .Add (.ix (.var 4) (.var 5)) (.call 27 (.cons (.var 0) (.cons (.var 1) (.cons (.ix (.var 5) (.lit (.int 1))) (.cons (.ix (.var 5) (.lit (.int 2))) (.cons (.var 8) .nil)))))))) .skip)) ((irg (max (w.a - B) (x.d - o.p)) (min (w.b + B) (x.d + o.p) + 1)).map .int) (grR w o B kl (some x.t) v8 v9 v10) S = some (.nx (grR w o B kl (some x.t) v8' v9 v10) S') ∧ S'[0]? = some (.dct (encD sgE lvT (putA d x (linksS w o B x)))) ∧ S'[kl]? = S[kl]? := by
  have a0 := hs.a0; have b1 := hs.b1; have hab := hw.ab
  obtain ⟨ρ', S', ef, v8', rfl, h1, h2⟩ := forL_st (g := frT (evO prg (n + 4)) (.nm 8) (.seq (.sub (.var 4) (.var 5) (.op false .Add (.ix (.var 4) (.var 5)) (.call 27 (.cons (.var 0) (.cons (.var 1) (.cons (.ix (.var 5) (.lit (.int 1))) (.cons (.ix (.var 5) (.lit (.int 2))) (.cons (.var 8) .nil)))))))) .skip)) T.int (fun pre ρ S' => ∃ v8', ρ = grR w o B kl (some x.t) v8' v9 v10 ∧ S'[0]? = some (.dct (encD sgE lvT (putA d x (pre.flatMap (behindS w o x.s x.l))))) ∧ S'[kl]? = S[kl]?)
    (irg (max (w.a - B) (x.d - o.p)) (min (w.b + B) (x.d + o.p) + 1)) [] (grR w o B kl (some x.t) v8 v9 v10) S ⟨_, rfl, h0, rfl⟩
    (fun pre p post ρ S' hl hs => by
      obtain ⟨v8', rfl, h1, h2⟩ := hs
      have hl : irg (max (w.a - B) (x.d - o.p)) (min (w.b + B) (x.d + o.p) + 1) = pre ++ p :: post := hl
      have hp := mem_irg.mp (show p ∈ irg (max (w.a - B) (x.d - o.p)) (min (w.b + B) (x.d + o.p) + 1) by rw [hl]; simp)
      have hlb := congrArg List.length hl
      rw [len_irg] at hlb
      simp only [List.length_append, List.length_cons] at hlb
      have hbh : ∀ S, runO prg (n + 4) i_law_behind [w.t, o.t, tS2 x.s, .int x.l, .int p] S = some (.ok (.lst ((behindS w o x.s x.l p).map psT)) S) := fun S => behind_ok (n + 1) w o hw ho x.s x.l p (by omega) (by omega) S
      have l1 : (pre.flatMap (behindS w o x.s x.l)).length ≤ 8 * pre.length := fm_len fun a _ => behind_len w o ho _ _ _
      have l2 := behind_len w o ho x.s x.l p
      have hle : (pre.flatMap (behindS w o x.s x.l)).length + (behindS w o x.s x.l p).length ≤ 16777216 := by omega
      have hfm : (pre ++ [p]).flatMap (behindS w o x.s x.l) = pre.flatMap (behindS w o x.s x.l) ++ behindS w o x.s x.l p := by simp
      refine ⟨grR w o B kl (some x.t) (some (.int p)) v9 v10, S'.set 0 (.dct (encD sgE lvT (putA d x ((pre ++ [p]).flatMap (behindS w o x.s x.l))))), ?_, _, rfl, ?_, ?_⟩
      · rw [hfm]
        generalize pre.flatMap (behindS w o x.s x.l) = acc at h1 hle
        have hg := sg_get h1 x
        rw [getA_put, if_pos rfl] at hg
        have hpl : (putA d x acc).length < 16777216 := by
          have := len_putA x acc d
          omega
        have hw2 := sg_put h1 hpl x (acc ++ behindS w o x.s x.l p)
        rw [putA_put] at hw2
        have hg : ixT S' (.box 0) x.t = some (.lst (acc.map psT)) := hg
        have hw2 : wSub S' (.box 0) x.t (.lst (acc.map psT ++ (behindS w o x.s x.l p).map psT)) = some (S'.set 0 (.dct (encD sgE lvT (putA d x (acc ++ behindS w o x.s x.l p))))) := by
          have : lvT (acc ++ behindS w o x.s x.l p) = .lst (acc.map psT ++ (behindS w o x.s x.l p).map psT) := by simp [lvT]
          rw [← this]; exact hw2
        obtain ⟨xd, xs, xl⟩ := x
        simp only [Sg.t] at hg hw2
        simp [frT, bindT, grR, Sg.t, hg, hbh, line, bq_addL, hle, hw2]
      · have : 0 < S'.length := by
          rcases Nat.eq_zero_or_pos S'.length with z | z
          · rw [List.eq_nil_of_length_eq_zero z] at h1; simp at h1
          · exact z
        simp [this]
      · rw [List.getElem?_set_ne (by omega)]; exact h2)
  exact ⟨v8', S', ef, h1, h2⟩
theorem sg_notin {S : Sto} {d : List (Sg × List (Sg × Sd))} (h : S[0]? = some (.dct (encD sgE lvT d))) (x : Sg) : cop S .NotIn x.t (.box 0) = some (decide (x ∉ d.map (·.1))) := by
  have h1 : drf S (.box 0) = .box 0 := by simp [drf, h]
  have h2 : dKey S 0 x.t = some (encD sgE lvT d, sgE.k x) := by
    have : tkey x.t = some (sgE.k x) := sgE.h x
    simp [dKey, h, this]
  have h3 := dGet_A sgE lvT x d
  have h4 := getA_mem x d
  simp only [cop, h1, h2, h3]
  cases hg : getA d x with
  | none =>
    rw [hg] at h4
    have : x ∉ d.map (·.1) := fun z => by simpa using h4.mpr z
    simp [this]
  | some v =>
    rw [hg] at h4
    have : x ∈ d.map (·.1) := h4.mp rfl
    simp [this]
theorem fst_lc (E : EV) (ρ : Rho) (S : Sto) (l : List (Sg × Sd)) (h9 : ρ.length = 11) (hl : l.length ≤ line) : lcL (lcT E (.var 10) (.tp (.cn (.nm 10) (.cn (.nm 9) .nl))) (.lit (.bl true)) (wipeR ρ [10, 9])) (l.map psT) [] S = some ((l.map (·.1)).map Sg.t, S) := by
  rw [List.map_map]
  refine lcL_encM psT (fun p => p.1.t) l (fun p _ => ?_) hl
  obtain ⟨a0, a1, a2, a3, a4, a5, a6, a7, a8, a9, a10, rfl⟩ : ∃ a0 a1 a2 a3 a4 a5 a6 a7 a8 a9 a10, ρ = [a0, a1, a2, a3, a4, a5, a6, a7, a8, a9, a10] := by
    match ρ, h9 with
    | [a0, a1, a2, a3, a4, a5, a6, a7, a8, a9, a10], _ => exact ⟨_, _, _, _, _, _, _, _, _, _, _, rfl⟩
  simp [lcT, bindT, wipeR, psT]
/-- one turn of the graph's loop -/
theorem gr_turn (n : Nat) (w : Wt) (o : Wo) (B : Int) (hw : w.Ok) (hs : Small w) (ho : o.Ok) (hB0 : 0 ≤ B) (hB2 : B ≤ 100) (x : Sg) (line0 : List Sg) (hx : SgB (w.a - B) (w.b + B) x) (kl : Nat) (hkl : kl ≠ 0) (d : List (Sg × List (Sg × Sd))) (hd : d.length < 16777215) (hln : line0.length + 56 ≤ 16777216) (v5 v8 v9 v10 : Option T) (S : Sto) (h0 : S[0]? = some (.dct (encD sgE lvT d))) (h1 : S[kl]? = some (.lst ((line0 ++ [x]).map Sg.t))) :
    ∃ kl' v5' v8' S', evS (evO prg (n + 4)) (.seq (.asg (.nm 5) (.pop (.var 3))) (.seq (.iff (.cmp .NotIn (.var 5) (.var 4)) (.seq (.sub (.var 4) (.var 5) (.lst false .nil)) (.seq (.for_ (.nm 8) (.rg2 (.blt false .max (.cons (.var 6) (.cons (.op false .Sub (.ix (.var 5) (.lit (.int 0))) (.ix (.var 1) (.lit (.int 0)))) .nil))) (.op false .Add (.blt false .min (.cons (.var 7) (.cons (.op false .Add (.ix (.var 5) (.lit (.int 0))) (.ix (.var 1) (.lit (.int 0)))) .nil))) (.lit (.int 1)))) (.seq (.sub (.var 4) (.var 5) (.op false .Add (.ix (.var 4) (.var 5)) (.call 27 (.cons (.var 0) (.cons (.var 1) (.cons (.ix (.var 5) (.lit (.int 1))) (.cons (.ix (.var 5) (.lit (.int 2))) (.cons (.var 8) .nil)))))))) .skip)) (.seq (.asg (.nm 3) (.op true .Add (.var 3) (.lc false [10, 9] (.var 10) (.tp (.cn (.nm 10) (.cn (.nm 9) .nl))) (.sq (.ix (.var 4) (.var 5))) (.lit (.bl true))))) .skip))) .skip) .skip)) (grR w o B kl v5 v8 v9 v10) S = some (.nx (grR w o B kl' v5' v8' v9 v10) S') ∧ kl' ≠ 0 ∧
      S'[0]? = some (.dct (encD sgE lvT (if x ∈ d.map (·.1) then d else putA d x (linksS w o B x)))) ∧ S'[kl']? = some (.lst ((if x ∈ d.map (·.1) then line0 else line0 ++ (linksS w o B x).map (·.1)).map Sg.t)) := by
  have hkS : kl < S.length := (List.getElem?_eq_some_iff.mp h1).1
  have hpop : popT S (.box kl) = some (.ok x.t (S.set kl (.lst (line0.map Sg.t)))) := by
    simp [popT, h1]
  have g0 : (S.set kl (.lst (line0.map Sg.t)))[0]? = some (.dct (encD sgE lvT d)) := by
    rw [List.getElem?_set_ne hkl]; exact h0
  have g1 : (S.set kl (.lst (line0.map Sg.t)))[kl]? = some (.lst (line0.map Sg.t)) := by simp [hkS]
  generalize S.set kl (.lst (line0.map Sg.t)) = S2 at hpop g0 g1
  have hni := sg_notin g0 x
  by_cases hm : x ∈ d.map (·.1)
  · refine ⟨kl, some x.t, v8, S2, ?_, hkl, by rw [if_pos hm]; exact g0, by rw [if_pos hm]; exact g1⟩
    have hni : cop S2 .NotIn x.t (.box 0) = some false := by rw [hni]; simp only [hm, not_true_eq_false, decide_false]
    simp [grR, hpop, bindT, hni]
  · have hni : cop S2 .NotIn x.t (.box 0) = some true := by rw [hni]; simp [hm]
    have p1 := sg_put g0 (by omega) x []
    have hl0 : 0 < S2.length := (List.getElem?_eq_some_iff.mp g0).1
    have q0 : (S2.set 0 (.dct (encD sgE lvT (putA d x []))))[0]? = some (.dct (encD sgE lvT (putA d x []))) := by simp [hl0]
    have q1 : (S2.set 0 (.dct (encD sgE lvT (putA d x []))))[kl]? = some (.lst (line0.map Sg.t)) := by
      rw [List.getElem?_set_ne (fun z => hkl z.symm)]; exact g1
    have p1 : wSub S2 (.box 0) x.t (.lst []) = some (S2.set 0 (.dct (encD sgE lvT (putA d x [])))) := p1
    generalize S2.set 0 (.dct (encD sgE lvT (putA d x []))) = S3 at p1 q0 q1
    obtain ⟨v8', S4, ef, r0, r1⟩ := gr_in n w o B hw hs ho hB0 hB2 x hx kl hkl d hd v8 v9 v10 S3 q0
    rw [q1] at r1
    have hg := sg_get r0 x
    rw [getA_put, if_pos rfl] at hg
    have hg : ixT S4 (.box 0) x.t = some (.lst ((linksS w o B x).map psT)) := hg
    have hll := links_len w o B x ho
    have hlc := fst_lc (evO prg (n + 4)) (grR w o B kl (some x.t) v8' v9 v10) S4 (linksS w o B x) rfl (by have : line = 16777216 := rfl; omega)
    have hdr : drf S4 (.box kl) = .lst (line0.map Sg.t) := by simp [drf, r1]
    have h4 : 0 < S4.length := (List.getElem?_eq_some_iff.mp r0).1
    refine ⟨S4.length, some x.t, v8', S4 ++ [.lst ((line0 ++ (linksS w o B x).map (·.1)).map Sg.t)], ?_, by omega, by rw [if_neg hm, List.getElem?_append_left h4]; exact r0, by rw [if_neg hm]; simp⟩
    rw [seq_nx (ρ' := grR w o B kl (some x.t) v8 v9 v10) (S' := S2) (by simp [grR, hpop, bindT])]
    have hsrc : evE (evO prg (n + 4)) (.rg2 (.blt false .max (.cons (.var 6) (.cons (.op false .Sub (.ix (.var 5) (.lit (.int 0))) (.ix (.var 1) (.lit (.int 0)))) .nil))) (.op false .Add (.blt false .min (.cons (.var 7) (.cons (.op false .Add (.ix (.var 5) (.lit (.int 0))) (.ix (.var 1) (.lit (.int 0)))) .nil))) (.lit (.int 1)))) (grR w o B kl (some x.t) v8 v9 v10) S3 = some (.ok (.tup ((irg (max (w.a - B) (x.d - o.p)) (min (w.b + B) (x.d + o.p) + 1)).map .int)) S3) := by
      obtain ⟨q0, q1', _⟩ := id ho
      have a0 := hs.a0; have b1 := hs.b1; have hab := hw.ab
      have x0 := hx.d0; have x1 := hx.d1
      have k1 : okR (max (w.a - B) (x.d - o.p)) = true := by simp [okR]; omega
      have k2 : okR (min (w.b + B) (x.d + o.p) + 1) = true := by simp [okR]; omega
      obtain ⟨xd, xs, xl⟩ := x
      simp only at k1 k2
      simp [grR, k1, k2, rng_irg, Sg.t, Wo.t, mkWd]
    rw [seq_nx (ρ' := grR w o B S4.length (some x.t) v8' v9 v10) (S' := S4 ++ [.lst ((line0 ++ (linksS w o B x).map (·.1)).map Sg.t)]) ?_]
    · rfl
    · rw [iff_eq (k := true) (S1 := S2) (by simp [grR, hni])]
      simp only [if_true]
      rw [seq_nx (ρ' := grR w o B kl (some x.t) v8 v9 v10) (S' := S3) (by simp [grR, p1])]
      rw [seq_nx (for_eq hsrc ef)]
      simp only [grR] at hlc
      have hle : (line0.map Sg.t).length + (((linksS w o B x).map (·.1)).map Sg.t).length ≤ 16777216 := by
        simp only [List.length_map]; omega
      rw [seq_nx (ρ' := grR w o B S4.length (some x.t) v8' v9 v10) (S' := S4 ++ [.lst ((line0 ++ (linksS w o B x).map (·.1)).map Sg.t)]) ?_]
      · rfl
      · rw [List.map_append]
        generalize hL : ((linksS w o B x).map (·.1)).map Sg.t = L at hlc hle
        simp only [List.length_map] at hle
        simp [grR, hg, seqT, hlc, hdr, bindT, line, bq_addL, hle]
end Fw

namespace Fw
open PySem L2 PyProof.Rows
theorem ev_wf10 (n : Nat) : (evO prg n).wf = 100000 := by rw [evO_eq]; rfl
theorem whl_eq10 {n : Nat} {c : IE} {b : IS} {ρ : Rho} {S : Sto} {r : ResS} (h : whlL (fun ρ S => evE (evO prg n) c ρ S) (fun ρ S => evS (evO prg n) b ρ S) 100000 ρ S = r) : evS (evO prg n) (.whl c b) ρ S = r := by
  rw [wS_whl, ev_wf10]; exact h
theorem toDs_sg : ∀ l : List Sg, ∃ ds, toDs (l.map Sg.t) = some ds
  | [] => ⟨_, rfl⟩
  | a :: l => by
    obtain ⟨ds, h⟩ := toDs_sg l
    obtain ⟨d, ⟨s, r⟩, z⟩ := a
    exact ⟨_, by simp [toDs, toD, Sg.t, tS2, stT, h]; rfl⟩
theorem co_sgN {S : Sto} {k : Nat} {l : List Sg} (h : S[k]? = some (.lst (l.map Sg.t))) : cop S .NotEq (.box k) (.lst []) = some (!l.isEmpty) := by
  obtain ⟨ds, hd⟩ := toDs_sg l
  have h1 : drf S (.box k) = .lst (l.map Sg.t) := by simp [drf, h]
  have h2 := eqT_nilL hd
  simp only [cop, h1, drf_lst, h2]
  cases l <;> rfl
theorem begins_len (w : Wt) (o : Wo) (B : Int) (ho : o.Ok) : (beginsS w o B).length ≤ 8 * (w.b + B + 1 - (w.a - B)).toNat := by
  have h := fm_len (l := irg (w.a - B) (w.b + B + 1)) (c := 8) (f := behindS w o (false, 0) 0) fun d _ => behind_len w o ho _ _ _
  rwa [len_irg] at h
/-- the state of the graph's while loop -/
def GI (w : Wt) (o : Wo) (B : Int) (m : Nat) (ρ : Rho) (S : Sto) : Prop := m < 90000 ∧ ∃ kl v5 v8 line found, ρ = grR w o B kl v5 v8 none none ∧ kl ≠ 0 ∧ S[0]? = some (.dct (encD sgE lvT found)) ∧ S[kl]? = some (.lst (line.map Sg.t)) ∧ Gr w o B line found ∧ m = left w B line found
theorem gr_whl (n : Nat) (w : Wt) (o : Wo) (B : Int) (hw : w.Ok) (hs : Small w) (ho : o.Ok) (hB0 : 0 ≤ B) (hB2 : B ≤ 21) (m : Nat) (ρ : Rho) (S : Sto) (hi : GI w o B m ρ S) :
    ∃ ρ' S', whlL (fun ρ S => evE (evO prg (n + 4)) (.cmp .NotEq (.var 3) (.lst false .nil)) ρ S) (fun ρ S => evS (evO prg (n + 4)) (.seq (.asg (.nm 5) (.pop (.var 3))) (.seq (.iff (.cmp .NotIn (.var 5) (.var 4)) (.seq (.sub (.var 4) (.var 5) (.lst false .nil)) (.seq (.for_ (.nm 8) (.rg2 (.blt false .max (.cons (.var 6) (.cons (.op false .Sub (.ix (.var 5) (.lit (.int 0))) (.ix (.var 1) (.lit (.int 0)))) .nil))) (.op false .Add (.blt false .min (.cons (.var 7) (.cons (.op false .Add (.ix (.var 5) (.lit (.int 0))) (.ix (.var 1) (.lit (.int 0)))) .nil))) (.lit (.int 1)))) (.seq (.sub (.var 4) (.var 5) (.op false .Add (.ix (.var 4) (.var 5)) (.call 27 (.cons (.var 0) (.cons (.var 1) (.cons (.ix (.var 5) (.lit (.int 1))) (.cons (.ix (.var 5) (.lit (.int 2))) (.cons (.var 8) .nil)))))))) .skip)) (.seq (.asg (.nm 3) (.op true .Add (.var 3) (.lc false [10, 9] (.var 10) (.tp (.cn (.nm 10) (.cn (.nm 9) .nl))) (.sq (.ix (.var 4) (.var 5))) (.lit (.bl true))))) .skip))) .skip) .skip)) ρ S) 100000 ρ S = some (.nx ρ' S') ∧ ∃ kl v5 v8 found, ρ' = grR w o B kl v5 v8 none none ∧ S'[0]? = some (.dct (encD sgE lvT found)) ∧ Gr w o B [] found := by
  have a0 := hs.a0; have b1 := hs.b1; have hab := hw.ab
  refine whl_inv (GI w o B) (fun ρ' S' => ∃ kl v5 v8 found, ρ' = grR w o B kl v5 v8 none none ∧ S'[0]? = some (.dct (encD sgE lvT found)) ∧ Gr w o B [] found) ?_ 100000 m ρ S hi (by have := hi.1; omega)
  rintro m ρ S ⟨hm, kl, v5, v8, line, found, rfl, hkl, h0, h1, hg, rfl⟩
  have hc : evE (evO prg (n + 4)) (.cmp .NotEq (.var 3) (.lst false .nil)) (grR w o B kl v5 v8 none none) S = some (.ok (.bl (!line.isEmpty)) S) := by
    have := co_sgN h1
    simp [grR, this]
  rcases List.eq_nil_or_concat line with rfl | ⟨line0, x, rfl⟩
  · exact .inl ⟨_, hc, rfl, kl, v5, v8, found, rfl, h0, hg⟩
  · rw [List.concat_eq_append] at *
    have hx := hg.lb x (by simp)
    have hf := hg.few
    have hl : line0.length < 90000 := by
      have : (line0 ++ [x]).length ≤ left w B (line0 ++ [x]) found := by unfold left; omega
      simp only [List.length_append, List.length_cons, List.length_nil] at this
      omega
    obtain ⟨kl', v5', v8', S', e, q1, q2, q3⟩ := gr_turn n w o B hw hs ho hB0 (by omega) x line0 hx kl hkl found (by omega) (by omega) v5 v8 none none S h0 h1
    have ht : (line0 ++ [x]).isEmpty = false := by cases line0 <;> rfl
    refine .inr ⟨_, _, S', if x ∈ found.map (·.1) then left w B line0 found else left w B (line0 ++ (linksS w o B x).map (·.1)) (putA found x (linksS w o B x)), hc, by rw [ht]; rfl, e, ?_, ?_⟩
    · split
      · exact left_skip
      · rename_i hm; exact left_step hw ho hg hm
    · by_cases hmx : x ∈ found.map (·.1)
      · rw [if_pos hmx] at *
        have := left_skip (w := w) (B := B) (line := line0) (x := x) (found := found)
        exact ⟨by omega, kl', v5', v8', line0, found, rfl, q1, q2, q3, hg.skip hmx, rfl⟩
      · rw [if_neg hmx] at *
        have := left_step hw ho hg hmx
        exact ⟨by omega, kl', v5', v8', _, _, rfl, q1, q2, q3, hg.step hw ho, rfl⟩
theorem nb_lv (v : List (Sg × Sd)) : noBx 0 (lvT v) = true := nb_ps v
theorem nb_sg (x : Sg) : noBx 0 x.t = true := by
  obtain ⟨d, ⟨s, r⟩, z⟩ := x
  rfl
theorem graph_ok (n : Nat) (w : Wt) (o : Wo) (B : Int) (hw : w.Ok) (hs : Small w) (ho : o.Ok) (hB : w.d + o.r + 1 ≤ B) (hB2 : B ≤ 21) (S : Sto) : ∃ found, Gr w o B [] found ∧ runO prg (n + 5) i_law_graph [w.t, o.t, .int B] S = some (.ok (.box S.length) (S ++ [.dct (encD sgE lvT found)])) := by
  have a0 := hs.a0; have b1 := hs.b1; have hab := hw.ab
  have hd0 := hw.d0; have hr0 := ho.2.2.1
  have hr := rim_ok (n + 3) w o B hB
  have hb := begins_ok n w o B hw hs ho hB (by omega) [.dct []]
  have hlb := begins_len w o B ho
  have hlc : lcBL (lcT (evO prg (n + 4)) (.var 5) (.tp (.cn (.nm 5) (.cn (.nm 9) .nl))) (.lit (.bl true)) [some w.t, some o.t, some (.int B), none, some (.box 0), none, some (.int (w.a - B)), some (.int (w.b + B)), none, none, none]) 1 100000 0 [] [.dct [], .lst ((beginsS w o B).map psT)] = some (((beginsS w o B).map (·.1)).map Sg.t, [.dct [], .lst ((beginsS w o B).map psT)]) := by
    have := lcBL_enc (g := lcT (evO prg (n + 4)) (.var 5) (.tp (.cn (.nm 5) (.cn (.nm 9) .nl))) (.lit (.bl true)) [some w.t, some o.t, some (.int B), none, some (.box 0), none, some (.int (w.a - B)), some (.int (w.b + B)), none, none, none]) psT (f := fun p => some p.1.t) (S := [.dct [], .lst ((beginsS w o B).map psT)]) (k := 1) (beginsS w o B) rfl (fun p _ => by simp [lcT, bindT, psT]) (beginsS w o B) [] 100000 [] rfl (by omega) (by have : line = 16777216 := rfl; simp only [List.length_nil]; omega)
    rw [List.nil_append, List.filterMap_eq_map'] at this
    rw [List.map_map]
    exact this
  obtain ⟨ρ', S', e, kl, v5, v8, found, rfl, h0, hg⟩ := gr_whl n w o B hw hs ho (by omega) hB2 (left w B ((beginsS w o B).map (·.1)) []) (grR w o B 2 none none none none) [.dct [], .lst ((beginsS w o B).map psT), .lst (((beginsS w o B).map (·.1)).map Sg.t)]
    ⟨by simp only [left, List.length_map, List.length_nil]; omega, 2, none, none, (beginsS w o B).map (·.1), [], rfl, by omega, rfl, rfl, Gr.start hw ho, rfl⟩
  refine ⟨found, hg, ?_⟩
  refine run_dct (fd := fd_law_graph) (k := 0) (S' := S') rfl rfl rfl rfl ?_ h0 (noBxD_enc sgE lvT nb_sg nb_lv found)
  have e0 : init fd_law_graph [w.t, o.t, .int B] = [some w.t, some o.t, some (.int B), none, none, none, none, none, none, none, none] := rfl
  rw [e0]
  simp only [fd_law_graph]
  rw [seq_nx (ρ' := [some w.t, some o.t, some (.int B), none, some (.box 0), none, some (.int (w.a - B)), some (.int (w.b + B)), none, none, none]) (S' := [.dct []]) (by simp [hr, bindT, line])]
  rw [seq_nx (ρ' := grR w o B 2 none none none none) (S' := [.dct [], .lst ((beginsS w o B).map psT), .lst (((beginsS w o B).map (·.1)).map Sg.t)]) ?_]
  · rw [seq_nx (whl_eq10 e), seq_rt (ret_eq (t := .box 0) (S1 := S') (by simp [grR]))]
  · have hb : runO prg (n + 4) i_law_begins [w.t, o.t, .int B] [.dct []] = some (.ok (.box 1) [.dct [], .lst ((beginsS w o B).map psT)]) := hb
    rw [List.map_map] at hlc ⊢
    simp [hb, wipeR, bindT, ev_wf10, hlc, grR]
end Fw

namespace Fw
open PySem L2 PyProof.Rows
/-! ### the law's answer -/
theorem deep_ok (n : Nat) (w : Wt) (p : Int) (S : Sto) : runO prg (n + 1) i_law_deep [w.t, .int p] S = some (.ok (.int (w.dep p)) S) := by
  rw [run_succ prg n i_law_deep _ S fd_law_deep rfl rfl]
  have h := dep_eq w p
  simp [fd_law_deep, init, Wt.t, mkW]
  rw [h]; split <;> omega
def hereT : Option (List Sg) → T
  | none => .non
  | some l => .lst (l.map Sg.t)
def DueH (w : Wt) (o : Wo) (B : Int) (pre : List Sd) : Option (List Sg) → Prop
  | none => pre = []
  | some L => pre ≠ [] ∧ L ≠ [] ∧ L.Nodup ∧ ∀ x, x ∈ L ↔ Lch w o B pre x
def dueR (w : Wt) (o : Wo) (ks : List Sd) (B : Int) (h : Option (List Sg)) (v5 v10 v11 : Option T) : Rho := [some w.t, some o.t, some (.tup (ks.map Sd.t)), some (.int B), some (.box 0), v5, none, none, some (.int w.half), some (hereT h), v10, v11, none]
theorem Lch.bd {w : Wt} {o : Wo} {B : Int} (hw : w.Ok) (ho : o.Ok) {ks : List Sd} {x : Sg} (h : Lch w o B ks x) : SgB (w.a - B) (w.b + B) x := by
  induction h with
  | @one p y h1 h2 h3 => exact behind_bd hw ho (by simp) (by simp) (by simp) h1 h2 h3
  | @more ks x p y h0 h1 h2 h3 h4 h5 ih => exact behind_bd hw ho ih.r0 ih.r1 ih.l0 h1 h2 h5
theorem Lch.ne {w : Wt} {o : Wo} {B : Int} {x : Sg} (h : Lch w o B [] x) : False := by
  generalize hk : ([] : List Sd) = ks at h
  cases h with
  | one _ _ _ => cases hk
  | more _ _ _ _ _ _ => cases ‹List Sd› <;> cases hk
theorem Lch.snoc {w : Wt} {o : Wo} {B : Int} {ks : List Sd} {k : Sd} {x : Sg} : Lch w o B (ks ++ [k]) x ↔ (ks = [] ∧ ∃ y ∈ beginsS w o B, y.2 = k ∧ y.1 = x) ∨ ∃ z, Lch w o B ks z ∧ ∃ y ∈ linksS w o B z, y.2 = k ∧ y.1 = x := by
  constructor
  · intro h
    generalize hq : ks ++ [k] = q at h
    cases h with
    | @one p y h1 h2 h3 =>
      have : ks = [] ∧ k = y.2 := by
        cases ks with
        | nil => simp at hq; exact ⟨rfl, hq⟩
        | cons a l => simp at hq
      obtain ⟨rfl, rfl⟩ := this
      exact .inl ⟨rfl, y, List.mem_flatMap.mpr ⟨p, mem_irg.mpr ⟨h1, by omega⟩, h3⟩, rfl, rfl⟩
    | @more ks' z p y h0 h1 h2 h3 h4 h5 =>
      obtain ⟨rfl, e⟩ := List.append_inj' hq rfl
      simp at e
      subst e
      exact .inr ⟨z, h0, y, List.mem_flatMap.mpr ⟨p, mem_irg.mpr ⟨by omega, by omega⟩, h5⟩, rfl, rfl⟩
  · rintro (⟨rfl, y, hy, rfl, rfl⟩ | ⟨z, hz, y, hy, rfl, rfl⟩)
    · obtain ⟨p, hp, h⟩ := List.mem_flatMap.mp hy
      obtain ⟨h1, h2⟩ := mem_irg.mp hp
      exact .one h1 (by omega) h
    · obtain ⟨p, hp, h⟩ := List.mem_flatMap.mp hy
      obtain ⟨h1, h2⟩ := mem_irg.mp hp
      exact .more hz (by omega) (by omega) (by omega) (by omega) h
theorem Lch.pre {w : Wt} {o : Wo} {B : Int} : ∀ (n : Nat) {ks ks' : List Sd} {x : Sg}, ks'.length = n → ks ≠ [] → Lch w o B (ks ++ ks') x → ∃ y, Lch w o B ks y
  | 0, ks, ks', x, hn, _, h => by
    have : ks' = [] := List.length_eq_zero_iff.mp hn
    subst this; rw [List.append_nil] at h; exact ⟨x, h⟩
  | n + 1, ks, ks', x, hn, hk, h => by
    obtain ⟨q, k, rfl⟩ : ∃ q k, ks' = q ++ [k] := ⟨ks'.dropLast, ks'.getLast (by intro h; subst h; simp at hn), (List.dropLast_concat_getLast _).symm⟩
    rw [← List.append_assoc] at h
    rcases Lch.snoc.mp h with ⟨e, _⟩ | ⟨z, hz, _⟩
    · simp at e; exact absurd e.1 hk
    · exact Lch.pre n (by simp at hn; exact hn) hk hz
/-- those that were said, out of pairs -/
def pairsS (P : List (Sg × Sd)) (k : Sd) : List Sg := once ((P.filter fun y => y.2 = k).map (·.1))
theorem mem_pairs {P : List (Sg × Sd)} {k : Sd} {x : Sg} : x ∈ pairsS P k ↔ ∃ y ∈ P, y.2 = k ∧ y.1 = x := by
  simp only [pairsS, mem_once, List.mem_map, List.mem_filter, decide_eq_true_eq]
  constructor
  · rintro ⟨r, ⟨h1, h2⟩, h3⟩; exact ⟨r, h1, h2, h3⟩
  · rintro ⟨r, h1, h2, h3⟩; exact ⟨r, ⟨h1, h2⟩, h3⟩
theorem fm_pairs (P : List (Sg × Sd)) (k : Sd) : P.filterMap (fun y => if y.2 = k then some (T.tup [y.1.t, .bl true]) else none) = ((P.filter fun y => y.2 = k).map (·.1)).map fun a => T.tup [sgE.t a, .bl true] := by
  induction P with
  | nil => rfl
  | cons r P ih =>
    by_cases h : r.2 = k
    · rw [List.filterMap_cons, if_pos h, List.filter_cons, if_pos (by simp [h]), List.map_cons, List.map_cons, ih]; rfl
    · rw [List.filterMap_cons, if_neg h, List.filter_cons, if_neg (by simp [h]), ih]
theorem co_sgE {S : Sto} (l : List Sg) : cop S .Eq (.lst (l.map Sg.t)) (.lst []) = some l.isEmpty := by
  obtain ⟨ds, hd⟩ := toDs_sg l
  rw [co_eqE hd]; simp
def DueP (w : Wt) (o : Wo) (ks : List Sd) (B : Int) (found : List (Sg × List (Sg × Sd))) (pre : List Sd) (ρ : Rho) (S : Sto) : Prop :=
  ∃ v5 v10 v11 h, ρ = dueR w o ks B h v5 v10 v11 ∧ S[0]? = some (.dct (encD sgE lvT found)) ∧ DueH w o B pre h
theorem due_turn (n : Nat) (w : Wt) (o : Wo) (ks : List Sd) (B : Int) (hw : w.Ok) (hs : Small w) (ho : o.Ok) (hB : w.d + o.r + 1 ≤ B) (hB2 : B ≤ 21) (found : List (Sg × List (Sg × Sd))) (hg : Gr w o B [] found) (pre : List Sd) (k : Sd) (ρ : Rho) (S : Sto) (hp : DueP w o ks B found pre ρ S) :
    (∃ ρ' S', (frT (evO prg (n + 5)) (.nm 5) (.seq (.asg (.nm 10) (.ite (.cmp .Is (.var 9) (.lit .non)) (.call 28 (.cons (.var 0) (.cons (.var 1) (.cons (.var 3) .nil)))) (.lst true .nil))) (.seq (.for_ (.nm 11) (.sq (.or (.var 9) (.lst false .nil))) (.seq (.ext (.var 10) (.ix (.var 4) (.var 11))) .skip)) (.seq (.asg (.nm 9) (.blt false .list (.cons (.dct (.lcB false [11, 12] (.tup (.cons (.var 11) (.cons (.lit (.bl true)) .nil))) (.tp (.cn (.nm 11) (.cn (.nm 12) .nl))) (.var 10) (.cmp .Eq (.var 12) (.var 5)))) .nil))) (.seq (.iff (.cmp .Eq (.var 9) (.lst false .nil)) (.seq (.ret (.lit .non)) .skip) .skip) .skip)))) k.t ρ S = some (.nx ρ' S') ∨ frT (evO prg (n + 5)) (.nm 5) (.seq (.asg (.nm 10) (.ite (.cmp .Is (.var 9) (.lit .non)) (.call 28 (.cons (.var 0) (.cons (.var 1) (.cons (.var 3) .nil)))) (.lst true .nil))) (.seq (.for_ (.nm 11) (.sq (.or (.var 9) (.lst false .nil))) (.seq (.ext (.var 10) (.ix (.var 4) (.var 11))) .skip)) (.seq (.asg (.nm 9) (.blt false .list (.cons (.dct (.lcB false [11, 12] (.tup (.cons (.var 11) (.cons (.lit (.bl true)) .nil))) (.tp (.cn (.nm 11) (.cn (.nm 12) .nl))) (.var 10) (.cmp .Eq (.var 12) (.var 5)))) .nil))) (.seq (.iff (.cmp .Eq (.var 9) (.lst false .nil)) (.seq (.ret (.lit .non)) .skip) .skip) .skip)))) k.t ρ S = some (.ct ρ' S')) ∧ DueP w o ks B found (pre ++ [k]) ρ' S') ∨
    ∃ t S', frT (evO prg (n + 5)) (.nm 5) (.seq (.asg (.nm 10) (.ite (.cmp .Is (.var 9) (.lit .non)) (.call 28 (.cons (.var 0) (.cons (.var 1) (.cons (.var 3) .nil)))) (.lst true .nil))) (.seq (.for_ (.nm 11) (.sq (.or (.var 9) (.lst false .nil))) (.seq (.ext (.var 10) (.ix (.var 4) (.var 11))) .skip)) (.seq (.asg (.nm 9) (.blt false .list (.cons (.dct (.lcB false [11, 12] (.tup (.cons (.var 11) (.cons (.lit (.bl true)) .nil))) (.tp (.cn (.nm 11) (.cn (.nm 12) .nl))) (.var 10) (.cmp .Eq (.var 12) (.var 5)))) .nil))) (.seq (.iff (.cmp .Eq (.var 9) (.lst false .nil)) (.seq (.ret (.lit .non)) .skip) .skip) .skip)))) k.t ρ S = some (.rt t S') ∧ (t = .non ∧ ∀ x, ¬ Lch w o B (pre ++ [k]) x) := by
  obtain ⟨v5, v10, v11, h, rfl, h0, hh⟩ := hp
  have a0 := hs.a0; have b1 := hs.b1; have hab := hw.ab
  have hd0 := hw.d0; have hr0 := ho.2.2.1
  have hS : 0 < S.length := (List.getElem?_eq_some_iff.mp h0).1
  obtain ⟨H, hH⟩ : ∃ H, H = h.getD [] := ⟨_, rfl⟩
  obtain ⟨P0, hP0⟩ : ∃ P0, P0 = if h = none then beginsS w o B else [] := ⟨_, rfl⟩
  have hHl : ∀ x ∈ H, getA found x = some (linksS w o B x) := by
    intro x hx
    cases h with
    | none => rw [hH] at hx; cases hx
    | some L =>
      have hx : x ∈ L := by rw [hH] at hx; exact hx
      exact hg.all ((hh.2.2.2 x).mp hx)
  have hHn : H.length ≤ 18 * (w.b + B + 1 - (w.a - B)).toNat := by
    cases h with
    | none => rw [hH]; simp
    | some L =>
      have e : H = L := hH
      rw [e]
      exact few_sg hh.2.2.1 fun x hx => ((hh.2.2.2 x).mp hx).bd hw ho
  have hP0n : P0.length ≤ 8 * (w.b + B + 1 - (w.a - B)).toNat := by
    rw [hP0]; split
    · exact begins_len w o B ho
    · simp
  -- the first list
  have s1 : evE (evO prg (n + 5)) (.ite (.cmp .Is (.var 9) (.lit .non)) (.call 28 (.cons (.var 0) (.cons (.var 1) (.cons (.var 3) .nil)))) (.lst true .nil)) (dueR w o ks B h (some k.t) v10 v11) S = some (.ok (.box S.length) (S ++ [.lst (P0.map psT)])) := by
    have hb := begins_ok (n + 1) w o B hw hs ho hB (by omega) S
    cases h with
    | none =>
      rw [if_pos rfl] at hP0
      rw [hP0]
      simp [dueR, hereT, cop, hb]
    | some L =>
      rw [if_neg (by simp)] at hP0
      rw [hP0]
      simp [dueR, hereT, cop, line]
  -- the lists behind
  obtain ⟨ρ2, S2, e2, v11', rfl, q0, q1⟩ := forL_st (g := frT (evO prg (n + 5)) (.nm 11) (.seq (.ext (.var 10) (.ix (.var 4) (.var 11))) .skip)) Sg.t (fun p ρ S' => ∃ v11', ρ = dueR w o ks B h (some k.t) (some (.box S.length)) v11' ∧ S'[0]? = some (.dct (encD sgE lvT found)) ∧ S'[S.length]? = some (.lst ((P0 ++ p.flatMap (linksS w o B)).map psT))) H [] (dueR w o ks B h (some k.t) (some (.box S.length)) v11) (S ++ [.lst (P0.map psT)])
    ⟨v11, rfl, by rw [List.getElem?_append_left hS]; exact h0, by simp⟩
    (fun p x post ρ S' hl hs => by
      obtain ⟨v11', rfl, q0, q1⟩ := hs
      have hl : H = p ++ x :: post := hl
      have hx : x ∈ H := by rw [hl]; simp
      have hgx := sg_get q0 x
      rw [hHl x hx] at hgx
      have hgx : ixT S' (.box 0) x.t = some (.lst ((linksS w o B x).map psT)) := hgx
      have l1 : (p.flatMap (linksS w o B)).length ≤ 56 * p.length := fm_len fun a _ => links_len w o B a ho
      have l2 := links_len w o B x ho
      have l3 : p.length ≤ H.length := by rw [hl]; simp
      have hfm : (p ++ [x]).flatMap (linksS w o B) = p.flatMap (linksS w o B) ++ linksS w o B x := by simp
      have hlt : S.length < S'.length := (List.getElem?_eq_some_iff.mp q1).1
      refine ⟨dueR w o ks B h (some k.t) (some (.box S.length)) (some x.t), S'.set S.length (.lst ((P0 ++ (p ++ [x]).flatMap (linksS w o B)).map psT)), ?_, _, rfl, ?_, by simp [hlt]⟩
      · have hle : (P0 ++ p.flatMap (linksS w o B)).length + (linksS w o B x).length ≤ 16777216 := by
          rw [List.length_append]; omega
        rw [hfm, ← List.append_assoc, List.map_append]
        generalize P0 ++ p.flatMap (linksS w o B) = acc at q1 hle
        simp [frT, bindT, dueR, hgx, isLst, wExt, q1, line, hle]
      · rw [List.getElem?_set_ne (by omega)]; exact q0)
  rw [List.nil_append] at q1
  generalize hP : P0 ++ H.flatMap (linksS w o B) = P at q1
  have hPn : P.length ≤ 90000 := by
    have l1 : (H.flatMap (linksS w o B)).length ≤ 56 * H.length := fm_len fun a _ => links_len w o B a ho
    rw [← hP, List.length_append]; omega
  have hmem : ∀ x, x ∈ pairsS P k ↔ Lch w o B (pre ++ [k]) x := by
    intro x
    rw [mem_pairs, Lch.snoc, ← hP]
    cases h with
    | none =>
      have hpre : pre = [] := hh
      have e1 : H = [] := hH
      rw [if_pos rfl] at hP0
      rw [hP0, e1, hpre]
      simp only [List.flatMap_nil, List.append_nil, true_and]
      constructor
      · exact .inl
      · rintro (z | ⟨z, hz, _⟩)
        · exact z
        · exact hz.ne.elim
    | some L =>
      obtain ⟨g1, g2, g3, g4⟩ := hh
      have e1 : H = L := hH
      rw [if_neg (by simp)] at hP0
      rw [hP0, e1, List.nil_append]
      constructor
      · rintro ⟨y, hy, z⟩
        obtain ⟨u, hu, hy⟩ := List.mem_flatMap.mp hy
        exact .inr ⟨u, (g4 u).mp hu, y, hy, z⟩
      · rintro (⟨z, _⟩ | ⟨u, hu, y, hy, z⟩)
        · exact absurd z g1
        · exact ⟨y, List.mem_flatMap.mpr ⟨u, (g4 u).mpr hu, hy⟩, z⟩
  have hlc : lcBL (lcT (evO prg (n + 5)) (.tup (.cons (.var 11) (.cons (.lit (.bl true)) .nil))) (.tp (.cn (.nm 11) (.cn (.nm 12) .nl))) (.cmp .Eq (.var 12) (.var 5)) (wipeR (dueR w o ks B h (some k.t) (some (.box S.length)) v11') [11, 12])) S.length 100000 0 [] S2 = some (((P.filter fun y => y.2 = k).map (·.1)).map (fun a => T.tup [sgE.t a, .bl true]), S2) := by
    have := lcBL_enc (g := lcT (evO prg (n + 5)) (.tup (.cons (.var 11) (.cons (.lit (.bl true)) .nil))) (.tp (.cn (.nm 11) (.cn (.nm 12) .nl))) (.cmp .Eq (.var 12) (.var 5)) (wipeR (dueR w o ks B h (some k.t) (some (.box S.length)) v11') [11, 12])) psT (f := fun y => if y.2 = k then some (T.tup [y.1.t, .bl true]) else none) (S := S2) (k := S.length) P q1 (fun y _ => by
      by_cases hk : y.2 = k
      · simp [lcT, bindT, wipeR, dueR, psT, co_sd, hk, line]
      · simp [lcT, bindT, wipeR, dueR, psT, co_sd, hk, line]) P [] 100000 [] rfl (by omega) (by have : line = 16777216 := rfl; simp only [List.length_nil]; omega)
    rw [List.nil_append, fm_pairs] at this
    exact this
  have hdm := dMk_once sgE ((P.filter fun y => y.2 = k).map (·.1)) []
  have hdm : dMk (((P.filter fun y => y.2 = k).map (·.1)).map fun a => T.tup [sgE.t a, .bl true]) [] = some (encD sgE trueT (onceD ((P.filter fun y => y.2 = k).map (·.1)))) := hdm
  have hky : (encD sgE trueT (onceD ((P.filter fun y => y.2 = k).map (·.1)))).map (·.1) = (pairsS P k).map Sg.t := encD_keys _ _ _
  generalize ((P.filter fun y => y.2 = k).map (·.1)).map (fun a => T.tup [sgE.t a, .bl true]) = src at hlc hdm
  generalize encD sgE trueT (onceD ((P.filter fun y => y.2 = k).map (·.1))) = D at hdm hky
  have s3 : evE (evO prg (n + 5)) (.blt false .list (.cons (.dct (.lcB false [11, 12] (.tup (.cons (.var 11) (.cons (.lit (.bl true)) .nil))) (.tp (.cn (.nm 11) (.cn (.nm 12) .nl))) (.var 10) (.cmp .Eq (.var 12) (.var 5)))) .nil)) (dueR w o ks B h (some k.t) (some (.box S.length)) v11') S2 = some (.ok (.lst ((pairsS P k).map Sg.t)) (S2 ++ [.dct D])) := by
    have hv : (dueR w o ks B h (some k.t) (some (.box S.length)) v11')[10]? = some (some (.box S.length)) := rfl
    simp [hv, ev_wf10, hlc, hdm, bltT, drf, dLen, hky, -List.map_map]
  have s4 := co_sgE (S := S2 ++ [.dct D]) (pairsS P k)
  have q0' : (S2 ++ [.dct D])[0]? = some (.dct (encD sgE lvT found)) := by
    rw [List.getElem?_append_left (List.getElem?_eq_some_iff.mp q0).1]; exact q0
  have hb : bindT (.nm 5) k.t (dueR w o ks B h v5 v10 v11) = some (dueR w o ks B h (some k.t) v10 v11) := rfl
  have s2 : evE (evO prg (n + 5)) (.sq (.or (.var 9) (.lst false .nil))) (dueR w o ks B h (some k.t) (some (.box S.length)) v11) (S ++ [.lst (P0.map psT)]) = some (.ok (.tup (H.map Sg.t)) (S ++ [.lst (P0.map psT)])) := by
    cases h with
    | none =>
      have e1 : H = [] := hH
      simp [dueR, hereT, e1, seqT, line]
    | some L =>
      have e1 : H = L := hH
      obtain ⟨g1, g2, g3, g4⟩ := hh
      cases L with
      | nil => exact absurd rfl g2
      | cons x L =>
        rw [e1]
        simp [dueR, hereT, seqT, line]
  have key : frT (evO prg (n + 5)) (.nm 5) (.seq (.asg (.nm 10) (.ite (.cmp .Is (.var 9) (.lit .non)) (.call 28 (.cons (.var 0) (.cons (.var 1) (.cons (.var 3) .nil)))) (.lst true .nil))) (.seq (.for_ (.nm 11) (.sq (.or (.var 9) (.lst false .nil))) (.seq (.ext (.var 10) (.ix (.var 4) (.var 11))) .skip)) (.seq (.asg (.nm 9) (.blt false .list (.cons (.dct (.lcB false [11, 12] (.tup (.cons (.var 11) (.cons (.lit (.bl true)) .nil))) (.tp (.cn (.nm 11) (.cn (.nm 12) .nl))) (.var 10) (.cmp .Eq (.var 12) (.var 5)))) .nil))) (.seq (.iff (.cmp .Eq (.var 9) (.lst false .nil)) (.seq (.ret (.lit .non)) .skip) .skip) .skip)))) k.t (dueR w o ks B h v5 v10 v11) S = (if pairsS P k = [] then some (.rt .non (S2 ++ [.dct D])) else some (.nx (dueR w o ks B (some (pairsS P k)) (some k.t) (some (.box S.length)) v11') (S2 ++ [.dct D]))) := by
    simp only [frT, hb]
    rw [seq_nx (ρ' := dueR w o ks B h (some k.t) (some (.box S.length)) v11) (asg_eq s1)]
    rw [seq_nx (ρ' := dueR w o ks B h (some k.t) (some (.box S.length)) v11') (S' := S2) (for_eq s2 e2)]
    rw [seq_nx (ρ' := dueR w o ks B (some (pairsS P k)) (some k.t) (some (.box S.length)) v11') (asg_eq s3)]
    by_cases he : pairsS P k = []
    · have s5 : cop (S2 ++ [.dct D]) .Eq (.lst []) (.lst []) = some true := rfl
      rw [if_pos he, he]
      simp [dueR, hereT, s5]
    · have hne : (pairsS P k).isEmpty = false := by cases hc : pairsS P k <;> simp_all
      rw [if_neg he]
      rw [hne] at s4
      simp [dueR, hereT, s4]
  rw [key]
  by_cases he : pairsS P k = []
  · right
    rw [if_pos he]
    refine ⟨_, _, rfl, rfl, fun x hx => ?_⟩
    have := (hmem x).mpr hx
    rw [he] at this; cases this
  · left
    rw [if_neg he]
    exact ⟨_, _, .inl rfl, _, _, _, some (pairsS P k), rfl, q0', by simp, he, once_nd _, hmem⟩
end Fw

namespace Fw
open PySem L2 PyProof.Rows
theorem due_ok (n : Nat) (w : Wt) (o : Wo) (ks : List Sd) (hw : w.Ok) (hs : Small w) (ho : o.Ok) (hB2 : rim2 w o ks.length ≤ 21) (hk : ks.length ≤ 30) (S : Sto) : runO prg (n + 6) i_law_due [w.t, o.t, .tup (ks.map Sd.t)] S = some (.ok (toldT (toldS w o ks)) S) := by
  have hnb : noBxL 0 [w.t, o.t, .tup (ks.map Sd.t)] = true := by
    have := nbL_map (f := Sd.t) ks (fun a _ => by cases a <;> rfl)
    simp [noBxL, noBx, this, Wt.t, mkW, Wo.t, mkWd]
  have h2 : bop .FloorDiv (.int (w.b - w.a)) (.int 2) = some (.int w.half) := by simp [bop, Wt.half]
  have e0 : init fd_law_due [w.t, o.t, .tup (ks.map Sd.t)] = [some w.t, some o.t, some (.tup (ks.map Sd.t)), none, none, none, none, none, none, none, none, none, none] := rfl
  have st1 : ∀ S, evS (evO prg (n + 5)) (.par2 8 9 (.cons (.op false .FloorDiv (.op false .Sub (.ix (.var 0) (.lit (.int 1))) (.ix (.var 0) (.lit (.int 0)))) (.lit (.int 2))) (.cons (.lit .non) .nil))) (init fd_law_due [w.t, o.t, .tup (ks.map Sd.t)]) S = some (.nx [some w.t, some o.t, some (.tup (ks.map Sd.t)), none, none, none, none, none, some (.int w.half), some .non, none, none, none] S) := by
    intro S
    rw [e0]
    simp [Wt.t, mkW, h2]
  by_cases hks : ks = []
  · subst hks
    refine run_to (fd := fd_law_due) (t := .tup [.non, .int w.half]) (S' := []) rfl rfl hnb rfl ?_ rfl rfl
    have hq : cop [] .Eq (.tup []) (.tup []) = some true := rfl
    simp only [fd_law_due] at st1 ⊢
    rw [seq_nx (st1 [])]
    simp [hq, line]
  · obtain ⟨dk, edk⟩ := toDs_sd ks
    have hq : ∀ S, cop S .Eq (.tup (ks.map Sd.t)) (.tup []) = some false := by
      intro S
      rw [co_eqTE edk]
      cases ks with
      | nil => exact absurd rfl hks
      | cons a l => rfl
    obtain ⟨p0, p1, r0, r1, z0, z1⟩ := id ho
    have hpk : 0 ≤ o.p * (ks.length : Int) := Int.mul_nonneg p0 (by omega)
    have hBe : rim2 w o ks.length = w.d + o.r + 2 + o.p * ks.length := rfl
    have hB : w.d + o.r + 1 ≤ rim2 w o ks.length := by omega
    have hd0 := hw.d0
    have hm : bop .Mult (.int o.p) (.int ks.length) = some (.int (o.p * ks.length)) := bo_mulL (by simp [small64]; omega)
    obtain ⟨found, hg, hgr⟩ := graph_ok n w o (rim2 w o ks.length) hw hs ho hB hB2 []
    have st3 : evS (evO prg (n + 5)) (.asg (.nm 3) (.op false .Add (.op false .Add (.op false .Add (.ix (.var 0) (.lit (.int 3))) (.ix (.var 1) (.lit (.int 1)))) (.lit (.int 2))) (.op false .Mult (.ix (.var 1) (.lit (.int 0))) (.blt false .len (.cons (.var 2) .nil))))) [some w.t, some o.t, some (.tup (ks.map Sd.t)), none, none, none, none, none, some (.int w.half), some .non, none, none, none] [] = some (.nx [some w.t, some o.t, some (.tup (ks.map Sd.t)), some (.int (rim2 w o ks.length)), none, none, none, none, some (.int w.half), some .non, none, none, none] []) := by
      simp [Wt.t, mkW, Wo.t, mkWd, hm, bindT, hBe]
    have hT := told_law (w := w) (o := o) (ks := ks) hw ho hks
    have hrim := rim_ok (n + 4) w o (rim2 w o ks.length) hB
    have hab := hw.ab
    generalize rim2 w o ks.length = B at *
    have st4 : evS (evO prg (n + 5)) (.asg (.nm 4) (.call 29 (.cons (.var 0) (.cons (.var 1) (.cons (.var 3) .nil))))) [some w.t, some o.t, some (.tup (ks.map Sd.t)), some (.int B), none, none, none, none, some (.int w.half), some .non, none, none, none] [] = some (.nx (dueR w o ks B none none none none) [.dct (encD sgE lvT found)]) := by
      have hgr : runO prg (n + 5) i_law_graph [w.t, o.t, .int B] [] = some (.ok (.box 0) [.dct (encD sgE lvT found)]) := hgr
      simp [hgr, bindT, dueR, hereT]
    have lp := forL_preR (g := frT (evO prg (n + 5)) (.nm 5) (.seq (.asg (.nm 10) (.ite (.cmp .Is (.var 9) (.lit .non)) (.call 28 (.cons (.var 0) (.cons (.var 1) (.cons (.var 3) .nil)))) (.lst true .nil))) (.seq (.for_ (.nm 11) (.sq (.or (.var 9) (.lst false .nil))) (.seq (.ext (.var 10) (.ix (.var 4) (.var 11))) .skip)) (.seq (.asg (.nm 9) (.blt false .list (.cons (.dct (.lcB false [11, 12] (.tup (.cons (.var 11) (.cons (.lit (.bl true)) .nil))) (.tp (.cn (.nm 11) (.cn (.nm 12) .nl))) (.var 10) (.cmp .Eq (.var 12) (.var 5)))) .nil))) (.seq (.iff (.cmp .Eq (.var 9) (.lst false .nil)) (.seq (.ret (.lit .non)) .skip) .skip) .skip))))) Sd.t (DueP w o ks B found) (fun pre t _ => t = .non ∧ pre ≠ [] ∧ ∀ x, ¬ Lch w o B pre x) ks (fun pre a post hl ρ S hp => by
      rcases due_turn n w o ks B hw hs ho hB hB2 found hg pre a ρ S hp with h | ⟨t, S', e, rfl, h⟩
      · exact .inl h
      · exact .inr ⟨_, S', e, rfl, by simp, h⟩) (ρ := dueR w o ks B none none none none) (S := [.dct (encD sgE lvT found)]) ⟨none, none, none, none, rfl, rfl, rfl⟩
    rcases lp with ⟨ρ', S', e, v5, v10, v11, h, rfl, h0, hh⟩ | ⟨pre, post, t, S', hl, e, rfl, hne, hno⟩
    · cases h with
      | none => exact absurd hh hks
      | some L =>
        obtain ⟨g1, g2, g3, g4⟩ := hh
        rw [hT L g4]
        generalize hds : L.map (fun x => w.dep x.d) = ds
        have hde : ds ≠ [] := by
          rw [← hds]; intro z; exact g2 (List.map_eq_nil_iff.mp z)
        rw [if_neg hde]
        have hLn : L.length ≤ 16777216 := by
          have := few_sg g3 fun x hx => ((g4 x).mp hx).bd hw ho
          have a0 := hs.a0; have b1 := hs.b1
          omega
        have hlc : ∀ S, lcL (lcT (evO prg (n + 5)) (.call 21 (.cons (.var 0) (.cons (.ix (.var 11) (.lit (.int 0))) .nil))) (.nm 11) (.lit (.bl true)) (wipeR (dueR w o ks B (some L) v5 v10 v11) [11])) (L.map Sg.t) [] S = some (ds.map T.int, S) := by
          intro S
          rw [← hds, List.map_map]
          refine lcL_encM Sg.t (fun x => T.int (w.dep x.d)) L (fun x _ => ?_) (by have : line = 16777216 := rfl; omega)
          have hdp := deep_ok (n + 4) w x.d
          simp [lcT, bindT, dueR, wipeR, Sg.t, hdp]
        have m1 := bl_minL S' hde
        have m2 := bl_maxL S' hde
        refine run_to (fd := fd_law_due) (t := toldT (some (if minL ds = -B then none else some (minL ds), maxL ds))) (S' := S') rfl rfl hnb rfl ?_ (thaw_told _ _) (nb_told _)
        simp only [fd_law_due] at st1 ⊢
        rw [seq_nx (st1 [])]
        rw [seq_nx (ρ' := [some w.t, some o.t, some (.tup (ks.map Sd.t)), none, none, none, none, none, some (.int w.half), some .non, none, none, none]) (S' := []) (by simp [hq])]
        rw [seq_nx st3, seq_nx st4]
        rw [seq_nx (for_eq (l := ks.map Sd.t) (S1 := [.dct (encD sgE lvT found)]) (by simp [dueR, seqT]) e)]
        rw [seq_nx (ρ' := (dueR w o ks B (some L) v5 v10 v11).set 6 (some (.lst (ds.map T.int)))) (S' := S') (asg_eq (by
          have hv : (dueR w o ks B (some L) v5 v10 v11)[9]? = some (some (.lst (L.map Sg.t))) := rfl
          simp [hv, seqT, hlc]))]
        have hdm : w.dep (w.a - B) = -B := by rw [dep_eq]; omega
        have hdp := deep_ok (n + 4) w (w.a - B) S'
        rw [hdm] at hdp
        rw [seq_nx (ρ' := ((dueR w o ks B (some L) v5 v10 v11).set 6 (some (.lst (ds.map T.int)))).set 7 (some (.int (-B)))) (S' := S') (asg_eq (by simp [dueR, hrim, hdp]))]
        by_cases q : minL ds = -B
        · simp [dueR, m1, m2, q, line, toldT, optT]
        · simp [dueR, m1, m2, q, line, toldT, optT]
    · have hT1 : ∀ x, x ∈ ([] : List Sg) ↔ Lch w o B ks x := by
        intro x
        constructor
        · intro z; cases z
        · intro z
          rw [hl] at z
          obtain ⟨y, hy⟩ := Lch.pre _ rfl hne z
          exact absurd hy (hno y)
      have hT0 := hT [] hT1
      rw [hT0]
      refine run_to (fd := fd_law_due) (t := .non) (S' := S') rfl rfl hnb rfl ?_ rfl rfl
      simp only [fd_law_due] at st1 ⊢
      rw [seq_nx (st1 [])]
      rw [seq_nx (ρ' := [some w.t, some o.t, some (.tup (ks.map Sd.t)), none, none, none, none, none, some (.int w.half), some .non, none, none, none]) (S' := []) (by simp [hq])]
      rw [seq_nx st3, seq_nx st4]
      rw [seq_rt (for_eq (l := ks.map Sd.t) (S1 := [.dct (encD sgE lvT found)]) (by simp [dueR, seqT]) e)]
end Fw

namespace Fw
open PySem L2 PyProof.Rows
/-! ## worlds, trips drawn; what a watcher says -/
theorem law_world_ok (n k : Nat) (S : Sto) (h : Tn S k) :
    ∃ a b c S', runO prg (n + 3) i_law_world [.box k] S = some (.ok (mkWd a b c) S') ∧ WdOk a b c ∧ a ≤ 2 ∧ b ≤ 2 ∧ Tw k S S' := by
  obtain ⟨a, S1, e1, m1, w1⟩ := any_int n k S [0, 1, 1, 2] h (by simp) (by simp)
  obtain ⟨b, S2, e2, m2, w2⟩ := any_int n k S1 [0, 0, 1, 2] w1.tn (by simp) (by simp)
  obtain ⟨c, S3, e3, m3, w3⟩ := any_int n k S2 [0, 0, 1, 2] w2.tn (by simp) (by simp)
  have wt := (w1.trans w2).trans w3
  simp only [List.mem_cons, List.not_mem_nil, or_false] at m1 m2 m3
  refine ⟨a, b, c, S3, ?_, ⟨by omega, by omega, by omega, by omega, by omega, by omega⟩, by omega, by omega, wt⟩
  simp only [List.map_cons, List.map_nil] at e1 e2 e3
  rw [run_succ prg (n + 2) i_law_world _ S fd_law_world rfl rfl]
  simp [fd_law_world, init, e1, e2, e3, line, mkWd, fin1_le, wt.len]
/-- a trip: its walk and its looks, side by side -/
def tripB : IS := match fd_law_trip.body with
  | .seq _ (.seq _ (.seq (.for_ _ _ b) _)) => b
  | _ => .skip
theorem trip_split : fd_law_trip.body = .seq (.par3 6 7 8 (.cons (.lit (.int 0)) (.cons (.lst true .nil) (.cons (.lst true .nil) .nil)))) (.seq (.asg (.nm 4) (.call i_law_any (.cons (.var 0) (.cons (.lst false (.cons (.ix (.var 1) (.lit (.int 0))) (.cons (.op false .Add (.ix (.var 1) (.lit (.int 1))) (.lit (.int 1))) (.cons (.op false .Sub (.ix (.var 1) (.lit (.int 0))) (.lit (.int 2))) .nil)))) .nil)))) (.seq (.for_ (.nm 5) (.rg1 (.var 3)) tripB) (.seq (.ret (.tup (.cons (.blt false .tuple (.cons (.var 7) .nil)) (.cons (.blt false .tuple (.cons (.var 8) .nil)) .nil)))) .skip))) := rfl
/-- the way of one step: walk, looks, lost -/
inductive TripI (r b l a : Int) : List Int → List (Option Int) → Int → Int → Prop
  | nil : TripI r b l a [] [] a 0
  | lose {ws ls h s} (h' : Int) : TripI r b l a ws ls h s → h - r ≤ h' → h' ≤ h + r → s < l → TripI r b l a (ws ++ [h']) (ls ++ [none]) h' (s + 1)
  | see {ws ls h s} (h' k : Int) : TripI r b l a ws ls h s → h - r ≤ h' → h' ≤ h + r → h' - b ≤ k → k ≤ h' + b → TripI r b l a (ws ++ [h']) (ls ++ [some k]) h' 0
theorem TripI.len {r b l a : Int} {ws : List Int} {ls : List (Option Int)} {h s : Int} (t : TripI r b l a ws ls h s) : ws.length = ls.length := by
  induction t <;> simp_all
theorem ints_no : ∀ l : List Int, noBxL 0 (l.map T.int) = true
  | [] => rfl
  | a :: l => by simp [noBxL, noBx, ints_no l]
theorem looks_no : ∀ l : List (Option Int), noBxL 0 (l.map lookT) = true
  | [] => rfl
  | a :: l => by cases a <;> simp [noBxL, noBx, lookT, looks_no l]
theorem mkWd_at (S : Sto) (a b c : Int) : ixT S (mkWd a b c) (.int 0) = some (.int a) ∧ ixT S (mkWd a b c) (.int 1) = some (.int b) ∧ ixT S (mkWd a b c) (.int 2) = some (.int c) := by
  simp [mkWd]
theorem bo_mul2 (j : Int) : bop .Mult (.int 2) (.int j) = some (.int (2 * j)) := bo_mulL (by decide)
def TripS (k : Nat) (S : Sto) (W : T) (r b l a m : Int) (rest : List T) (ρ : Rho) (S' : Sto) : Prop :=
  ∃ ws ls h s S1 tu lk, ρ = [some (.box k), some W, some (mkWd r b l), some (.int m), some (.int h), tu, some (.int s), some (.box S.length), some (.box (S.length + 1)), lk] ∧
    S' = S1 ++ [.lst (ws.map T.int), .lst (ls.map lookT)] ∧ Tw k S S1 ∧ TripI r b l a ws ls h s ∧ ws.length + rest.length = m.toNat
theorem trip_turn (n k : Nat) (S : Sto) (W : T) (r b l a m : Int) (hwd : WdOk r b l) (hm2 : m < 1000000) (x : T) (rest : List T) (ρ : Rho) (S' : Sto) (h : TripS k S W r b l a m (x :: rest) ρ S') :
    ∃ ρ' S'', frT (evO prg (n + 2)) (.nm 5) tripB x ρ S' = some (.nx ρ' S'') ∧ TripS k S W r b l a m rest ρ' S'' := by
  obtain ⟨ws, ls, h, s, S1, tu, lk, rfl, rfl, w, ti, hlen⟩ := h
  obtain ⟨q1, q2, q3, q4, q5, q6⟩ := hwd
  have hL : S.length = S1.length := w.len.symm
  have hk : k < S1.length := w.len ▸ w.1
  obtain ⟨y, S2, e1, y0, y1, w1⟩ := scoop_ok (n + 1) k (S1 ++ [.lst (ws.map T.int), .lst (ls.map lookT)]) (2 * r + 1) (w.tn.app _) (by omega) (by omega)
  obtain ⟨S3, rfl, w3⟩ := w1.app hk
  have hL3 : S1.length = S3.length := w3.len.symm
  have hk3 : k < S3.length := by omega
  have m0 : ∀ S, _ := mkWd_at (a := r) (b := b) (c := l)
  simp only [List.length_cons] at hlen
  have hh1 : h - r ≤ h + y - r := by omega
  have hh2 : h + y - r ≤ h + r := by omega
  have hln : (ws.map T.int).length < 16777216 := by rw [List.length_map]; omega
  have hln2 : (ls.map lookT).length < 16777216 := by rw [List.length_map, ← ti.len]; omega
  -- the two appends at the end
  have fin : ∀ (S4 : Sto) (lk : Option Int) (s' : Int), Tw k S3 S4 → TripI r b l a (ws ++ [h + y - r]) (ls ++ [lk]) (h + y - r) s' →
      ∃ ρ' S'', evS (evO prg (n + 2)) (.seq (.app (.var 7) (.var 4)) (.seq (.app (.var 8) (.var 9)) .skip)) [some (.box k), some W, some (mkWd r b l), some (.int m), some (.int (h + y - r)), some x, some (.int s'), some (.box S.length), some (.box (S.length + 1)), some (lookT lk)] (S4 ++ [.lst (ws.map T.int), .lst (ls.map lookT)]) = some (.nx ρ' S'') ∧ TripS k S W r b l a m rest ρ' S'' := by
    intro S4 lk s' w4 ti'
    have hL4 : S.length = S4.length := by rw [hL, hL3, w4.len]
    refine ⟨[some (.box k), some W, some (mkWd r b l), some (.int m), some (.int (h + y - r)), some x, some (.int s'), some (.box S.length), some (.box (S.length + 1)), some (lookT lk)], S4 ++ [.lst ((ws ++ [h + y - r]).map T.int), .lst ((ls ++ [lk]).map lookT)], ?_, ws ++ [h + y - r], ls ++ [lk], h + y - r, s', S4, some x, some (lookT lk), rfl, rfl, (w.trans w3).trans w4, ti', by simp; omega⟩
    rw [hL4]
    simp at hln hln2
    simp [isLst, wApp, line, hln, hln2]
  by_cases hs : s < l
  · obtain ⟨z, S5, e5, z0, z1, w5⟩ := scoop_ok (n + 1) k (S3 ++ [.lst (ws.map T.int), .lst (ls.map lookT)]) 3 (w3.tn.app _) (by omega) (by omega)
    obtain ⟨S6, rfl, w6⟩ := w5.app hk3
    have hk6 : k < S6.length := by rw [w6.len]; exact hk3
    by_cases hz : z = 0
    · subst hz
      obtain ⟨ρ', S'', e, i⟩ := fin S6 none (s + 1) w6 (.lose _ ti hh1 hh2 hs)
      refine ⟨ρ', S'', ?_, i⟩
      rw [← e]
      simp [frT, tripB, fd_law_trip, bindT, m0, bo_mul2, e1, hs, e5, lookT]
    · obtain ⟨v, S7, e7, v0, v1, w7⟩ := scoop_ok (n + 1) k (S6 ++ [.lst (ws.map T.int), .lst (ls.map lookT)]) (2 * b + 1) (w6.tn.app _) (by omega) (by omega)
      obtain ⟨S8, rfl, w8⟩ := w7.app hk6
      obtain ⟨ρ', S'', e, i⟩ := fin S8 (some (h + y - r + v - b)) 0 (w6.trans w8) (.see _ _ ti hh1 hh2 (by omega) (by omega))
      refine ⟨ρ', S'', ?_, i⟩
      rw [← e]
      simp [frT, tripB, fd_law_trip, bindT, m0, bo_mul2, e1, hs, e5, lookT, hz, e7]
  · obtain ⟨v, S7, e7, v0, v1, w7⟩ := scoop_ok (n + 1) k (S3 ++ [.lst (ws.map T.int), .lst (ls.map lookT)]) (2 * b + 1) (w3.tn.app _) (by omega) (by omega)
    obtain ⟨S8, rfl, w8⟩ := w7.app hk3
    obtain ⟨ρ', S'', e, i⟩ := fin S8 (some (h + y - r + v - b)) 0 w8 (.see _ _ ti hh1 hh2 (by omega) (by omega))
    refine ⟨ρ', S'', ?_, i⟩
    rw [← e]
    simp [frT, tripB, fd_law_trip, bindT, m0, bo_mul2, e1, hs, lookT, e7]
theorem law_trip_ok (n k : Nat) (S : Sto) (W : T) (lo hi r b l m : Int) (t : List T) (hW : W = .tup (.int lo :: .int hi :: t)) (hwd : WdOk r b l) (h : Tn S k) (hc : Cl S) (hm : 0 ≤ m) (hm2 : m < 1000000) :
    ∃ ws ls S' a x y, (a = lo ∨ a = hi + 1 ∨ a = lo - 2) ∧ runO prg (n + 3) i_law_trip [.box k, W, mkWd r b l, .int m] S = some (.ok (.tup [.tup (ws.map T.int), .tup (ls.map lookT)]) S') ∧ ws.length = m.toNat ∧ TripI r b l a ws ls x y ∧ Tw k S S' := by
  have hk := h.lt
  obtain ⟨a, S1, e1, ma, w1⟩ := any_int n k (S ++ [.lst [], .lst []]) [lo, hi + 1, lo - 2] (h.app _) (by simp) (by simp)
  obtain ⟨S2, rfl, w2⟩ := w1.app hk
  have hL2 : S.length = S2.length := w2.len.symm
  have key := forL_invL (g := frT (evO prg (n + 2)) (.nm 5) tripB) (TripS k S W r b l a m) (l := rngT 0 m.toNat) (fun x rest ρ S' hi => by
    obtain ⟨ρ', S'', e, i⟩ := trip_turn n k S W r b l a m hwd hm2 x rest ρ S' hi
    exact ⟨ρ', S'', .inl e, i⟩)
    (ρ := [some (.box k), some W, some (mkWd r b l), some (.int m), some (.int a), none, some (.int 0), some (.box S.length), some (.box (S.length + 1)), none]) (S := S2 ++ [.lst [], .lst []])
    ⟨[], [], a, 0, S2, _, _, rfl, rfl, w2, .nil, by simp⟩
  obtain ⟨ρ', S', e, ws, ls, h', s, S3, tu, lk, rfl, rfl, w3, ti, hlen⟩ := key
  have hL3 : S.length = S3.length := w3.len.symm
  have ok : okR m = true := by simp [okR]; omega
  simp only [List.map_cons, List.map_nil] at e1
  refine ⟨ws, ls, S3, a, h', s, by simpa using ma, ?_, by simp only [List.length_nil, Nat.add_zero] at hlen; exact hlen, ti, w3⟩
  rw [run_succ prg (n + 2) i_law_trip _ S fd_law_trip rfl rfl, trip_split]
  have t1 : bltT (S3 ++ [.lst (ws.map T.int), .lst (ls.map lookT)]) .tuple [.box S.length] = some (.tup (ws.map T.int)) := bl_tupB (by rw [hL3, List.getElem?_append_right (Nat.le_refl _)]; simp)
  have t2 : bltT (S3 ++ [.lst (ws.map T.int), .lst (ls.map lookT)]) .tuple [.box (S.length + 1)] = some (.tup (ls.map lookT)) := bl_tupB (by rw [hL3, List.getElem?_append_right (by omega)]; simp)
  subst hW
  simp [init, fd_law_trip, line, bindT, e1, ok, e, t1, t2]
  refine fin1_cut hL3.symm ?_ (hc.tw w3)
  simp [noBx, noBxL, ints_no, looks_no]

def ledE (w : Wt) (p : Bool × Int) (l : List (Option Int)) : Bool × Int := l.foldl (fun s k => (w.onw s k).1) p
def ledS (w : Wt) : (Bool × Int) → List (Option Int) → List Sd
  | _, [] => []
  | p, k :: l => (w.onw p k).2 :: ledS w (w.onw p k).1 l
theorem ledE_app (w : Wt) (p : Bool × Int) (l : List (Option Int)) (k : Option Int) : ledE w p (l ++ [k]) = (w.onw (ledE w p l) k).1 := by
  simp [ledE, List.foldl_append]
theorem ledS_app (w : Wt) : ∀ (l : List (Option Int)) (p : Bool × Int) (k : Option Int), ledS w p (l ++ [k]) = ledS w p l ++ [(w.onw (ledE w p l) k).2]
  | [], p, k => rfl
  | a :: l, p, k => by
    have := ledS_app w l (w.onw p a).1 k
    simp only [List.cons_append, ledS, this]
    rfl
theorem ledS_len (w : Wt) : ∀ (l : List (Option Int)) (p : Bool × Int), (ledS w p l).length = l.length
  | [], _ => rfl
  | a :: l, p => by simp [ledS, ledS_len w l]
theorem led_ok (n : Nat) (w : Wt) (h : w.Ok) (p : Bool × Int) (l : List (Option Int)) (hl : l.length ≤ 10000) (S : Sto) : runO prg (n + 3) i_law_led [w.t, tS2 p, .tup (l.map lookT)] S = some (.ok (.tup [.box S.length, tS2 (ledE w p l)]) (S ++ [.lst ((ledS w p l).map Sd.t)])) := by
  rw [run_succ prg (n + 2) i_law_led _ S fd_law_led rfl rfl]
  have key := forL_pre (g := frT (evO prg (n + 2)) (.nm 4) (.seq (.asg (.tp (.cn (.nm 1) (.cn (.nm 5) .nl))) (.call 23 (.cons (.var 0) (.cons (.var 1) (.cons (.var 4) .nil))))) (.seq (.app (.var 3) (.var 5)) .skip))) lookT (fun pre ρ S' => ∃ y4 y5, S' = S ++ [.lst ((ledS w p pre).map Sd.t)] ∧ ρ = [some w.t, some (tS2 (ledE w p pre)), some (.tup (l.map lookT)), some (.box S.length), y4, y5]) l ?_ (ρ := [some w.t, some (tS2 p), some (.tup (l.map lookT)), some (.box S.length), none, none]) (S := S ++ [.lst []]) ⟨none, none, rfl, rfl⟩
  · obtain ⟨ρ', S', e, y4, y5, rfl, rfl⟩ := key
    have fc : fin1 S.length (.tup [.box S.length, tS2 (ledE w p l)]) (S ++ [Ob.lst ((ledS w p l).map Sd.t)]) = .ok (.tup [.box S.length, tS2 (ledE w p l)]) (S ++ [.lst ((ledS w p l).map Sd.t)]) := by
      simp [fin1, ownD, thaw, noBx, noBxL]
    generalize l.map lookT = ll at e ⊢
    simp [fd_law_led, init, bindT, line, e, fc, seqT]
  · rintro pre k post el ρ S' ⟨y4, y5, rfl, rfl⟩
    have hpl : pre.length ≤ 10000 := by
      have := congrArg List.length el
      simp at this; omega
    have s1 := onw_ok n w h (ledE w p pre) k (S ++ [.lst ((ledS w p pre).map Sd.t)])
    refine ⟨[some w.t, some (tS2 (ledE w p (pre ++ [k]))), some (.tup (l.map lookT)), some (.box S.length), some (lookT k), some (w.onw (ledE w p pre) k).2.t], S ++ [.lst ((ledS w p (pre ++ [k])).map Sd.t)], .inl ?_, _, _, rfl, rfl⟩
    rw [ledS_app, ledE_app]
    simp only [frT_nm, List.set_cons_succ, List.set_cons_zero]
    have hlen : (ledS w p pre).length < 16777216 := by rw [ledS_len]; omega
    simp [s1, bindT, isLst, wApp, line, hlen]
end Fw

namespace Fw
open PySem L2 PyProof.Rows
/-! ## what is said on a drawn walk -/
theorem cut_lo {l : List T} {i : Int} (h0 : 0 ≤ i) (h1 : i < l.length) : cutL l none (some i) = l.take i.toNat := by
  have e1 : HT.sIx l.length l.length (some i) = i.toNat := by
    unfold HT.sIx
    simp only
    rw [if_neg (by omega)]; omega
  have e2 : HT.sIx l.length 0 none = 0 := rfl
  rw [cutL, e1, e2]; rfl
theorem cut_hi {l : List T} {i : Int} (h0 : 0 ≤ i) (h1 : i < l.length) : cutL l (some (i + 1)) none = l.drop (i.toNat + 1) := by
  have e1 : HT.sIx l.length 0 (some (i + 1)) = i.toNat + 1 := by
    unfold HT.sIx
    simp only
    rw [if_neg (by omega)]; omega
  have e2 : HT.sIx l.length l.length none = l.length := rfl
  rw [cutL, e1, e2]
  exact List.take_of_length_le (by simp)
theorem co_sdN (S : Sto) (ks : List Sd) : cop S .NotEq (.tup (ks.map Sd.t)) (.tup []) = some (!ks.isEmpty) := by
  obtain ⟨ds, h⟩ := toDs_sd ks
  have := eqT_nilT h
  simp only [cop, drf_tup, this]
  cases ks <;> rfl
theorem nb_sds (ks : List Sd) : noBx 0 (.tup (ks.map Sd.t)) = true := nbL_map ks fun a _ => by cases a <;> rfl
theorem drawn_ok (n k : Nat) (S : Sto) (w : Wt) (o : Wo) (hw : w.Ok) (ho : o.Ok) (h : Tn S k) (hS : Cl S) : ∃ (ks : List Sd) (S' : Sto), runO prg (n + 4) i_law_drawn_words [.box k, w.t, o.t] S = some (.ok (.tup (ks.map Sd.t)) S') ∧ ks.length ≤ 7 ∧ Tw k S S' := by
  have hk := h.lt
  obtain ⟨m, S1, e1, m0, m1, w1⟩ := scoop_ok (n + 2) k S 8 h (by omega) (by omega)
  obtain ⟨ws, ls, S2, a, x, y, _, e2, l2, ti, w2⟩ := law_trip_ok n k S1 w.t w.a w.b o.p o.r o.z m _ rfl ho w1.tn (hS.tw w1) m0 (by omega)
  have e2 : runO prg (n + 3) i_law_trip [.box k, w.t, o.t, .int m] S1 = some (.ok (.tup [.tup (ws.map T.int), .tup (ls.map lookT)]) S2) := e2
  have hls : ls.length ≤ 7 := by rw [← ti.len]; omega
  have e3 := led_ok n w hw (false, 0) ls (by omega) S2
  obtain ⟨ks, hks⟩ : ∃ ks, ks = ledS w (false, 0) ls := ⟨_, rfl⟩
  have hkl : ks.length = ls.length := by rw [hks, ledS_len]
  rw [← hks] at e3
  have e3 : runO prg (n + 3) i_law_led [w.t, .tup [.bl false, .int 0], .tup (ls.map lookT)] S2 = some (.ok (.tup [.box S2.length, tS2 (ledE w (false, 0) ls)]) (S2 ++ [.lst (ks.map Sd.t)])) := e3
  have w12 := w1.trans w2
  have hk2 : k < S2.length := by rw [w12.len]; exact hk
  have b4 : bltT (S2 ++ [.lst (ks.map Sd.t)]) .tuple [.box S2.length] = some (.tup (ks.map Sd.t)) := bl_tupB (by simp)
  have e4 := co_sdN (S2 ++ [.lst (ks.map Sd.t)]) ks
  have s1 : ∀ ρ2 : Option T, evS (evO prg (n + 3)) (.asg (.nm 3) (.ix (.call 25 (.cons (.var 0) (.cons (.var 1) (.cons (.var 2) (.cons (.call 17 (.cons (.var 0) (.cons (.lit (.int 8)) .nil))) .nil))))) (.lit (.int 1)))) [some (.box k), some w.t, some o.t, none, none, none] S = some (.nx [some (.box k), some w.t, some o.t, some (.tup (ls.map lookT)), none, none] S2) := by
    intro _
    simp [e1, e2, bindT]
  have s2 : evS (evO prg (n + 3)) (.asg (.nm 4) (.blt false .tuple (.cons (.ix (.call 24 (.cons (.var 1) (.cons (.tup (.cons (.lit (.bl false)) (.cons (.lit (.int 0)) .nil))) (.cons (.var 3) .nil)))) (.lit (.int 0))) .nil))) [some (.box k), some w.t, some o.t, some (.tup (ls.map lookT)), none, none] S2 = some (.nx [some (.box k), some w.t, some o.t, some (.tup (ls.map lookT)), some (.tup (ks.map Sd.t)), none] (S2 ++ [.lst (ks.map Sd.t)])) := by
    simp [e3, b4, bindT, line]
  have hmain : ∀ (ks' : List Sd) (v5 : Option T) (S5 : Sto), ks'.length ≤ 7 → Tw k S S5 → fin1 S.length (.tup (ks'.map Sd.t)) (S5 ++ [.lst (ks.map Sd.t)]) = .ok (.tup (ks'.map Sd.t)) S5 := by
    intro ks' v5 S5 _ w5
    exact fin1_cut w5.len (nb_sds ks') (hS.tw w5)
  have e0 : init fd_law_drawn_words [.box k, w.t, o.t] = [some (.box k), some w.t, some o.t, none, none, none] := rfl
  by_cases hne : ks = []
  · refine ⟨ks, S2, ?_, by omega, w12⟩
    rw [run_succ prg (n + 3) i_law_drawn_words _ S fd_law_drawn_words rfl rfl, e0]
    have hf := hmain ks none S2 (by omega) w12
    have kp : fd_law_drawn_words.keep = false := rfl
    rw [kp]
    simp only [fd_law_drawn_words]
    rw [seq_nx (s1 none), seq_nx s2]
    subst hne
    simp at e4 hf
    simp [e4, hf]
  · have hem : (!ks.isEmpty) = true := by cases hq : ks <;> simp_all
    rw [hem] at e4
    obtain ⟨r, S3, e5, _, _, w3⟩ := scoop_ok (n + 2) k (S2 ++ [.lst (ks.map Sd.t)]) 4 (w12.tn.app _) (by omega) (by omega)
    obtain ⟨S3, rfl, u3⟩ := w3.app hk2
    have w13 := w12.trans u3
    have hk3 : k < S3.length := by rw [w13.len]; exact hk
    by_cases hr : r = 0
    · subst hr
      obtain ⟨i, S4, e6, i0, i1, w4⟩ := scoop_ok (n + 2) k (S3 ++ [.lst (ks.map Sd.t)]) ks.length (w13.tn.app _) (by cases ks with | nil => exact absurd rfl hne | cons => simp) (by omega)
      obtain ⟨S4, rfl, u4⟩ := w4.app hk3
      have w14 := w13.trans u4
      have hk4 : k < S4.length := by rw [w14.len]; exact hk
      obtain ⟨t, S5, e7, mt, w5⟩ := any_ok (n + 1) k (S4 ++ [.lst (ks.map Sd.t)]) [.non, .str (Str.ofString "come"), .str (Str.ofString "gone")] (w14.tn.app _) (by simp) (by simp)
      obtain ⟨S5, rfl, u5⟩ := w5.app hk4
      have w15 := w14.trans u5
      obtain ⟨s, rfl⟩ : ∃ s : Sd, t = s.t := by
        simp only [List.mem_cons, List.not_mem_nil, or_false] at mt
        rcases mt with rfl | rfl | rfl
        · exact ⟨.no, rfl⟩
        · exact ⟨.come, rfl⟩
        · exact ⟨.gone, rfl⟩
      have c1 := cut_lo (l := ks.map Sd.t) i0 (by simpa using i1)
      have c2 := cut_hi (l := ks.map Sd.t) i0 (by simpa using i1)
      rw [← List.map_take] at c1
      rw [← List.map_drop] at c2
      have hlen : (ks.take i.toNat ++ [s] ++ ks.drop (i.toNat + 1)).length ≤ 7 := by
        simp only [List.length_append, List.length_take, List.length_drop, List.length_cons, List.length_nil]; omega
      have hf := hmain (ks.take i.toNat ++ [s] ++ ks.drop (i.toNat + 1)) none S5 hlen w15
      refine ⟨ks.take i.toNat ++ [s] ++ ks.drop (i.toNat + 1), S5, ?_, hlen, w15⟩
      rw [run_succ prg (n + 3) i_law_drawn_words _ S fd_law_drawn_words rfl rfl, e0]
      have kp : fd_law_drawn_words.keep = false := rfl
      rw [kp]
      simp only [fd_law_drawn_words]
      rw [seq_nx (s1 none), seq_nx s2]
      simp only [List.length_append, List.length_cons, List.length_nil] at hlen
      have h1 : (ks.take i.toNat).length + 1 ≤ 16777216 := by omega
      have h2 : (ks.take i.toNat).length + 1 + (ks.drop (i.toNat + 1)).length ≤ 16777216 := by omega
      simp only [List.map_append, List.map_cons, List.map_nil] at hf ⊢
      generalize ks.take i.toNat = k1 at *
      generalize ks.drop (i.toNat + 1) = k2 at *
      simp only [List.append_assoc, List.cons_append, List.nil_append] at hf ⊢
      simp [e4, e5, e6, e7, c1, c2, bindT, line, bq_addT, h1, h2, hf]
    · refine ⟨ks, S3, ?_, by omega, w13⟩
      rw [run_succ prg (n + 3) i_law_drawn_words _ S fd_law_drawn_words rfl rfl, e0]
      have hf := hmain ks none S3 (by omega) w13
      have kp : fd_law_drawn_words.keep = false := rfl
      rw [kp]
      simp only [fd_law_drawn_words]
      rw [seq_nx (s1 none), seq_nx s2]
      simp [e4, e5, hr, hf]
end Fw

namespace Fw
open PySem L2 PyProof.Rows
/-! ## the law -/
theorem Wt.ok_of {a b c d e f : Int} {g : Str} (h : WOk 6 a b c d e f g) : Wt.Ok ⟨a, b, c, d, e, f, g⟩ := by
  obtain ⟨h1, h2, h3, h4, h5, h6, h7, h8, h9, h10, h11, h12, h13⟩ := h
  exact ⟨h3, h5, h6, h7, h8, h9, h10, h11, h12, by simp only; omega, by simp only; omega, h13⟩
theorem Wt.small_of {a b c d e f : Int} {g : Str} (h : WOk 6 a b c d e f g) : Small ⟨a, b, c, d, e, f, g⟩ := by
  obtain ⟨h1, h2, h3, h4, h5, h6, h7, h8, h9, h10, h11, h12, h13⟩ := h
  exact ⟨h1, by simp only; omega⟩
def oddV : List T := [.non, .lst [.str (Str.ofString "come")], .tup [.str (Str.ofString "Come")], .tup (List.replicate 31 .non), .tup [.int 1], .str (Str.ofString "come"), .tup [.tup [.str (Str.ofString "come")]]]
theorem ex_all {l : List T} {f g : T → Res} (h : l.map f = l.map g) : ∀ x ∈ l, f x = g x := fun x hx => List.map_inj_left.mp h x hx
theorem are_odd (n : Nat) (S : Sto) : ∀ t ∈ oddV, runO prg (n + 6) i_are_words [t] S = some (.ok (.bl false) S) := by
  rw [runO_eq, ← runR_eq]
  exact ex_all (f := fun t => runR prg (n + 6) i_are_words [t] S) (g := fun _ => some (.ok (.bl false) S)) (by kernel_rfl)
theorem odd_no : ∀ t ∈ oddV, noBx 0 t = true := by decide
theorem told_ex (n : Nat) (w : Wt) (o : Wo) (hw : w.Ok) (ho : o.Ok) (S : Sto) (t : T) (ht : t ∈ oddV) : runO prg (n + 7) i_depths_told [w.t, o.t, t] S = some (.ex 3 none S) := by
  have n1 := need_ok (n + 3) w hw []
  have n2 := need_wd (n + 3) o ho []
  have n3 := are_odd n [] t ht
  have hnb : noBxL 0 [w.t, o.t, t] = true := by
    have := odd_no t ht
    simp [noBxL, noBx, this, Wt.t, mkW, Wo.t, mkWd]
  refine run_ex (fd := fd_depths_told) (ρ := [some w.t, some o.t, some t, none, none, none, none]) (S' := []) rfl rfl hnb rfl ?_
  simp [fd_depths_told, init, n1, n2, n3]
theorem prg_lam : prg.lam = lams := id rfl
theorem strN (S : Sto) (a : Str) : cop S .NotEq (.str a) (.str a) = some false := by rw [co_strN]; simp
theorem for_odd {E : EV} {b : IS} {l : List T} {S : Sto} (i : Nat) (ρ : Rho) (hi : i < ρ.length) (h : ∀ t ∈ l, ∀ u : Option T, evS E b (ρ.set i (some t)) S = some (.nx (ρ.set i (some t)) S)) : ∃ u, forL (frT E (.nm i) b) l ρ S = some (.nx (ρ.set i u) S) := by
  have key : ∀ (l : List T) (u : Option T), (∀ t ∈ l, ∀ _ : Option T, evS E b (ρ.set i (some t)) S = some (.nx (ρ.set i (some t)) S)) → ∃ u', forL (frT E (.nm i) b) l (ρ.set i u) S = some (.nx (ρ.set i u') S) := by
    intro l
    induction l with
    | nil => intro u _; exact ⟨u, rfl⟩
    | cons t l ih =>
      intro u hh
      obtain ⟨u', e⟩ := ih (some t) fun t' ht' => hh t' (List.mem_cons_of_mem _ ht')
      refine ⟨u', ?_⟩
      have h1 : frT E (.nm i) b t (ρ.set i u) S = some (.nx (ρ.set i (some t)) S) := by
        rw [frT_nm, List.set_set]
        exact hh t List.mem_cons_self none
      rw [forL_nx h1, e]
  obtain ⟨u, e⟩ := key l ρ[i] fun t ht _ => h t ht none
  refine ⟨u, ?_⟩
  rw [← e]
  simp
theorem mul31 : bop .Mult (.tup [.non]) (.int 31) = some (.tup (List.replicate 31 .non)) := rfl
theorem eqv_told (x : Option (Option Int × Int)) (S : Sto) : cop S .NotEq (toldT x) (toldT x) = some false := by
  rcases x with _ | ⟨_ | a, b⟩ <;>
    simp [toldT, optT, cop, eqT, toD, toDs, shal, PyData.depth, PyData.depthAll, PyData.eqv, PyData.eqvAll]
theorem odd_ok (n : Nat) (v0 v1 v2 v3 v4 v5 v6 v7 v8 v11 : Option T) (w : Wt) (o : Wo) (hw : w.Ok) (ho : o.Ok) (S : Sto) : ∃ u, evS (evO prg (n + 12)) (.for_ (.nm 5) (.sq (.lst false (.cons (.lit .non) (.cons (.lst false (.cons (.lit (.str (Str.ofString "come"))) .nil)) (.cons (.tup (.cons (.lit (.str (Str.ofString "Come"))) .nil)) (.cons (.op false .Mult (.tup (.cons (.lit .non) .nil)) (.lit (.int 31))) (.cons (.tup (.cons (.lit (.int 1)) .nil)) (.cons (.lit (.str (Str.ofString "come"))) (.cons (.tup (.cons (.tup (.cons (.lit (.str (Str.ofString "come"))) .nil)) .nil)) .nil))))))))) (.seq (.iff (.cmp .NotEq (.lam 0 (.callL 15 (.cons (.var 9) (.cons (.var 10) (.cons (.var 5) .nil))))) (.lit (.str (Str.ofString "said")))) (.seq (.ret (.lit (.bl false))) .skip) .skip) .skip)) [v0, v1, v2, v3, v4, v5, v6, v7, v8, some w.t, some o.t, v11] S = some (.nx [v0, v1, v2, v3, v4, u, v6, v7, v8, some w.t, some o.t, v11] S) := by
  obtain ⟨u, h⟩ := for_odd (E := evO prg (n + 12)) (b := (.seq (.iff (.cmp .NotEq (.lam 0 (.callL 15 (.cons (.var 9) (.cons (.var 10) (.cons (.var 5) .nil))))) (.lit (.str (Str.ofString "said")))) (.seq (.ret (.lit (.bl false))) .skip) .skip) .skip)) (l := oddV) (S := S) 5 [v0, v1, v2, v3, v4, v5, v6, v7, v8, some w.t, some o.t, v11] (by simp) (fun t ht u => by
    have g1 := told_ex (n + 3) w o hw ho S t ht
    simp [prg_lam, lams, g1, pick, strN])
  refine ⟨u, for_eq (l := oddV) (S1 := S) ?_ h⟩
  simp [line, mul31, oddV, seqT]
/-- one asking -/
theorem ask_ok (n : Nat) (v0 v1 v2 v5 v6 v7 v8 : Option T) (kt : Nat) (w : Wt) (o : Wo) (hw : w.Ok) (hs : Small w) (ho : o.Ok) (o1 : o.p ≤ 2) (o2 : o.r ≤ 2) (x : T) (v4 v11 : Option T) (S : Sto) (hT : Tn S kt) (hS : Cl S) : ∃ v11' S', frT (evO prg (n + 12)) (.nm 4) (.seq (.asg (.nm 11) (.call 31 (.cons (.var 3) (.cons (.var 9) (.cons (.var 10) .nil))))) (.seq (.iff (.cmp .NotEq (.call 15 (.cons (.var 9) (.cons (.var 10) (.cons (.var 11) .nil)))) (.call 30 (.cons (.var 9) (.cons (.var 10) (.cons (.var 11) .nil))))) (.seq (.ret (.lit (.bl false))) .skip) .skip) .skip)) x [v0, v1, v2, some (.box kt), v4, v5, v6, v7, v8, some w.t, some o.t, v11] S = some (.nx [v0, v1, v2, some (.box kt), some x, v5, v6, v7, v8, some w.t, some o.t, v11'] S') ∧ Tn S' kt ∧ Cl S' := by
  obtain ⟨ks, S', e, hk, t⟩ := drawn_ok (n + 8) kt S w o hw ho hT hS
  have hpk : o.p * (ks.length : Int) ≤ 2 * 7 := Int.mul_le_mul o1 (by omega) (by omega) (by omega)
  have hd3 := hw.d3
  have e1 := told_ok (n + 5) w o ks hw ho (by omega) S'
  have e2 := due_ok (n + 6) w o ks hw hs ho (by simp only [rim2]; omega) (by omega) S'
  have e3 := eqv_told (toldS w o ks) S'
  refine ⟨some (.tup (ks.map Sd.t)), S', ?_, t.tn, hS.tw t⟩
  rw [frT_nm]
  generalize toldT (toldS w o ks) = r at e1 e2 e3
  simp [e, e1, e2, e3, bindT]
def OutI (ns : List Int) (ρ : Rho) (S : Sto) : Prop := Cl S ∧ ∃ v1 v2 v3 v4 v5 v6 v7 v8 v9 v10 v11, ρ = [some (.scr ns), v1, v2, v3, v4, v5, v6, v7, v8, v9, v10, v11]
theorem out_turn (n : Nat) (ns : List Int) (k : Nat) (ρ : Rho) (S : Sto) (h : OutI ns ρ S) : ∃ ρ' S', frT (evO prg (n + 12)) (.nm 1) (.seq (.asg (.nm 3) (.call 16 (.cons (.var 0) (.cons (.var 1) .nil)))) (.seq (.asg (.tp (.cn (.nm 9) (.cn (.nm 10) .nl))) (.tup (.cons (.call 19 (.cons (.var 3) (.cons (.lit (.int 6)) .nil))) (.cons (.call 20 (.cons (.var 3) .nil)) .nil)))) (.seq (.for_ (.nm 4) (.rg1 (.lit (.int 2))) (.seq (.asg (.nm 11) (.call 31 (.cons (.var 3) (.cons (.var 9) (.cons (.var 10) .nil))))) (.seq (.iff (.cmp .NotEq (.call 15 (.cons (.var 9) (.cons (.var 10) (.cons (.var 11) .nil)))) (.call 30 (.cons (.var 9) (.cons (.var 10) (.cons (.var 11) .nil))))) (.seq (.ret (.lit (.bl false))) .skip) .skip) .skip))) (.seq (.for_ (.nm 5) (.sq (.lst false (.cons (.lit .non) (.cons (.lst false (.cons (.lit (.str (Str.ofString "come"))) .nil)) (.cons (.tup (.cons (.lit (.str (Str.ofString "Come"))) .nil)) (.cons (.op false .Mult (.tup (.cons (.lit .non) .nil)) (.lit (.int 31))) (.cons (.tup (.cons (.lit (.int 1)) .nil)) (.cons (.lit (.str (Str.ofString "come"))) (.cons (.tup (.cons (.tup (.cons (.lit (.str (Str.ofString "come"))) .nil)) .nil)) .nil))))))))) (.seq (.iff (.cmp .NotEq (.lam 0 (.callL 15 (.cons (.var 9) (.cons (.var 10) (.cons (.var 5) .nil))))) (.lit (.str (Str.ofString "said")))) (.seq (.ret (.lit (.bl false))) .skip) .skip) .skip)) .skip)))) (.int k) ρ S = some (.nx ρ' S') ∧ OutI ns ρ' S' := by
  obtain ⟨hS, v1, v2, v3, v4, v5, v6, v7, v8, v9, v10, v11, rfl⟩ := h
  obtain ⟨ob, e1, a, b, rfl, ha, hb, hb2⟩ := tun_ok (n + 11) k S ns
  have hC : Cl (S ++ [.lst [.int a, .int b]]) := hS.app rfl
  have hT : Tn (S ++ [.lst [.int a, .int b]]) S.length := ⟨a, b, by simp, ha, hb, hb2⟩
  obtain ⟨wa, wb, wc, wd, we, wf, wg, S1, e2, hW, t1⟩ := law_watcher_ok (n + 9) S.length _ 6 hT (by omega) (by omega)
  obtain ⟨p, r, z, S2, e3, hO, o1, o2, t2⟩ := law_world_ok (n + 9) S.length S1 t1.tn
  have t12 := t1.trans t2
  have hw := Wt.ok_of hW
  have hs := Wt.small_of hW
  obtain ⟨w, ew⟩ : ∃ w : Wt, w = ⟨wa, wb, wc, wd, we, wf, wg⟩ := ⟨_, rfl⟩
  obtain ⟨o, eo⟩ : ∃ o : Wo, o = ⟨p, r, z⟩ := ⟨_, rfl⟩
  have e2 : runO prg (n + 12) i_law_watcher [.box S.length, .int 6] (S ++ [.lst [.int a, .int b]]) = some (.ok w.t S1) := by rw [ew]; exact e2
  have e3 : runO prg (n + 12) i_law_world [.box S.length] S1 = some (.ok o.t S2) := by rw [eo]; exact e3
  have ho : o.Ok := by rw [eo]; exact hO
  have o1 : o.p ≤ 2 := by rw [eo]; exact o1
  have o2 : o.r ≤ 2 := by rw [eo]; exact o2
  rw [← ew] at hw hs
  obtain ⟨ρ', S', ef, i⟩ := forL_inv (g := frT (evO prg (n + 12)) (.nm 4) (.seq (.asg (.nm 11) (.call 31 (.cons (.var 3) (.cons (.var 9) (.cons (.var 10) .nil))))) (.seq (.iff (.cmp .NotEq (.call 15 (.cons (.var 9) (.cons (.var 10) (.cons (.var 11) .nil)))) (.call 30 (.cons (.var 9) (.cons (.var 10) (.cons (.var 11) .nil))))) (.seq (.ret (.lit (.bl false))) .skip) .skip) .skip))) (fun ρ0 S0 => Tn S0 S.length ∧ Cl S0 ∧ ∃ y4 y11, ρ0 = [some (.scr ns), some (.int k), v2, some (.box S.length), y4, v5, v6, v7, v8, some w.t, some o.t, y11]) (l := rngT 0 2)
    (fun y hy ρ0 S0 ⟨i1, i2, y4, y11, i3⟩ => by
      subst i3
      obtain ⟨z11, S', e, q1, q2⟩ := ask_ok n (some (.scr ns)) (some (.int k)) v2 v5 v6 v7 v8 S.length w o hw hs ho o1 o2 y y4 y11 S0 i1 i2
      exact ⟨_, S', .inl e, q1, q2, _, _, rfl⟩) (ρ := [some (.scr ns), some (.int k), v2, some (.box S.length), v4, v5, v6, v7, v8, some w.t, some o.t, v11]) (S := S2) ⟨t12.tn, hC.tw t12, v4, v11, rfl⟩
  obtain ⟨i1, i2, y4, y11, rfl⟩ := i
  obtain ⟨u, eo2⟩ := odd_ok n (some (.scr ns)) (some (.int k)) v2 (some (.box S.length)) y4 v5 v6 v7 v8 y11 w o hw ho S'
  refine ⟨_, S', ?_, i2, some (.int k), v2, some (.box S.length), y4, u, v6, v7, v8, some w.t, some o.t, y11, rfl⟩
  rw [frT_nm]
  simp only [List.set_cons_succ, List.set_cons_zero]
  have ea : evS (evO prg (n + 12)) (.asg (.nm 3) (.call i_law_tun (.cons (.var 0) (.cons (.var 1) .nil)))) [some (.scr ns), some (.int k), v2, v3, v4, v5, v6, v7, v8, v9, v10, v11] S = some (.nx [some (.scr ns), some (.int k), v2, some (.box S.length), v4, v5, v6, v7, v8, v9, v10, v11] (S ++ [.lst [.int a, .int b]])) := by
    simp [e1, bindT]
  rw [seq_nx ea]
  rw [seq_nx (ρ' := [some (.scr ns), some (.int k), v2, some (.box S.length), v4, v5, v6, v7, v8, some w.t, some o.t, v11]) (S' := S2) (by simp [e2, e3, bindT, line])]
  have r2 : evE (evO prg (n + 12)) (.rg1 (.lit (.int 2))) [some (.scr ns), some (.int k), v2, some (.box S.length), v4, v5, v6, v7, v8, some w.t, some o.t, v11] S2 = some (.ok (.tup (rngT 0 2)) S2) := rg1_eq (k := 2) (by simp) (by omega)
  rw [seq_nx (for_eq r2 ef)]
  exact seq_one eo2
/-! ### the written ones -/
section
variable (n : Nat) (S : Sto)
def plT : T := mkW 0 20 0 0 1 1 (Str.ofString "keep")
def slT2 : T := mkW 0 20 2 1 2 2 (Str.ofString "keep")
def onT : T := mkWd 1 0 0
def cmT : T := .str (Str.ofString "come")
def goT : T := .str (Str.ofString "gone")
theorem c1 : runO prg (n + 12) i_depths_told [plT, onT, .tup [cmT]] S = some (.ok (.tup [.int 0, .int 10]) S) := by rw [runO_eq, ← runR_eq]; kernel_rfl
theorem c2 : runO prg (n + 12) i_depths_told [plT, mkWd 2 1 1, .tup [cmT]] S = some (.ok (.tup [.int (-1), .int 10]) S) := by rw [runO_eq, ← runR_eq]; kernel_rfl
theorem c3 : runO prg (n + 12) i_depths_told [plT, onT, .tup [cmT, goT]] S = some (.ok (.tup [.int (-1), .int (-1)]) S) := by rw [runO_eq, ← runR_eq]; kernel_rfl
theorem c4 : runO prg (n + 12) i_depths_told [plT, onT, .tup [goT]] S = some (.ok .non S) := by rw [runO_eq, ← runR_eq]; kernel_rfl
theorem c5 : runO prg (n + 12) i_depths_told [slT2, onT, .tup []] S = some (.ok (.tup [.non, .int 10]) S) := by rw [runO_eq, ← runR_eq]; kernel_rfl
theorem c6 : runO prg (n + 12) i_depths_told [slT2, onT, .tup [.non, cmT]] S = some (.ok (.tup [.int 2, .int 10]) S) := by rw [runO_eq, ← runR_eq]; kernel_rfl
theorem c7 : runO prg (n + 12) i_depths_told [plT, onT, .tup [cmT, .non]] S = some (.ok (.tup [.int 0, .int 10]) S) := by rw [runO_eq, ← runR_eq]; kernel_rfl
theorem c8 : runO prg (n + 12) i_depths_told [plT, onT, .tup [cmT, goT, cmT]] S = some (.ok (.tup [.int 0, .int 0]) S) := by rw [runO_eq, ← runR_eq]; kernel_rfl
theorem c9 : runO prg (n + 12) i_depths_told [plT, onT, .tup [.non]] S = some (.ok (.tup [.non, .int (-1)]) S) := by rw [runO_eq, ← runR_eq]; kernel_rfl
theorem c10 : runO prg (n + 12) i_depths_told [plT, mkWd 2 0 0, .tup [cmT, goT]] S = some (.ok (.tup [.int (-2), .int (-1)]) S) := by rw [runO_eq, ← runR_eq]; kernel_rfl
theorem c11 : runO prg (n + 12) i_depths_told [mkW 0 1000000000000000000000000000000 1 1 1 1 (Str.ofString "keep"), onT, .tup [cmT]] S = some (.ok (.tup [.int 1, .int 500000000000000000000000000000]) S) := by rw [runO_eq, ← runR_eq]; kernel_rfl
end
end Fw

namespace Fw
open PySem L2 PyProof.Rows
def sq1 : IS → IS
  | .seq a _ => a
  | s => s
def sq2 : IS → IS
  | .seq _ b => b
  | s => s
def eL : IS := sq2 fd_law.body
def e2L : IS := sq2 (sq2 (sq2 eL))
theorem eL_eq : eL = .seq (sq1 eL) (.seq (sq1 (sq2 eL)) (.seq (sq1 (sq2 (sq2 eL))) (.seq (sq1 e2L) (.seq (sq1 (sq2 e2L)) (.seq (sq1 (sq2 (sq2 e2L))) (.seq (sq1 (sq2 (sq2 (sq2 e2L)))) (.seq (sq1 (sq2 (sq2 (sq2 (sq2 e2L))))) .skip))))))) := rfl
theorem ne4 (S : Sto) : cop S .NotEq (.lst [.tup [.int 0, .int 10], .tup [.int (-1), .int 10], .tup [.int (-1), .int (-1)], .non]) (.lst [.tup [.int 0, .int 10], .tup [.int (-1), .int 10], .tup [.int (-1), .int (-1)], .non]) = some false := rfl
theorem neP (S : Sto) (a b : T) (h : eqT (.tup [a, b]) (.tup [a, b]) = some true) : cop S .NotEq (.tup [a, b]) (.tup [a, b]) = some false := by simp [cop, h]
theorem eqP (S : Sto) (a b : T) (h : eqT (.tup [a, b]) (.tup [a, b]) = some true) : cop S .Eq (.tup [a, b]) (.tup [a, b]) = some true := by simp [cop, h]
theorem pw30 : bop .Pow (.int 10) (.int 30) = some (.int 1000000000000000000000000000000) := by simp [bop]
theorem pw29 : bop .Pow (.int 10) (.int 29) = some (.int 100000000000000000000000000000) := by simp [bop]
theorem ml29 : bop .Mult (.int 5) (.int 100000000000000000000000000000) = some (.int 500000000000000000000000000000) := by simp [bop, small64]
theorem end_ok (n : Nat) (v0 v1 v2 v3 v4 v5 v6 v7 v8 v9 v10 v11 : Option T) (S : Sto) : evS (evO prg (n + 12)) eL [v0, v1, v2, v3, v4, v5, v6, v7, v8, v9, v10, v11] S = some (.rt (.bl true) S) := by
  have d1 := c1 n S; have d2 := c2 n S; have d3 := c3 n S; have d4 := c4 n S; have d5 := c5 n S; have d6 := c6 n S
  have d7 := c7 n S; have d8 := c8 n S; have d9 := c9 n S; have d10 := c10 n S; have d11 := c11 n S
  simp only [plT, slT2, onT, mkW, mkWd, cmT, goT] at d1 d2 d3 d4 d5 d6 d7 d8 d9 d10 d11
  have x1 := neP S .non (.int 10) rfl
  have x2 := neP S (.int 2) (.int 10) rfl
  have x3 := neP S (.int 0) (.int 10) rfl
  have x4 := neP S (.int 0) (.int 0) rfl
  have x5 := neP S .non (.int (-1)) rfl
  have x6 := neP S (.int (-2)) (.int (-1)) rfl
  have x7 := eqP S (.int 1) (.int 500000000000000000000000000000) rfl
  have q1 : evS (evO prg (n + 12)) (sq1 eL) [v0, v1, v2, v3, v4, v5, v6, v7, v8, v9, v10, v11] S = some (.nx [v0, v1, v2, v3, v4, v5, some plT, some slT2, some onT, v9, v10, v11] S) := by
    simp [eL, sq1, sq2, fd_law, bindT, line, plT, slT2, onT, mkW, mkWd]
  have q2 : evS (evO prg (n + 12)) (sq1 (sq2 eL)) [v0, v1, v2, v3, v4, v5, some plT, some slT2, some onT, v9, v10, v11] S = some (.nx [v0, v1, some (.lst [.tup [.int 0, .int 10], .tup [.int (-1), .int 10]]), v3, v4, v5, some plT, some slT2, some onT, v9, v10, v11] S) := by
    simp [eL, sq1, sq2, fd_law, bindT, line, plT, slT2, onT, mkW, mkWd, d1, d2]
  have q3 : evS (evO prg (n + 12)) (sq1 (sq2 (sq2 eL))) [v0, v1, some (.lst [.tup [.int 0, .int 10], .tup [.int (-1), .int 10]]), v3, v4, v5, some plT, some slT2, some onT, v9, v10, v11] S = some (.nx [v0, v1, some (.lst [.tup [.int 0, .int 10], .tup [.int (-1), .int 10], .tup [.int (-1), .int (-1)], .non]), v3, v4, v5, some plT, some slT2, some onT, v9, v10, v11] S) := by
    simp [eL, sq1, sq2, fd_law, bindT, line, plT, slT2, onT, mkW, mkWd, d3, d4, bq_addL]
  have q4 : evS (evO prg (n + 12)) (sq1 e2L) [v0, v1, some (.lst [.tup [.int 0, .int 10], .tup [.int (-1), .int 10], .tup [.int (-1), .int (-1)], .non]), v3, v4, v5, some plT, some slT2, some onT, v9, v10, v11] S = some (.nx [v0, v1, some (.lst [.tup [.int 0, .int 10], .tup [.int (-1), .int 10], .tup [.int (-1), .int (-1)], .non]), v3, v4, v5, some plT, some slT2, some onT, v9, v10, v11] S) := by
    simp [e2L, eL, sq1, sq2, fd_law, bindT, line, plT, slT2, onT, mkW, mkWd, d5, ne4, x1, negT]
  have q5 : evS (evO prg (n + 12)) (sq1 (sq2 e2L)) [v0, v1, some (.lst [.tup [.int 0, .int 10], .tup [.int (-1), .int 10], .tup [.int (-1), .int (-1)], .non]), v3, v4, v5, some plT, some slT2, some onT, v9, v10, v11] S = some (.nx [v0, v1, some (.lst [.tup [.int 0, .int 10], .tup [.int (-1), .int 10], .tup [.int (-1), .int (-1)], .non]), v3, v4, v5, some plT, some slT2, some onT, v9, v10, v11] S) := by
    simp [e2L, eL, sq1, sq2, fd_law, bindT, line, plT, slT2, onT, mkW, mkWd, d6, d7, x2, x3, negT]
  have q6 : evS (evO prg (n + 12)) (sq1 (sq2 (sq2 e2L))) [v0, v1, some (.lst [.tup [.int 0, .int 10], .tup [.int (-1), .int 10], .tup [.int (-1), .int (-1)], .non]), v3, v4, v5, some plT, some slT2, some onT, v9, v10, v11] S = some (.nx [v0, v1, some (.lst [.tup [.int 0, .int 10], .tup [.int (-1), .int 10], .tup [.int (-1), .int (-1)], .non]), v3, v4, v5, some plT, some slT2, some onT, v9, v10, v11] S) := by
    simp [e2L, eL, sq1, sq2, fd_law, bindT, line, plT, slT2, onT, mkW, mkWd, d8, d9, x4, x5, negT]
  have q7 : evS (evO prg (n + 12)) (sq1 (sq2 (sq2 (sq2 e2L)))) [v0, v1, some (.lst [.tup [.int 0, .int 10], .tup [.int (-1), .int 10], .tup [.int (-1), .int (-1)], .non]), v3, v4, v5, some plT, some slT2, some onT, v9, v10, v11] S = some (.nx [v0, v1, some (.lst [.tup [.int 0, .int 10], .tup [.int (-1), .int 10], .tup [.int (-1), .int (-1)], .non]), v3, v4, v5, some plT, some slT2, some onT, v9, v10, v11] S) := by
    simp [e2L, eL, sq1, sq2, fd_law, bindT, line, plT, slT2, onT, mkW, mkWd, d10, x6, negT]
  have q8 : evS (evO prg (n + 12)) (sq1 (sq2 (sq2 (sq2 (sq2 e2L))))) [v0, v1, some (.lst [.tup [.int 0, .int 10], .tup [.int (-1), .int 10], .tup [.int (-1), .int (-1)], .non]), v3, v4, v5, some plT, some slT2, some onT, v9, v10, v11] S = some (.rt (.bl true) S) := by
    simp [e2L, eL, sq1, sq2, fd_law, bindT, line, plT, slT2, onT, mkW, mkWd, pw30, pw29, ml29, d11, x7]
  rw [eL_eq, seq_nx q1, seq_nx q2, seq_nx q3, seq_nx q4, seq_nx q5, seq_nx q6, seq_nx q7, seq_rt q8]
theorem law_runs_n (n : Nat) (ns : List Int) : ∃ S, runO prg (n + 13) i_law [.scr ns] [] = some (.ok (.bl true) S) := by
  rw [run_succ prg (n + 12) i_law _ [] fd_law rfl rfl]
  obtain ⟨ρ', S', e, i⟩ := forL_inv (g := frT (evO prg (n + 12)) (.nm 1) (.seq (.asg (.nm 3) (.call 16 (.cons (.var 0) (.cons (.var 1) .nil)))) (.seq (.asg (.tp (.cn (.nm 9) (.cn (.nm 10) .nl))) (.tup (.cons (.call 19 (.cons (.var 3) (.cons (.lit (.int 6)) .nil))) (.cons (.call 20 (.cons (.var 3) .nil)) .nil)))) (.seq (.for_ (.nm 4) (.rg1 (.lit (.int 2))) (.seq (.asg (.nm 11) (.call 31 (.cons (.var 3) (.cons (.var 9) (.cons (.var 10) .nil))))) (.seq (.iff (.cmp .NotEq (.call 15 (.cons (.var 9) (.cons (.var 10) (.cons (.var 11) .nil)))) (.call 30 (.cons (.var 9) (.cons (.var 10) (.cons (.var 11) .nil))))) (.seq (.ret (.lit (.bl false))) .skip) .skip) .skip))) (.seq (.for_ (.nm 5) (.sq (.lst false (.cons (.lit .non) (.cons (.lst false (.cons (.lit (.str (Str.ofString "come"))) .nil)) (.cons (.tup (.cons (.lit (.str (Str.ofString "Come"))) .nil)) (.cons (.op false .Mult (.tup (.cons (.lit .non) .nil)) (.lit (.int 31))) (.cons (.tup (.cons (.lit (.int 1)) .nil)) (.cons (.lit (.str (Str.ofString "come"))) (.cons (.tup (.cons (.tup (.cons (.lit (.str (Str.ofString "come"))) .nil)) .nil)) .nil))))))))) (.seq (.iff (.cmp .NotEq (.lam 0 (.callL 15 (.cons (.var 9) (.cons (.var 10) (.cons (.var 5) .nil))))) (.lit (.str (Str.ofString "said")))) (.seq (.ret (.lit (.bl false))) .skip) .skip) .skip)) .skip))))) (OutI ns) (l := rngT 0 (max 3 (min 8 (ns.length + 2))))
    (fun y hy ρ0 S0 h => by
      obtain ⟨k, _, rfl⟩ := rngT_mem hy
      rw [Int.zero_add]
      obtain ⟨ρ', S', e, z⟩ := out_turn n ns k ρ0 S0 h
      exact ⟨ρ', S', .inl e, z⟩) (ρ := init fd_law [.scr ns]) (S := []) ⟨by intro ob ho; simp at ho, none, none, none, none, none, none, none, none, none, none, none, rfl⟩
  have ok : okR ((max 3 (min 8 (ns.length + 2)) : Nat) : Int) = true := by simp only [okR, Bool.and_eq_true, decide_eq_true_eq]; omega
  have mm : max 3 (min 8 ((ns.length : Int) + 2)) = ((max 3 (min 8 (ns.length + 2)) : Nat) : Int) := by omega
  have r0 : evE (evO prg (n + 12)) (.blt false .max (.cons (.lit (.int 3)) (.cons (.blt false .min (.cons (.lit (.int 8)) (.cons (.op false .Add (.blt false .len (.cons (.var 0) .nil)) (.lit (.int 2))) .nil))) .nil))) (init fd_law [.scr ns]) [] = some (.ok (.int ((max 3 (min 8 (ns.length + 2)) : Nat) : Int)) []) := by
    rw [← mm]
    simp [init, fd_law]
    all_goals ((repeat' split) <;> omega)
  have r1 : evE (evO prg (n + 12)) (.rg1 (.blt false .max (.cons (.lit (.int 3)) (.cons (.blt false .min (.cons (.lit (.int 8)) (.cons (.op false .Add (.blt false .len (.cons (.var 0) .nil)) (.lit (.int 2))) .nil))) .nil)))) (init fd_law [.scr ns]) [] = some (.ok (.tup (rngT 0 (max 3 (min 8 (ns.length + 2))))) []) := by
    rw [wE_rg1, r0]
    simp only [ok, if_true, Int.toNat_natCast]
  have ef : evS (evO prg (n + 12)) (.for_ (.nm 1) (.rg1 (.blt false .max (.cons (.lit (.int 3)) (.cons (.blt false .min (.cons (.lit (.int 8)) (.cons (.op false .Add (.blt false .len (.cons (.var 0) .nil)) (.lit (.int 2))) .nil))) .nil)))) (.seq (.asg (.nm 3) (.call 16 (.cons (.var 0) (.cons (.var 1) .nil)))) (.seq (.asg (.tp (.cn (.nm 9) (.cn (.nm 10) .nl))) (.tup (.cons (.call 19 (.cons (.var 3) (.cons (.lit (.int 6)) .nil))) (.cons (.call 20 (.cons (.var 3) .nil)) .nil)))) (.seq (.for_ (.nm 4) (.rg1 (.lit (.int 2))) (.seq (.asg (.nm 11) (.call 31 (.cons (.var 3) (.cons (.var 9) (.cons (.var 10) .nil))))) (.seq (.iff (.cmp .NotEq (.call 15 (.cons (.var 9) (.cons (.var 10) (.cons (.var 11) .nil)))) (.call 30 (.cons (.var 9) (.cons (.var 10) (.cons (.var 11) .nil))))) (.seq (.ret (.lit (.bl false))) .skip) .skip) .skip))) (.seq (.for_ (.nm 5) (.sq (.lst false (.cons (.lit .non) (.cons (.lst false (.cons (.lit (.str (Str.ofString "come"))) .nil)) (.cons (.tup (.cons (.lit (.str (Str.ofString "Come"))) .nil)) (.cons (.op false .Mult (.tup (.cons (.lit .non) .nil)) (.lit (.int 31))) (.cons (.tup (.cons (.lit (.int 1)) .nil)) (.cons (.lit (.str (Str.ofString "come"))) (.cons (.tup (.cons (.tup (.cons (.lit (.str (Str.ofString "come"))) .nil)) .nil)) .nil))))))))) (.seq (.iff (.cmp .NotEq (.lam 0 (.callL 15 (.cons (.var 9) (.cons (.var 10) (.cons (.var 5) .nil))))) (.lit (.str (Str.ofString "said")))) (.seq (.ret (.lit (.bl false))) .skip) .skip) .skip)) .skip))))) (init fd_law [.scr ns]) [] = some (.nx ρ' S') := for_eq r1 e
  obtain ⟨hC, v1, v2, v3, v4, v5, v6, v7, v8, v9, v10, v11, rfl⟩ := i
  have ee := end_ok n (some (.scr ns)) v1 v2 v3 v4 v5 v6 v7 v8 v9 v10 v11 S'
  have eb : fd_law.body = .seq (.for_ (.nm 1) (.rg1 (.blt false .max (.cons (.lit (.int 3)) (.cons (.blt false .min (.cons (.lit (.int 8)) (.cons (.op false .Add (.blt false .len (.cons (.var 0) .nil)) (.lit (.int 2))) .nil))) .nil)))) (.seq (.asg (.nm 3) (.call 16 (.cons (.var 0) (.cons (.var 1) .nil)))) (.seq (.asg (.tp (.cn (.nm 9) (.cn (.nm 10) .nl))) (.tup (.cons (.call 19 (.cons (.var 3) (.cons (.lit (.int 6)) .nil))) (.cons (.call 20 (.cons (.var 3) .nil)) .nil)))) (.seq (.for_ (.nm 4) (.rg1 (.lit (.int 2))) (.seq (.asg (.nm 11) (.call 31 (.cons (.var 3) (.cons (.var 9) (.cons (.var 10) .nil))))) (.seq (.iff (.cmp .NotEq (.call 15 (.cons (.var 9) (.cons (.var 10) (.cons (.var 11) .nil)))) (.call 30 (.cons (.var 9) (.cons (.var 10) (.cons (.var 11) .nil))))) (.seq (.ret (.lit (.bl false))) .skip) .skip) .skip))) (.seq (.for_ (.nm 5) (.sq (.lst false (.cons (.lit .non) (.cons (.lst false (.cons (.lit (.str (Str.ofString "come"))) .nil)) (.cons (.tup (.cons (.lit (.str (Str.ofString "Come"))) .nil)) (.cons (.op false .Mult (.tup (.cons (.lit .non) .nil)) (.lit (.int 31))) (.cons (.tup (.cons (.lit (.int 1)) .nil)) (.cons (.lit (.str (Str.ofString "come"))) (.cons (.tup (.cons (.tup (.cons (.lit (.str (Str.ofString "come"))) .nil)) .nil)) .nil))))))))) (.seq (.iff (.cmp .NotEq (.lam 0 (.callL 15 (.cons (.var 9) (.cons (.var 10) (.cons (.var 5) .nil))))) (.lit (.str (Str.ofString "said")))) (.seq (.ret (.lit (.bl false))) .skip) .skip) .skip)) .skip))))) eL := rfl
  have kp : fd_law.keep = false := rfl
  rw [eb, kp, seq_nx ef, ee]
  have fc : fin1 ([] : Sto).length (.bl true) S' = .ok (.bl true) [] := fin1_cut (S := []) (X := S') rfl rfl (by intro ob ho; simp at ho)
  exact ⟨[], by rw [fin_rt, fc]⟩
theorem law_runs (ns : List Int) (h : ns.length ≤ 63) : ∃ S, run prg 40 i_law [.scr ns] [] = some (.ok (.bl true) S) := by
  have := law_runs_n 27 ns
  rw [runO_eq] at this; exact this
end Fw

namespace Fw
open PySem L2 PyProof.Rows
/-! ## what the top has left -/
theorem all_mk {l : PySem.W.OpenLaw} {w : World} {K : PySem.W.Frag} {h : Heap} {mg : Str → Option Value} {fa : Addr} (X : K.In h) (G : h.Ns mainGlobals mg) (hfa : mg "law" = some (.ref fa))
    {oc0 kV0 dc0 pm0 cd0 ct0 : Value} {od0 an0 : Option Addr} {sl0 : Array (Option Value)} {f0 : Addr} {oc1 kV1 dc1 pm1 cd1 ct1 : Value} {od1 an1 : Option Addr} {sl1 : Array (Option Value)} {f1 : Addr} {oc2 kV2 dc2 pm2 cd2 ct2 : Value} {od2 an2 : Option Addr} {sl2 : Array (Option Value)} {f2 : Addr} {oc3 kV3 dc3 pm3 cd3 ct3 : Value} {od3 an3 : Option Addr} {sl3 : Array (Option Value)} {f3 : Addr} {oc4 kV4 dc4 pm4 cd4 ct4 : Value} {od4 an4 : Option Addr} {sl4 : Array (Option Value)} {f4 : Addr} {oc5 kV5 dc5 pm5 cd5 ct5 : Value} {od5 an5 : Option Addr} {sl5 : Array (Option Value)} {f5 : Addr} {oc6 kV6 dc6 pm6 cd6 ct6 : Value} {od6 an6 : Option Addr} {sl6 : Array (Option Value)} {f6 : Addr} {oc7 kV7 dc7 pm7 cd7 ct7 : Value} {od7 an7 : Option Addr} {sl7 : Array (Option Value)} {f7 : Addr} {oc8 kV8 dc8 pm8 cd8 ct8 : Value} {od8 an8 : Option Addr} {sl8 : Array (Option Value)} {f8 : Addr} {oc9 kV9 dc9 pm9 cd9 ct9 : Value} {od9 an9 : Option Addr} {sl9 : Array (Option Value)} {f9 : Addr} {oc10 kV10 dc10 pm10 cd10 ct10 : Value} {od10 an10 : Option Addr} {sl10 : Array (Option Value)} {f10 : Addr} {oc11 kV11 dc11 pm11 cd11 ct11 : Value} {od11 an11 : Option Addr} {sl11 : Array (Option Value)} {f11 : Addr} {oc12 kV12 dc12 pm12 cd12 ct12 : Value} {od12 an12 : Option Addr} {sl12 : Array (Option Value)} {f12 : Addr} {oc13 kV13 dc13 pm13 cd13 ct13 : Value} {od13 an13 : Option Addr} {sl13 : Array (Option Value)} {f13 : Addr} {oc14 kV14 dc14 pm14 cd14 ct14 : Value} {od14 an14 : Option Addr} {sl14 : Array (Option Value)} {f14 : Addr} {oc15 kV15 dc15 pm15 cd15 ct15 : Value} {od15 an15 : Option Addr} {sl15 : Array (Option Value)} {f15 : Addr} {oc16 kV16 dc16 pm16 cd16 ct16 : Value} {od16 an16 : Option Addr} {sl16 : Array (Option Value)} {f16 : Addr} {oc17 kV17 dc17 pm17 cd17 ct17 : Value} {od17 an17 : Option Addr} {sl17 : Array (Option Value)} {f17 : Addr} {oc18 kV18 dc18 pm18 cd18 ct18 : Value} {od18 an18 : Option Addr} {sl18 : Array (Option Value)} {f18 : Addr} {oc19 kV19 dc19 pm19 cd19 ct19 : Value} {od19 an19 : Option Addr} {sl19 : Array (Option Value)} {f19 : Addr} {oc20 kV20 dc20 pm20 cd20 ct20 : Value} {od20 an20 : Option Addr} {sl20 : Array (Option Value)} {f20 : Addr} {oc21 kV21 dc21 pm21 cd21 ct21 : Value} {od21 an21 : Option Addr} {sl21 : Array (Option Value)} {f21 : Addr} {oc22 kV22 dc22 pm22 cd22 ct22 : Value} {od22 an22 : Option Addr} {sl22 : Array (Option Value)} {f22 : Addr} {oc23 kV23 dc23 pm23 cd23 ct23 : Value} {od23 an23 : Option Addr} {sl23 : Array (Option Value)} {f23 : Addr} {oc24 kV24 dc24 pm24 cd24 ct24 : Value} {od24 an24 : Option Addr} {sl24 : Array (Option Value)} {f24 : Addr} {oc25 kV25 dc25 pm25 cd25 ct25 : Value} {od25 an25 : Option Addr} {sl25 : Array (Option Value)} {f25 : Addr} {oc26 kV26 dc26 pm26 cd26 ct26 : Value} {od26 an26 : Option Addr} {sl26 : Array (Option Value)} {f26 : Addr} {oc27 kV27 dc27 pm27 cd27 ct27 : Value} {od27 an27 : Option Addr} {sl27 : Array (Option Value)} {f27 : Addr} {oc28 kV28 dc28 pm28 cd28 ct28 : Value} {od28 an28 : Option Addr} {sl28 : Array (Option Value)} {f28 : Addr} {oc29 kV29 dc29 pm29 cd29 ct29 : Value} {od29 an29 : Option Addr} {sl29 : Array (Option Value)} {f29 : Addr} {oc30 kV30 dc30 pm30 cd30 ct30 : Value} {od30 an30 : Option Addr} {sl30 : Array (Option Value)} {f30 : Addr} {oc31 kV31 dc31 pm31 cd31 ct31 : Value} {od31 an31 : Option Addr} {sl31 : Array (Option Value)} {f31 : Addr} {oc32 kV32 dc32 pm32 cd32 ct32 : Value} {od32 an32 : Option Addr} {sl32 : Array (Option Value)} {f32 : Addr} {e0 : Addr} {e1 : Addr} {e2 : Addr} {e3 : Addr} {Oc0 KV0 Dc0 Pm0 Cd0 Ct0 : Value} {Od0 An0 : Option Addr} {Sl0 : Array (Option Value)} {g0 : Addr} {tc32 tp32 : Addr}
    (a0 : PySem.W.nsIn K mainGlobals "is_from" = some (some (.ref f0))) (l0 : K.lookup f0 = some ⟨oc0, od0, .func (PySem.W.fnOf "is_from" "is_from" (defArgs (top 6)) (defBody (top 6)) (defScope (top 6)) .none kV0 dc0 pm0 an0 cd0 ct0), sl0⟩) (c0 : PySem.W.codeIn K cd0 "is_from" = true) (k0 : PySem.W.keepIn K (.ref f0) = true)
    (a1 : PySem.W.nsIn K mainGlobals "is_good_watcher" = some (some (.ref f1))) (l1 : K.lookup f1 = some ⟨oc1, od1, .func (PySem.W.fnOf "is_good_watcher" "is_good_watcher" (defArgs (top 7)) (defBody (top 7)) (defScope (top 7)) .none kV1 dc1 pm1 an1 cd1 ct1), sl1⟩) (c1 : PySem.W.codeIn K cd1 "is_good_watcher" = true) (k1 : PySem.W.keepIn K (.ref f1) = true)
    (a2 : PySem.W.nsIn K mainGlobals "is_good_world" = some (some (.ref f2))) (l2 : K.lookup f2 = some ⟨oc2, od2, .func (PySem.W.fnOf "is_good_world" "is_good_world" (defArgs (top 8)) (defBody (top 8)) (defScope (top 8)) .none kV2 dc2 pm2 an2 cd2 ct2), sl2⟩) (c2 : PySem.W.codeIn K cd2 "is_good_world" = true) (k2 : PySem.W.keepIn K (.ref f2) = true)
    (a3 : PySem.W.nsIn K mainGlobals "half_of" = some (some (.ref f3))) (l3 : K.lookup f3 = some ⟨oc3, od3, .func (PySem.W.fnOf "half_of" "half_of" (defArgs (top 9)) (defBody (top 9)) (defScope (top 9)) .none kV3 dc3 pm3 an3 cd3 ct3), sl3⟩) (c3 : PySem.W.codeIn K cd3 "half_of" = true) (k3 : PySem.W.keepIn K (.ref f3) = true)
    (a4 : PySem.W.nsIn K mainGlobals "stepped" = some (some (.ref f4))) (l4 : K.lookup f4 = some ⟨oc4, od4, .func (PySem.W.fnOf "stepped" "stepped" (defArgs (top 10)) (defBody (top 10)) (defScope (top 10)) .none kV4 dc4 pm4 an4 cd4 ct4), sl4⟩) (c4 : PySem.W.codeIn K cd4 "stepped" = true) (k4 : PySem.W.keepIn K (.ref f4) = true)
    (a5 : PySem.W.nsIn K mainGlobals "need_watcher" = some (some (.ref f5))) (l5 : K.lookup f5 = some ⟨oc5, od5, .func (PySem.W.fnOf "need_watcher" "need_watcher" (defArgs (top 11)) (defBody (top 11)) (defScope (top 11)) .none kV5 dc5 pm5 an5 cd5 ct5), sl5⟩) (c5 : PySem.W.codeIn K cd5 "need_watcher" = true) (k5 : PySem.W.keepIn K (.ref f5) = true)
    (a6 : PySem.W.nsIn K mainGlobals "need_world" = some (some (.ref f6))) (l6 : K.lookup f6 = some ⟨oc6, od6, .func (PySem.W.fnOf "need_world" "need_world" (defArgs (top 12)) (defBody (top 12)) (defScope (top 12)) .none kV6 dc6 pm6 an6 cd6 ct6), sl6⟩) (c6 : PySem.W.codeIn K cd6 "need_world" = true) (k6 : PySem.W.keepIn K (.ref f6) = true)
    (a7 : PySem.W.nsIn K mainGlobals "bounds" = some (some (.ref f7))) (l7 : K.lookup f7 = some ⟨oc7, od7, .func (PySem.W.fnOf "bounds" "bounds" (defArgs (top 14)) (defBody (top 14)) (defScope (top 14)) .none kV7 dc7 pm7 an7 cd7 ct7), sl7⟩) (c7 : PySem.W.codeIn K cd7 "bounds" = true) (k7 : PySem.W.keepIn K (.ref f7) = true)
    (a8 : PySem.W.nsIn K mainGlobals "words_at" = some (some (.ref f8))) (l8 : K.lookup f8 = some ⟨oc8, od8, .func (PySem.W.fnOf "words_at" "words_at" (defArgs (top 15)) (defBody (top 15)) (defScope (top 15)) .none kV8 dc8 pm8 an8 cd8 ct8), sl8⟩) (c8 : PySem.W.codeIn K cd8 "words_at" = true) (k8 : PySem.W.keepIn K (.ref f8) = true)
    (a9 : PySem.W.nsIn K mainGlobals "looked" = some (some (.ref f9))) (l9 : K.lookup f9 = some ⟨oc9, od9, .func (PySem.W.fnOf "looked" "looked" (defArgs (top 16)) (defBody (top 16)) (defScope (top 16)) .none kV9 dc9 pm9 an9 cd9 ct9), sl9⟩) (c9 : PySem.W.codeIn K cd9 "looked" = true) (k9 : PySem.W.keepIn K (.ref f9) = true)
    (a10 : PySem.W.nsIn K mainGlobals "firsts" = some (some (.ref f10))) (l10 : K.lookup f10 = some ⟨oc10, od10, .func (PySem.W.fnOf "firsts" "firsts" (defArgs (top 17)) (defBody (top 17)) (defScope (top 17)) .none kV10 dc10 pm10 an10 cd10 ct10), sl10⟩) (c10 : PySem.W.codeIn K cd10 "firsts" = true) (k10 : PySem.W.keepIn K (.ref f10) = true)
    (a11 : PySem.W.nsIn K mainGlobals "nexts" = some (some (.ref f11))) (l11 : K.lookup f11 = some ⟨oc11, od11, .func (PySem.W.fnOf "nexts" "nexts" (defArgs (top 18)) (defBody (top 18)) (defScope (top 18)) .none kV11 dc11 pm11 an11 cd11 ct11), sl11⟩) (c11 : PySem.W.codeIn K cd11 "nexts" = true) (k11 : PySem.W.keepIn K (.ref f11) = true)
    (a12 : PySem.W.nsIn K mainGlobals "are_words" = some (some (.ref f12))) (l12 : K.lookup f12 = some ⟨oc12, od12, .func (PySem.W.fnOf "are_words" "are_words" (defArgs (top 20)) (defBody (top 20)) (defScope (top 20)) .none kV12 dc12 pm12 an12 cd12 ct12), sl12⟩) (c12 : PySem.W.codeIn K cd12 "are_words" = true) (k12 : PySem.W.keepIn K (.ref f12) = true)
    (a13 : PySem.W.nsIn K mainGlobals "reach_of" = some (some (.ref f13))) (l13 : K.lookup f13 = some ⟨oc13, od13, .func (PySem.W.fnOf "reach_of" "reach_of" (defArgs (top 21)) (defBody (top 21)) (defScope (top 21)) .none kV13 dc13 pm13 an13 cd13 ct13), sl13⟩) (c13 : PySem.W.codeIn K cd13 "reach_of" = true) (k13 : PySem.W.keepIn K (.ref f13) = true)
    (a14 : PySem.W.nsIn K mainGlobals "standings_told" = some (some (.ref f14))) (l14 : K.lookup f14 = some ⟨oc14, od14, .func (PySem.W.fnOf "standings_told" "standings_told" (defArgs (top 22)) (defBody (top 22)) (defScope (top 22)) .none kV14 dc14 pm14 an14 cd14 ct14), sl14⟩) (c14 : PySem.W.codeIn K cd14 "standings_told" = true) (k14 : PySem.W.keepIn K (.ref f14) = true)
    (a15 : PySem.W.nsIn K mainGlobals "depths_told" = some (some (.ref f15))) (l15 : K.lookup f15 = some ⟨oc15, od15, .func (PySem.W.fnOf "depths_told" "depths_told" (defArgs (top 23)) (defBody (top 23)) (defScope (top 23)) .none kV15 dc15 pm15 an15 cd15 ct15), sl15⟩) (c15 : PySem.W.codeIn K cd15 "depths_told" = true) (k15 : PySem.W.keepIn K (.ref f15) = true)
    (a16 : PySem.W.nsIn K mainGlobals "_law_tun" = some (some (.ref f16))) (l16 : K.lookup f16 = some ⟨oc16, od16, .func (PySem.W.fnOf "_law_tun" "_law_tun" (defArgs (top 25)) (defBody (top 25)) (defScope (top 25)) .none kV16 dc16 pm16 an16 cd16 ct16), sl16⟩) (c16 : PySem.W.codeIn K cd16 "_law_tun" = true) (k16 : PySem.W.keepIn K (.ref f16) = true)
    (a17 : PySem.W.nsIn K mainGlobals "_law_scoop" = some (some (.ref f17))) (l17 : K.lookup f17 = some ⟨oc17, od17, .func (PySem.W.fnOf "_law_scoop" "_law_scoop" (defArgs (top 26)) (defBody (top 26)) (defScope (top 26)) .none kV17 dc17 pm17 an17 cd17 ct17), sl17⟩) (c17 : PySem.W.codeIn K cd17 "_law_scoop" = true) (k17 : PySem.W.keepIn K (.ref f17) = true)
    (a18 : PySem.W.nsIn K mainGlobals "_law_any" = some (some (.ref f18))) (l18 : K.lookup f18 = some ⟨oc18, od18, .func (PySem.W.fnOf "_law_any" "_law_any" (defArgs (top 27)) (defBody (top 27)) (defScope (top 27)) .none kV18 dc18 pm18 an18 cd18 ct18), sl18⟩) (c18 : PySem.W.codeIn K cd18 "_law_any" = true) (k18 : PySem.W.keepIn K (.ref f18) = true)
    (a19 : PySem.W.nsIn K mainGlobals "_law_watcher" = some (some (.ref f19))) (l19 : K.lookup f19 = some ⟨oc19, od19, .func (PySem.W.fnOf "_law_watcher" "_law_watcher" (defArgs (top 28)) (defBody (top 28)) (defScope (top 28)) .none kV19 dc19 pm19 an19 cd19 ct19), sl19⟩) (c19 : PySem.W.codeIn K cd19 "_law_watcher" = true) (k19 : PySem.W.keepIn K (.ref f19) = true)
    (a20 : PySem.W.nsIn K mainGlobals "_law_world" = some (some (.ref f20))) (l20 : K.lookup f20 = some ⟨oc20, od20, .func (PySem.W.fnOf "_law_world" "_law_world" (defArgs (top 29)) (defBody (top 29)) (defScope (top 29)) .none kV20 dc20 pm20 an20 cd20 ct20), sl20⟩) (c20 : PySem.W.codeIn K cd20 "_law_world" = true) (k20 : PySem.W.keepIn K (.ref f20) = true)
    (a21 : PySem.W.nsIn K mainGlobals "_law_deep" = some (some (.ref f21))) (l21 : K.lookup f21 = some ⟨oc21, od21, .func (PySem.W.fnOf "_law_deep" "_law_deep" (defArgs (top 30)) (defBody (top 30)) (defScope (top 30)) .none kV21 dc21 pm21 an21 cd21 ct21), sl21⟩) (c21 : PySem.W.codeIn K cd21 "_law_deep" = true) (k21 : PySem.W.keepIn K (.ref f21) = true)
    (a22 : PySem.W.nsIn K mainGlobals "_law_word" = some (some (.ref f22))) (l22 : K.lookup f22 = some ⟨oc22, od22, .func (PySem.W.fnOf "_law_word" "_law_word" (defArgs (top 31)) (defBody (top 31)) (defScope (top 31)) .none kV22 dc22 pm22 an22 cd22 ct22), sl22⟩) (c22 : PySem.W.codeIn K cd22 "_law_word" = true) (k22 : PySem.W.keepIn K (.ref f22) = true)
    (a23 : PySem.W.nsIn K mainGlobals "_law_onward" = some (some (.ref f23))) (l23 : K.lookup f23 = some ⟨oc23, od23, .func (PySem.W.fnOf "_law_onward" "_law_onward" (defArgs (top 32)) (defBody (top 32)) (defScope (top 32)) .none kV23 dc23 pm23 an23 cd23 ct23), sl23⟩) (c23 : PySem.W.codeIn K cd23 "_law_onward" = true) (k23 : PySem.W.keepIn K (.ref f23) = true)
    (a24 : PySem.W.nsIn K mainGlobals "_law_led" = some (some (.ref f24))) (l24 : K.lookup f24 = some ⟨oc24, od24, .func (PySem.W.fnOf "_law_led" "_law_led" (defArgs (top 33)) (defBody (top 33)) (defScope (top 33)) .none kV24 dc24 pm24 an24 cd24 ct24), sl24⟩) (c24 : PySem.W.codeIn K cd24 "_law_led" = true) (k24 : PySem.W.keepIn K (.ref f24) = true)
    (a25 : PySem.W.nsIn K mainGlobals "_law_trip" = some (some (.ref f25))) (l25 : K.lookup f25 = some ⟨oc25, od25, .func (PySem.W.fnOf "_law_trip" "_law_trip" (defArgs (top 34)) (defBody (top 34)) (defScope (top 34)) .none kV25 dc25 pm25 an25 cd25 ct25), sl25⟩) (c25 : PySem.W.codeIn K cd25 "_law_trip" = true) (k25 : PySem.W.keepIn K (.ref f25) = true)
    (a26 : PySem.W.nsIn K mainGlobals "_law_rim" = some (some (.ref f26))) (l26 : K.lookup f26 = some ⟨oc26, od26, .func (PySem.W.fnOf "_law_rim" "_law_rim" (defArgs (top 35)) (defBody (top 35)) (defScope (top 35)) .none kV26 dc26 pm26 an26 cd26 ct26), sl26⟩) (c26 : PySem.W.codeIn K cd26 "_law_rim" = true) (k26 : PySem.W.keepIn K (.ref f26) = true)
    (a27 : PySem.W.nsIn K mainGlobals "_law_behind" = some (some (.ref f27))) (l27 : K.lookup f27 = some ⟨oc27, od27, .func (PySem.W.fnOf "_law_behind" "_law_behind" (defArgs (top 36)) (defBody (top 36)) (defScope (top 36)) .none kV27 dc27 pm27 an27 cd27 ct27), sl27⟩) (c27 : PySem.W.codeIn K cd27 "_law_behind" = true) (k27 : PySem.W.keepIn K (.ref f27) = true)
    (a28 : PySem.W.nsIn K mainGlobals "_law_begins" = some (some (.ref f28))) (l28 : K.lookup f28 = some ⟨oc28, od28, .func (PySem.W.fnOf "_law_begins" "_law_begins" (defArgs (top 37)) (defBody (top 37)) (defScope (top 37)) .none kV28 dc28 pm28 an28 cd28 ct28), sl28⟩) (c28 : PySem.W.codeIn K cd28 "_law_begins" = true) (k28 : PySem.W.keepIn K (.ref f28) = true)
    (a29 : PySem.W.nsIn K mainGlobals "_law_graph" = some (some (.ref f29))) (l29 : K.lookup f29 = some ⟨oc29, od29, .func (PySem.W.fnOf "_law_graph" "_law_graph" (defArgs (top 38)) (defBody (top 38)) (defScope (top 38)) .none kV29 dc29 pm29 an29 cd29 ct29), sl29⟩) (c29 : PySem.W.codeIn K cd29 "_law_graph" = true) (k29 : PySem.W.keepIn K (.ref f29) = true)
    (a30 : PySem.W.nsIn K mainGlobals "_law_due" = some (some (.ref f30))) (l30 : K.lookup f30 = some ⟨oc30, od30, .func (PySem.W.fnOf "_law_due" "_law_due" (defArgs (top 39)) (defBody (top 39)) (defScope (top 39)) .none kV30 dc30 pm30 an30 cd30 ct30), sl30⟩) (c30 : PySem.W.codeIn K cd30 "_law_due" = true) (k30 : PySem.W.keepIn K (.ref f30) = true)
    (a31 : PySem.W.nsIn K mainGlobals "_law_drawn_words" = some (some (.ref f31))) (l31 : K.lookup f31 = some ⟨oc31, od31, .func (PySem.W.fnOf "_law_drawn_words" "_law_drawn_words" (defArgs (top 40)) (defBody (top 40)) (defScope (top 40)) .none kV31 dc31 pm31 an31 cd31 ct31), sl31⟩) (c31 : PySem.W.codeIn K cd31 "_law_drawn_words" = true) (k31 : PySem.W.keepIn K (.ref f31) = true)
    (a32 : PySem.W.nsIn K mainGlobals "law" = some (some (.ref f32))) (l32 : K.lookup f32 = some ⟨oc32, od32, .func (PySem.W.fnOf "law" "law" (defArgs (top 42)) (defBody (top 42)) (defScope (top 42)) .none kV32 dc32 pm32 an32 cd32 ct32), sl32⟩) (c32 : PySem.W.codeIn K cd32 "law" = true) (k32 : PySem.W.keepIn K (.ref f32) = true)
    (xa0 : PySem.W.nsIn K mainGlobals "WatchError" = some (some (.ref e0)))
    (xp0 : PySem.W.excIn K e0 [.type "ValueError", .type "Exception", .type "BaseException", .type "object"] "ValueError.__new__" = true) (xk0 : PySem.W.keepIn K (.ref e0) = true) (xb0 : PySem.W.subIn K (.ref e0) (.type "BaseException") = some true) (xt0 : PySem.W.typeIn K (.ref e0) = some (.type "type"))
    (xa1 : PySem.W.nsIn K mainGlobals "InvalidWatcher" = some (some (.ref e1)))
    (xp1 : PySem.W.excIn K e1 [.type "ValueError", .type "Exception", .type "BaseException", .type "object"] "ValueError.__new__" = true) (xk1 : PySem.W.keepIn K (.ref e1) = true) (xb1 : PySem.W.subIn K (.ref e1) (.type "BaseException") = some true) (xt1 : PySem.W.typeIn K (.ref e1) = some (.type "type"))
    (xa2 : PySem.W.nsIn K mainGlobals "InvalidWorld" = some (some (.ref e2)))
    (xp2 : PySem.W.excIn K e2 [.type "ValueError", .type "Exception", .type "BaseException", .type "object"] "ValueError.__new__" = true) (xk2 : PySem.W.keepIn K (.ref e2) = true) (xb2 : PySem.W.subIn K (.ref e2) (.type "BaseException") = some true) (xt2 : PySem.W.typeIn K (.ref e2) = some (.type "type"))
    (xa3 : PySem.W.nsIn K mainGlobals "InvalidSaid" = some (some (.ref e3)))
    (xp3 : PySem.W.excIn K e3 [.type "ValueError", .type "Exception", .type "BaseException", .type "object"] "ValueError.__new__" = true) (xk3 : PySem.W.keepIn K (.ref e3) = true) (xb3 : PySem.W.subIn K (.ref e3) (.type "BaseException") = some true) (xt3 : PySem.W.typeIn K (.ref e3) = some (.type "type"))
    (z0 : PySem.W.nsIn K mainGlobals "abs" = some none)
    (z1 : PySem.W.nsIn K mainGlobals "all" = some none)
    (z2 : PySem.W.nsIn K mainGlobals "bool" = some none)
    (z3 : PySem.W.nsIn K mainGlobals "dict" = some none)
    (z4 : PySem.W.nsIn K mainGlobals "enumerate" = some none)
    (z5 : PySem.W.nsIn K mainGlobals "int" = some none)
    (z6 : PySem.W.nsIn K mainGlobals "isinstance" = some none)
    (z7 : PySem.W.nsIn K mainGlobals "len" = some none)
    (z8 : PySem.W.nsIn K mainGlobals "list" = some none)
    (z9 : PySem.W.nsIn K mainGlobals "max" = some none)
    (z10 : PySem.W.nsIn K mainGlobals "min" = some none)
    (z11 : PySem.W.nsIn K mainGlobals "range" = some none)
    (z12 : PySem.W.nsIn K mainGlobals "str" = some none)
    (z13 : PySem.W.nsIn K mainGlobals "tuple" = some none)
    (A0 : PySem.W.nsIn K mainGlobals "_law_word_for" = some (some (.ref g0))) (L0 : K.lookup g0 = some ⟨Oc0, Od0, .func (PySem.W.fnOf "_law_word_for" "_law_word_for" (defArgs (top 41)) (defBody (top 41)) (defScope (top 41)) .none KV0 Dc0 Pm0 An0 Cd0 Ct0), Sl0⟩) (C0 : PySem.W.codeIn K Cd0 "_law_word_for" = true) (K0 : PySem.W.keepIn K (.ref g0) = true)
    (xs3_3 : PySem.W.subIn K (.ref e3) (.ref e3) = some true)
    (xd3 : PySem.W.hasDictIn K e3 = true)
    (ti32 : cd32 = .ref tc32) (tg32 : h.get? tp32 = some (PySem.W.tabObj #[])) (th32 : PySem.W.codeHdIn K tc32 tp32 = true) (tn32 : K.lookup tp32 = none) :
    LamX.LawAtS l w K (L2.CX l.prog w) 40 63 "_law_script" mg fa h := by
  have e : fa = f32 := by
    have e := hfa.symm.trans (PySem.W.mg_of X G a32)
    cases e; rfl
  subst fa
  have xm3_3 := PySem.W.exm_ref xb3 xd3 xt3 xs3_3
  let F : LF lw l.prog w K mg := {
    g := ⟨K, fun i => [f0, f1, f2, f3, f4, f5, f6, f7, f8, f9, f10, f11, f12, f13, f14, f15, f16, f17, f18, f19, f20, f21, f22, f23, f24, f25, f26, f27, f28, f29, f30, f31, f32].getD i 0, fun i => [e0, e1, e2, e3].getD i 0, [], [(tp32, "law.<locals>.<lambda>")], l.prog, w⟩
    fdOf := fun i => [PySem.W.fnOf "is_from" "is_from" (defArgs (top 6)) (defBody (top 6)) (defScope (top 6)) .none kV0 dc0 pm0 an0 cd0 ct0,
      PySem.W.fnOf "is_good_watcher" "is_good_watcher" (defArgs (top 7)) (defBody (top 7)) (defScope (top 7)) .none kV1 dc1 pm1 an1 cd1 ct1,
      PySem.W.fnOf "is_good_world" "is_good_world" (defArgs (top 8)) (defBody (top 8)) (defScope (top 8)) .none kV2 dc2 pm2 an2 cd2 ct2,
      PySem.W.fnOf "half_of" "half_of" (defArgs (top 9)) (defBody (top 9)) (defScope (top 9)) .none kV3 dc3 pm3 an3 cd3 ct3,
      PySem.W.fnOf "stepped" "stepped" (defArgs (top 10)) (defBody (top 10)) (defScope (top 10)) .none kV4 dc4 pm4 an4 cd4 ct4,
      PySem.W.fnOf "need_watcher" "need_watcher" (defArgs (top 11)) (defBody (top 11)) (defScope (top 11)) .none kV5 dc5 pm5 an5 cd5 ct5,
      PySem.W.fnOf "need_world" "need_world" (defArgs (top 12)) (defBody (top 12)) (defScope (top 12)) .none kV6 dc6 pm6 an6 cd6 ct6,
      PySem.W.fnOf "bounds" "bounds" (defArgs (top 14)) (defBody (top 14)) (defScope (top 14)) .none kV7 dc7 pm7 an7 cd7 ct7,
      PySem.W.fnOf "words_at" "words_at" (defArgs (top 15)) (defBody (top 15)) (defScope (top 15)) .none kV8 dc8 pm8 an8 cd8 ct8,
      PySem.W.fnOf "looked" "looked" (defArgs (top 16)) (defBody (top 16)) (defScope (top 16)) .none kV9 dc9 pm9 an9 cd9 ct9,
      PySem.W.fnOf "firsts" "firsts" (defArgs (top 17)) (defBody (top 17)) (defScope (top 17)) .none kV10 dc10 pm10 an10 cd10 ct10,
      PySem.W.fnOf "nexts" "nexts" (defArgs (top 18)) (defBody (top 18)) (defScope (top 18)) .none kV11 dc11 pm11 an11 cd11 ct11,
      PySem.W.fnOf "are_words" "are_words" (defArgs (top 20)) (defBody (top 20)) (defScope (top 20)) .none kV12 dc12 pm12 an12 cd12 ct12,
      PySem.W.fnOf "reach_of" "reach_of" (defArgs (top 21)) (defBody (top 21)) (defScope (top 21)) .none kV13 dc13 pm13 an13 cd13 ct13,
      PySem.W.fnOf "standings_told" "standings_told" (defArgs (top 22)) (defBody (top 22)) (defScope (top 22)) .none kV14 dc14 pm14 an14 cd14 ct14,
      PySem.W.fnOf "depths_told" "depths_told" (defArgs (top 23)) (defBody (top 23)) (defScope (top 23)) .none kV15 dc15 pm15 an15 cd15 ct15,
      PySem.W.fnOf "_law_tun" "_law_tun" (defArgs (top 25)) (defBody (top 25)) (defScope (top 25)) .none kV16 dc16 pm16 an16 cd16 ct16,
      PySem.W.fnOf "_law_scoop" "_law_scoop" (defArgs (top 26)) (defBody (top 26)) (defScope (top 26)) .none kV17 dc17 pm17 an17 cd17 ct17,
      PySem.W.fnOf "_law_any" "_law_any" (defArgs (top 27)) (defBody (top 27)) (defScope (top 27)) .none kV18 dc18 pm18 an18 cd18 ct18,
      PySem.W.fnOf "_law_watcher" "_law_watcher" (defArgs (top 28)) (defBody (top 28)) (defScope (top 28)) .none kV19 dc19 pm19 an19 cd19 ct19,
      PySem.W.fnOf "_law_world" "_law_world" (defArgs (top 29)) (defBody (top 29)) (defScope (top 29)) .none kV20 dc20 pm20 an20 cd20 ct20,
      PySem.W.fnOf "_law_deep" "_law_deep" (defArgs (top 30)) (defBody (top 30)) (defScope (top 30)) .none kV21 dc21 pm21 an21 cd21 ct21,
      PySem.W.fnOf "_law_word" "_law_word" (defArgs (top 31)) (defBody (top 31)) (defScope (top 31)) .none kV22 dc22 pm22 an22 cd22 ct22,
      PySem.W.fnOf "_law_onward" "_law_onward" (defArgs (top 32)) (defBody (top 32)) (defScope (top 32)) .none kV23 dc23 pm23 an23 cd23 ct23,
      PySem.W.fnOf "_law_led" "_law_led" (defArgs (top 33)) (defBody (top 33)) (defScope (top 33)) .none kV24 dc24 pm24 an24 cd24 ct24,
      PySem.W.fnOf "_law_trip" "_law_trip" (defArgs (top 34)) (defBody (top 34)) (defScope (top 34)) .none kV25 dc25 pm25 an25 cd25 ct25,
      PySem.W.fnOf "_law_rim" "_law_rim" (defArgs (top 35)) (defBody (top 35)) (defScope (top 35)) .none kV26 dc26 pm26 an26 cd26 ct26,
      PySem.W.fnOf "_law_behind" "_law_behind" (defArgs (top 36)) (defBody (top 36)) (defScope (top 36)) .none kV27 dc27 pm27 an27 cd27 ct27,
      PySem.W.fnOf "_law_begins" "_law_begins" (defArgs (top 37)) (defBody (top 37)) (defScope (top 37)) .none kV28 dc28 pm28 an28 cd28 ct28,
      PySem.W.fnOf "_law_graph" "_law_graph" (defArgs (top 38)) (defBody (top 38)) (defScope (top 38)) .none kV29 dc29 pm29 an29 cd29 ct29,
      PySem.W.fnOf "_law_due" "_law_due" (defArgs (top 39)) (defBody (top 39)) (defScope (top 39)) .none kV30 dc30 pm30 an30 cd30 ct30,
      PySem.W.fnOf "_law_drawn_words" "_law_drawn_words" (defArgs (top 40)) (defBody (top 40)) (defScope (top 40)) .none kV31 dc31 pm31 an31 cd31 ct31,
      PySem.W.fnOf "law" "law" (defArgs (top 42)) (defBody (top 42)) (defScope (top 42)) .none kV32 dc32 pm32 an32 cd32 ct32].getD i (PySem.W.fnOf "is_from" "is_from" (defArgs (top 6)) (defBody (top 6)) (defScope (top 6)) .none kV0 dc0 pm0 an0 cd0 ct0)
    hK := rfl
    hP := rfl
    hw := rfl
    fns := by
      intro f d hd
      have hlt : f < 33 := (List.getElem?_eq_some_iff.mp hd).1
      rcases Nat.lt_or_ge f 1 with q | q
      · obtain rfl : f = 0 := by omega
        cases hd
        have Fu := L2.fun_mk (x := "is_from") (qual := "is_from") (st := top 6) l0 c0 k0
        exact ⟨Fu, PySem.W.mg_of X G a0, Fu.binds (ps := ["value", "low", "high"]) fun _ _ _ _ _ _ us hl => match us, hl with | [_, _, _], _ => rfl⟩
      rcases Nat.lt_or_ge f 2 with q | q
      · obtain rfl : f = 1 := by omega
        cases hd
        have Fu := L2.fun_mk (x := "is_good_watcher") (qual := "is_good_watcher") (st := top 7) l1 c1 k1
        exact ⟨Fu, PySem.W.mg_of X G a1, Fu.binds (ps := ["value"]) fun _ _ _ _ _ _ us hl => match us, hl with | [_], _ => rfl⟩
      rcases Nat.lt_or_ge f 3 with q | q
      · obtain rfl : f = 2 := by omega
        cases hd
        have Fu := L2.fun_mk (x := "is_good_world") (qual := "is_good_world") (st := top 8) l2 c2 k2
        exact ⟨Fu, PySem.W.mg_of X G a2, Fu.binds (ps := ["value"]) fun _ _ _ _ _ _ us hl => match us, hl with | [_], _ => rfl⟩
      rcases Nat.lt_or_ge f 4 with q | q
      · obtain rfl : f = 3 := by omega
        cases hd
        have Fu := L2.fun_mk (x := "half_of") (qual := "half_of") (st := top 9) l3 c3 k3
        exact ⟨Fu, PySem.W.mg_of X G a3, Fu.binds (ps := ["watcher"]) fun _ _ _ _ _ _ us hl => match us, hl with | [_], _ => rfl⟩
      rcases Nat.lt_or_ge f 5 with q | q
      · obtain rfl : f = 4 := by omega
        cases hd
        have Fu := L2.fun_mk (x := "stepped") (qual := "stepped") (st := top 10) l4 c4 k4
        exact ⟨Fu, PySem.W.mg_of X G a4, Fu.binds (ps := ["watcher", "stand", "word"]) fun _ _ _ _ _ _ us hl => match us, hl with | [_, _, _], _ => rfl⟩
      rcases Nat.lt_or_ge f 6 with q | q
      · obtain rfl : f = 5 := by omega
        cases hd
        have Fu := L2.fun_mk (x := "need_watcher") (qual := "need_watcher") (st := top 11) l5 c5 k5
        exact ⟨Fu, PySem.W.mg_of X G a5, Fu.binds (ps := ["value"]) fun _ _ _ _ _ _ us hl => match us, hl with | [_], _ => rfl⟩
      rcases Nat.lt_or_ge f 7 with q | q
      · obtain rfl : f = 6 := by omega
        cases hd
        have Fu := L2.fun_mk (x := "need_world") (qual := "need_world") (st := top 12) l6 c6 k6
        exact ⟨Fu, PySem.W.mg_of X G a6, Fu.binds (ps := ["value"]) fun _ _ _ _ _ _ us hl => match us, hl with | [_], _ => rfl⟩
      rcases Nat.lt_or_ge f 8 with q | q
      · obtain rfl : f = 7 := by omega
        cases hd
        have Fu := L2.fun_mk (x := "bounds") (qual := "bounds") (st := top 14) l7 c7 k7
        exact ⟨Fu, PySem.W.mg_of X G a7, Fu.binds (ps := ["watcher", "world", "reach"]) fun _ _ _ _ _ _ us hl => match us, hl with | [_, _, _], _ => rfl⟩
      rcases Nat.lt_or_ge f 9 with q | q
      · obtain rfl : f = 8 := by omega
        cases hd
        have Fu := L2.fun_mk (x := "words_at") (qual := "words_at") (st := top 15) l8 c8 k8
        exact ⟨Fu, PySem.W.mg_of X G a8, Fu.binds (ps := ["watcher", "world", "deep", "lost"]) fun _ _ _ _ _ _ us hl => match us, hl with | [_, _, _, _], _ => rfl⟩
      rcases Nat.lt_or_ge f 10 with q | q
      · obtain rfl : f = 9 := by omega
        cases hd
        have Fu := L2.fun_mk (x := "looked") (qual := "looked") (st := top 16) l9 c9 k9
        exact ⟨Fu, PySem.W.mg_of X G a9, Fu.binds (ps := ["watcher", "world", "stand", "lost", "deep"]) fun _ _ _ _ _ _ us hl => match us, hl with | [_, _, _, _, _], _ => rfl⟩
      rcases Nat.lt_or_ge f 11 with q | q
      · obtain rfl : f = 10 := by omega
        cases hd
        have Fu := L2.fun_mk (x := "firsts") (qual := "firsts") (st := top 17) l10 c10 k10
        exact ⟨Fu, PySem.W.mg_of X G a10, Fu.binds (ps := ["watcher", "world", "reach"]) fun _ _ _ _ _ _ us hl => match us, hl with | [_, _, _], _ => rfl⟩
      rcases Nat.lt_or_ge f 12 with q | q
      · obtain rfl : f = 11 := by omega
        cases hd
        have Fu := L2.fun_mk (x := "nexts") (qual := "nexts") (st := top 18) l11 c11 k11
        exact ⟨Fu, PySem.W.mg_of X G a11, Fu.binds (ps := ["watcher", "world", "reach", "standing"]) fun _ _ _ _ _ _ us hl => match us, hl with | [_, _, _, _], _ => rfl⟩
      rcases Nat.lt_or_ge f 13 with q | q
      · obtain rfl : f = 12 := by omega
        cases hd
        have Fu := L2.fun_mk (x := "are_words") (qual := "are_words") (st := top 20) l12 c12 k12
        exact ⟨Fu, PySem.W.mg_of X G a12, Fu.binds (ps := ["value"]) fun _ _ _ _ _ _ us hl => match us, hl with | [_], _ => rfl⟩
      rcases Nat.lt_or_ge f 14 with q | q
      · obtain rfl : f = 13 := by omega
        cases hd
        have Fu := L2.fun_mk (x := "reach_of") (qual := "reach_of") (st := top 21) l13 c13 k13
        exact ⟨Fu, PySem.W.mg_of X G a13, Fu.binds (ps := ["watcher", "world", "many"]) fun _ _ _ _ _ _ us hl => match us, hl with | [_, _, _], _ => rfl⟩
      rcases Nat.lt_or_ge f 15 with q | q
      · obtain rfl : f = 14 := by omega
        cases hd
        have Fu := L2.fun_mk (x := "standings_told") (qual := "standings_told") (st := top 22) l14 c14 k14
        exact ⟨Fu, PySem.W.mg_of X G a14, Fu.binds (ps := ["watcher", "world", "words"]) fun _ _ _ _ _ _ us hl => match us, hl with | [_, _, _], _ => rfl⟩
      rcases Nat.lt_or_ge f 16 with q | q
      · obtain rfl : f = 15 := by omega
        cases hd
        have Fu := L2.fun_mk (x := "depths_told") (qual := "depths_told") (st := top 23) l15 c15 k15
        exact ⟨Fu, PySem.W.mg_of X G a15, Fu.binds (ps := ["watcher", "world", "words"]) fun _ _ _ _ _ _ us hl => match us, hl with | [_, _, _], _ => rfl⟩
      rcases Nat.lt_or_ge f 17 with q | q
      · obtain rfl : f = 16 := by omega
        cases hd
        have Fu := L2.fun_mk (x := "_law_tun") (qual := "_law_tun") (st := top 25) l16 c16 k16
        exact ⟨Fu, PySem.W.mg_of X G a16, Fu.binds (ps := ["_law_script", "_law_k"]) fun _ _ _ _ _ _ us hl => match us, hl with | [_, _], _ => rfl⟩
      rcases Nat.lt_or_ge f 18 with q | q
      · obtain rfl : f = 17 := by omega
        cases hd
        have Fu := L2.fun_mk (x := "_law_scoop") (qual := "_law_scoop") (st := top 26) l17 c17 k17
        exact ⟨Fu, PySem.W.mg_of X G a17, Fu.binds (ps := ["_law_tun_here", "_law_wide"]) fun _ _ _ _ _ _ us hl => match us, hl with | [_, _], _ => rfl⟩
      rcases Nat.lt_or_ge f 19 with q | q
      · obtain rfl : f = 18 := by omega
        cases hd
        have Fu := L2.fun_mk (x := "_law_any") (qual := "_law_any") (st := top 27) l18 c18 k18
        exact ⟨Fu, PySem.W.mg_of X G a18, Fu.binds (ps := ["_law_tun_here", "_law_things"]) fun _ _ _ _ _ _ us hl => match us, hl with | [_, _], _ => rfl⟩
      rcases Nat.lt_or_ge f 20 with q | q
      · obtain rfl : f = 19 := by omega
        cases hd
        have Fu := L2.fun_mk (x := "_law_watcher") (qual := "_law_watcher") (st := top 28) l19 c19 k19
        exact ⟨Fu, PySem.W.mg_of X G a19, Fu.binds (ps := ["_law_tun_here", "_law_wide"]) fun _ _ _ _ _ _ us hl => match us, hl with | [_, _], _ => rfl⟩
      rcases Nat.lt_or_ge f 21 with q | q
      · obtain rfl : f = 20 := by omega
        cases hd
        have Fu := L2.fun_mk (x := "_law_world") (qual := "_law_world") (st := top 29) l20 c20 k20
        exact ⟨Fu, PySem.W.mg_of X G a20, Fu.binds (ps := ["_law_tun_here"]) fun _ _ _ _ _ _ us hl => match us, hl with | [_], _ => rfl⟩
      rcases Nat.lt_or_ge f 22 with q | q
      · obtain rfl : f = 21 := by omega
        cases hd
        have Fu := L2.fun_mk (x := "_law_deep") (qual := "_law_deep") (st := top 30) l21 c21 k21
        exact ⟨Fu, PySem.W.mg_of X G a21, Fu.binds (ps := ["_law_watcher_so", "_law_place"]) fun _ _ _ _ _ _ us hl => match us, hl with | [_, _], _ => rfl⟩
      rcases Nat.lt_or_ge f 23 with q | q
      · obtain rfl : f = 22 := by omega
        cases hd
        have Fu := L2.fun_mk (x := "_law_word") (qual := "_law_word") (st := top 31) l22 c22 k22
        exact ⟨Fu, PySem.W.mg_of X G a22, Fu.binds (ps := ["_law_watcher_so", "_law_look"]) fun _ _ _ _ _ _ us hl => match us, hl with | [_, _], _ => rfl⟩
      rcases Nat.lt_or_ge f 24 with q | q
      · obtain rfl : f = 23 := by omega
        cases hd
        have Fu := L2.fun_mk (x := "_law_onward") (qual := "_law_onward") (st := top 32) l23 c23 k23
        exact ⟨Fu, PySem.W.mg_of X G a23, Fu.binds (ps := ["_law_watcher_so", "_law_stand_so", "_law_look"]) fun _ _ _ _ _ _ us hl => match us, hl with | [_, _, _], _ => rfl⟩
      rcases Nat.lt_or_ge f 25 with q | q
      · obtain rfl : f = 24 := by omega
        cases hd
        have Fu := L2.fun_mk (x := "_law_led") (qual := "_law_led") (st := top 33) l24 c24 k24
        exact ⟨Fu, PySem.W.mg_of X G a24, Fu.binds (ps := ["_law_watcher_so", "_law_stand_so", "_law_looks_so"]) fun _ _ _ _ _ _ us hl => match us, hl with | [_, _, _], _ => rfl⟩
      rcases Nat.lt_or_ge f 26 with q | q
      · obtain rfl : f = 25 := by omega
        cases hd
        have Fu := L2.fun_mk (x := "_law_trip") (qual := "_law_trip") (st := top 34) l25 c25 k25
        exact ⟨Fu, PySem.W.mg_of X G a25, Fu.binds (ps := ["_law_tun_here", "_law_watcher_so", "_law_world_so", "_law_many"]) fun _ _ _ _ _ _ us hl => match us, hl with | [_, _, _, _], _ => rfl⟩
      rcases Nat.lt_or_ge f 27 with q | q
      · obtain rfl : f = 26 := by omega
        cases hd
        have Fu := L2.fun_mk (x := "_law_rim") (qual := "_law_rim") (st := top 35) l26 c26 k26
        exact ⟨Fu, PySem.W.mg_of X G a26, Fu.binds (ps := ["_law_watcher_so", "_law_world_so", "_law_reach"]) fun _ _ _ _ _ _ us hl => match us, hl with | [_, _, _], _ => rfl⟩
      rcases Nat.lt_or_ge f 28 with q | q
      · obtain rfl : f = 27 := by omega
        cases hd
        have Fu := L2.fun_mk (x := "_law_behind") (qual := "_law_behind") (st := top 36) l27 c27 k27
        exact ⟨Fu, PySem.W.mg_of X G a27, Fu.binds (ps := ["_law_watcher_so", "_law_world_so", "_law_stand_so", "_law_lost", "_law_place"]) fun _ _ _ _ _ _ us hl => match us, hl with | [_, _, _, _, _], _ => rfl⟩
      rcases Nat.lt_or_ge f 29 with q | q
      · obtain rfl : f = 28 := by omega
        cases hd
        have Fu := L2.fun_mk (x := "_law_begins") (qual := "_law_begins") (st := top 37) l28 c28 k28
        exact ⟨Fu, PySem.W.mg_of X G a28, Fu.binds (ps := ["_law_watcher_so", "_law_world_so", "_law_reach"]) fun _ _ _ _ _ _ us hl => match us, hl with | [_, _, _], _ => rfl⟩
      rcases Nat.lt_or_ge f 30 with q | q
      · obtain rfl : f = 29 := by omega
        cases hd
        have Fu := L2.fun_mk (x := "_law_graph") (qual := "_law_graph") (st := top 38) l29 c29 k29
        exact ⟨Fu, PySem.W.mg_of X G a29, Fu.binds (ps := ["_law_watcher_so", "_law_world_so", "_law_reach"]) fun _ _ _ _ _ _ us hl => match us, hl with | [_, _, _], _ => rfl⟩
      rcases Nat.lt_or_ge f 31 with q | q
      · obtain rfl : f = 30 := by omega
        cases hd
        have Fu := L2.fun_mk (x := "_law_due") (qual := "_law_due") (st := top 39) l30 c30 k30
        exact ⟨Fu, PySem.W.mg_of X G a30, Fu.binds (ps := ["_law_watcher_so", "_law_world_so", "_law_words_so"]) fun _ _ _ _ _ _ us hl => match us, hl with | [_, _, _], _ => rfl⟩
      rcases Nat.lt_or_ge f 32 with q | q
      · obtain rfl : f = 31 := by omega
        cases hd
        have Fu := L2.fun_mk (x := "_law_drawn_words") (qual := "_law_drawn_words") (st := top 40) l31 c31 k31
        exact ⟨Fu, PySem.W.mg_of X G a31, Fu.binds (ps := ["_law_tun_here", "_law_watcher_so", "_law_world_so"]) fun _ _ _ _ _ _ us hl => match us, hl with | [_, _, _], _ => rfl⟩
      have q : f < 33 := hlt
      · obtain rfl : f = 32 := by omega
        cases hd
        have Fu := L2.fun_mk (x := "law") (qual := "law") (st := top 42) l32 c32 k32
        exact ⟨Fu, PySem.W.mg_of X G a32, Fu.binds (ps := ["_law_script"]) fun _ _ _ _ _ _ us hl => match us, hl with | [_], _ => rfl⟩
    blt := by
      intro x hx
      simp only [lw, List.mem_cons, List.not_mem_nil, or_false] at hx
      rcases hx with rfl | rfl | rfl | rfl | rfl | rfl | rfl | rfl | rfl | rfl | rfl | rfl | rfl | rfl
      · exact PySem.W.mg_none_of X G z0
      · exact PySem.W.mg_none_of X G z1
      · exact PySem.W.mg_none_of X G z2
      · exact PySem.W.mg_none_of X G z3
      · exact PySem.W.mg_none_of X G z4
      · exact PySem.W.mg_none_of X G z5
      · exact PySem.W.mg_none_of X G z6
      · exact PySem.W.mg_none_of X G z7
      · exact PySem.W.mg_none_of X G z8
      · exact PySem.W.mg_none_of X G z9
      · exact PySem.W.mg_none_of X G z10
      · exact PySem.W.mg_none_of X G z11
      · exact PySem.W.mg_none_of X G z12
      · exact PySem.W.mg_none_of X G z13
    cst := by
      intro c x hc
      have hlt : c < 0 := (List.getElem?_eq_some_iff.mp hc).1
      exact absurd hlt (by omega)
    exm := by
      intro c x hc
      have hlt : c < 4 := (List.getElem?_eq_some_iff.mp hc).1
      rcases Nat.lt_or_ge c 1 with q | q
      · obtain rfl : c = 0 := by omega
        cases hc
        exact PySem.W.mg_of X G xa0
      rcases Nat.lt_or_ge c 2 with q | q
      · obtain rfl : c = 1 := by omega
        cases hc
        exact PySem.W.mg_of X G xa1
      rcases Nat.lt_or_ge c 3 with q | q
      · obtain rfl : c = 2 := by omega
        cases hc
        exact PySem.W.mg_of X G xa2
      have q : c < 4 := hlt
      · obtain rfl : c = 3 := by omega
        cases hc
        exact PySem.W.mg_of X G xa3
    exc := by
      intro c x hc hf
      have hlt : c < 4 := (List.getElem?_eq_some_iff.mp hc).1
      rcases Nat.lt_or_ge c 1 with q | q
      · obtain rfl : c = 0 := by omega
        cases hc
        exact ⟨_, _, _, _, PySem.F.excBase_ValueError, xp0, xk0, xb0, xt0⟩
      rcases Nat.lt_or_ge c 2 with q | q
      · obtain rfl : c = 1 := by omega
        cases hc
        exact ⟨_, _, _, _, PySem.F.excBase_ValueError, xp1, xk1, xb1, xt1⟩
      rcases Nat.lt_or_ge c 3 with q | q
      · obtain rfl : c = 2 := by omega
        cases hc
        exact ⟨_, _, _, _, PySem.F.excBase_ValueError, xp2, xk2, xb2, xt2⟩
      have q : c < 4 := hlt
      · obtain rfl : c = 3 := by omega
        cases hc
        exact ⟨_, _, _, _, PySem.F.excBase_ValueError, xp3, xk3, xb3, xt3⟩
    exx := by
      intro c x f hc hf
      have hlt : c < 4 := (List.getElem?_eq_some_iff.mp hc).1
      rcases Nat.lt_or_ge c 1 with q | q
      · obtain rfl : c = 0 := by omega
        cases hf
      rcases Nat.lt_or_ge c 2 with q | q
      · obtain rfl : c = 1 := by omega
        cases hf
      rcases Nat.lt_or_ge c 3 with q | q
      · obtain rfl : c = 2 := by omega
        cases hf
      have q : c < 4 := hlt
      · obtain rfl : c = 3 := by omega
        cases hf
    isx := fun _ _ h => by cases h
    xm := fun _ _ h => by cases h
    cs := [(tc32, tp32)]
    lfn := by
      intro j li hj
      have hlt : j < 1 := (List.getElem?_eq_some_iff.mp hj).1
      have q : j < 1 := hlt
      · obtain rfl : j = 0 := by omega
        cases hj
        have Fu := L2.fun_mk (x := "_law_word_for") (qual := "_law_word_for") (st := top 41) L0 C0 K0
        refine ⟨_, _, _, Fu, PySem.W.mg_of X G A0, Fu.binds (ps := ["_law_call"]) fun _ _ _ _ _ _ us hl => match us, hl with | [_], _ => rfl, rfl, fun p hp => ?_⟩
        simp only [List.mem_cons, List.not_mem_nil, or_false] at hp
        subst hp
        · exact ⟨_, rfl, fun Q d H hq => ⟨true, xm3_3, fun _ => hq, fun z => Bool.noConfusion z⟩⟩
    tab := by
      intro f d hd hl
      have hlt : f < 33 := (List.getElem?_eq_some_iff.mp hd).1
      have zz : (List.range 33).all (fun f => (lw.ds[f]?.map (·.lam)).getD false == [32].contains f) = true := by decide +kernel
      have z := List.all_eq_true.mp zz f (List.mem_range.mpr hlt)
      rw [hd, Option.map_some, hl] at z
      have z : f ∈ [32] := by simpa using z
      simp only [List.mem_cons, List.not_mem_nil, or_false] at z
      subst z
      · cases hd
        refine ⟨tc32, tp32, ti32, by simp, List.mem_of_getElem? (i := 0) rfl, fun p hp hq => ?_⟩
        simp only [List.mem_cons, List.not_mem_nil, or_false] at hp
        subst hp; rfl
  }
  refine ⟨F.fdOf 32, [(tc32, tp32)], spLaw K [(tp32, "law.<locals>.<lambda>")], fun p hp => ?_, fun p hp => ?_, fun p hp => ?_, fun s v => .of_eq rfl, fun H a ns hl _ hH hS => ⟨a, ns, rfl, hS, hl, fun p hp => ?_, fun _ => rfl⟩, fun base _ _ TB => ?_⟩
  · simp only [List.mem_cons, List.not_mem_nil, or_false] at hp
    subst hp
    exact tg32
  · simp only [List.mem_cons, List.not_mem_nil, or_false] at hp
    subst hp
    exact tn32
  · simp only [List.mem_cons, List.not_mem_nil, or_false] at hp
    subst hp
    exact PySem.W.codeHd_of_K X th32
  · simp only [List.mem_cons, List.not_mem_nil, or_false] at hp
    subst hp
    exact LamX.TabS.nil (hH (tc32, tp32) (by simp))
  · exact law_ok F lw_tab lw_ok lw_okL TB 40 32 (lw.ds.getD 32 ⟨"", top 0, [], [], fd_law, false⟩) rfl rfl law_runs
theorem walk {l : PySem.W.OpenLaw} {q : Program} {loose : List Str} {XP : (Str → Option Value) → Heap → Prop} {YP : World → Heap → Prop} {d : DefRec} {K : Params → PySem.W.Frag} (hn : l.most = some 63) (hdf : d.params.defaults = [])
    (hY : ∀ (w : World) (h : Heap), YP w h → (K w.params).In h)
    (F : ∀ (w : World) (mg : Str → Option Value) (fa : Addr) (h : Heap), YP w h → (K w.params).In h → h.Ns mainGlobals mg → mg d.name = some (.ref fa) → LamX.LawAtS l w (K w.params) (L2.CX l.prog w) 40 63 "_law_script" mg fa h) :
    PySem.W.WalkO q loose XP YP l.row.toRowW d [] (fun f vs => PySem.call f vs) :=
  LamX.walk_ofTs (n := 63) (k := 40) (x := "_law_script") (CX := fun w => L2.CX l.prog w) hn (by decide) hdf ⟨rfl, by decide, by decide⟩ hY F fun _ _ _ _ _ z => by
    obtain ⟨_, _, _, _, _, _, _, _, _, _, _, _, z⟩ := z
    exact z
end Fw
open PySem PySem.W PyProof.Rows
set_option maxRecDepth 100000 in
set_option maxHeartbeats 0 in
theorem PySem.Challenge.cw_fencewatch_k10_whole_depths_by_what_was_holds : PySem.Challenge.rw_fencewatch_k10_whole_depths_by_what_was.Holds := by
  w_on; o_law; k_head; (case hw => w_witness2)
  k_fill
  refine Fw.walk (l := PySem.Challenge.rw_fencewatch_k10_whole_depths_by_what_was) rfl rfl (fun w h Y => PySem.W.km_in_of Y) ?F
  case F =>
    intro w mg fa h Y KX G hmg
    have hT8 := PySem.W.km_tabs_of Y
    refine' Fw.all_mk KX G hmg ?a0 ?l0 ?c0 ?k0 ?a1 ?l1 ?c1 ?k1 ?a2 ?l2 ?c2 ?k2 ?a3 ?l3 ?c3 ?k3 ?a4 ?l4 ?c4 ?k4 ?a5 ?l5 ?c5 ?k5 ?a6 ?l6 ?c6 ?k6 ?a7 ?l7 ?c7 ?k7 ?a8 ?l8 ?c8 ?k8 ?a9 ?l9 ?c9 ?k9 ?a10 ?l10 ?c10 ?k10 ?a11 ?l11 ?c11 ?k11 ?a12 ?l12 ?c12 ?k12 ?a13 ?l13 ?c13 ?k13 ?a14 ?l14 ?c14 ?k14 ?a15 ?l15 ?c15 ?k15 ?a16 ?l16 ?c16 ?k16 ?a17 ?l17 ?c17 ?k17 ?a18 ?l18 ?c18 ?k18 ?a19 ?l19 ?c19 ?k19 ?a20 ?l20 ?c20 ?k20 ?a21 ?l21 ?c21 ?k21 ?a22 ?l22 ?c22 ?k22 ?a23 ?l23 ?c23 ?k23 ?a24 ?l24 ?c24 ?k24 ?a25 ?l25 ?c25 ?k25 ?a26 ?l26 ?c26 ?k26 ?a27 ?l27 ?c27 ?k27 ?a28 ?l28 ?c28 ?k28 ?a29 ?l29 ?c29 ?k29 ?a30 ?l30 ?c30 ?k30 ?a31 ?l31 ?c31 ?k31 ?a32 ?l32 ?c32 ?k32 ?xa0 ?xp0 ?xk0 ?xb0 ?xt0 ?xa1 ?xp1 ?xk1 ?xb1 ?xt1 ?xa2 ?xp2 ?xk2 ?xb2 ?xt2 ?xa3 ?xp3 ?xk3 ?xb3 ?xt3 ?z0 ?z1 ?z2 ?z3 ?z4 ?z5 ?z6 ?z7 ?z8 ?z9 ?z10 ?z11 ?z12 ?z13 ?A0 ?L0 ?C0 ?K0 ?xs3_3 ?xd3 ?ti32 ?tg32 ?th32 ?tn32
    (case a0 => k_is)
    (case l0 => k_is)
    (case c0 => k_is)
    (case k0 => k_is)
    (case a1 => k_is)
    (case l1 => k_is)
    (case c1 => k_is)
    (case k1 => k_is)
    (case a2 => k_is)
    (case l2 => k_is)
    (case c2 => k_is)
    (case k2 => k_is)
    (case a3 => k_is)
    (case l3 => k_is)
    (case c3 => k_is)
    (case k3 => k_is)
    (case a4 => k_is)
    (case l4 => k_is)
    (case c4 => k_is)
    (case k4 => k_is)
    (case a5 => k_is)
    (case l5 => k_is)
    (case c5 => k_is)
    (case k5 => k_is)
    (case a6 => k_is)
    (case l6 => k_is)
    (case c6 => k_is)
    (case k6 => k_is)
    (case a7 => k_is)
    (case l7 => k_is)
    (case c7 => k_is)
    (case k7 => k_is)
    (case a8 => k_is)
    (case l8 => k_is)
    (case c8 => k_is)
    (case k8 => k_is)
    (case a9 => k_is)
    (case l9 => k_is)
    (case c9 => k_is)
    (case k9 => k_is)
    (case a10 => k_is)
    (case l10 => k_is)
    (case c10 => k_is)
    (case k10 => k_is)
    (case a11 => k_is)
    (case l11 => k_is)
    (case c11 => k_is)
    (case k11 => k_is)
    (case a12 => k_is)
    (case l12 => k_is)
    (case c12 => k_is)
    (case k12 => k_is)
    (case a13 => k_is)
    (case l13 => k_is)
    (case c13 => k_is)
    (case k13 => k_is)
    (case a14 => k_is)
    (case l14 => k_is)
    (case c14 => k_is)
    (case k14 => k_is)
    (case a15 => k_is)
    (case l15 => k_is)
    (case c15 => k_is)
    (case k15 => k_is)
    (case a16 => k_is)
    (case l16 => k_is)
    (case c16 => k_is)
    (case k16 => k_is)
    (case a17 => k_is)
    (case l17 => k_is)
    (case c17 => k_is)
    (case k17 => k_is)
    (case a18 => k_is)
    (case l18 => k_is)
    (case c18 => k_is)
    (case k18 => k_is)
    (case a19 => k_is)
    (case l19 => k_is)
    (case c19 => k_is)
    (case k19 => k_is)
    (case a20 => k_is)
    (case l20 => k_is)
    (case c20 => k_is)
    (case k20 => k_is)
    (case a21 => k_is)
    (case l21 => k_is)
    (case c21 => k_is)
    (case k21 => k_is)
    (case a22 => k_is)
    (case l22 => k_is)
    (case c22 => k_is)
    (case k22 => k_is)
    (case a23 => k_is)
    (case l23 => k_is)
    (case c23 => k_is)
    (case k23 => k_is)
    (case a24 => k_is)
    (case l24 => k_is)
    (case c24 => k_is)
    (case k24 => k_is)
    (case a25 => k_is)
    (case l25 => k_is)
    (case c25 => k_is)
    (case k25 => k_is)
    (case a26 => k_is)
    (case l26 => k_is)
    (case c26 => k_is)
    (case k26 => k_is)
    (case a27 => k_is)
    (case l27 => k_is)
    (case c27 => k_is)
    (case k27 => k_is)
    (case a28 => k_is)
    (case l28 => k_is)
    (case c28 => k_is)
    (case k28 => k_is)
    (case a29 => k_is)
    (case l29 => k_is)
    (case c29 => k_is)
    (case k29 => k_is)
    (case a30 => k_is)
    (case l30 => k_is)
    (case c30 => k_is)
    (case k30 => k_is)
    (case a31 => k_is)
    (case l31 => k_is)
    (case c31 => k_is)
    (case k31 => k_is)
    (case a32 => k_is)
    (case l32 => k_is)
    (case c32 => k_is)
    (case k32 => k_is)
    (case xa0 => k_is)
    (case xp0 => k_exc)
    (case xk0 => k_is)
    (case xb0 => k_is)
    (case xt0 => k_is)
    (case xa1 => k_is)
    (case xp1 => k_exc)
    (case xk1 => k_is)
    (case xb1 => k_is)
    (case xt1 => k_is)
    (case xa2 => k_is)
    (case xp2 => k_exc)
    (case xk2 => k_is)
    (case xb2 => k_is)
    (case xt2 => k_is)
    (case xa3 => k_is)
    (case xp3 => k_exc)
    (case xk3 => k_is)
    (case xb3 => k_is)
    (case xt3 => k_is)
    (case z0 => k_is)
    (case z1 => k_is)
    (case z2 => k_is)
    (case z3 => k_is)
    (case z4 => k_is)
    (case z5 => k_is)
    (case z6 => k_is)
    (case z7 => k_is)
    (case z8 => k_is)
    (case z9 => k_is)
    (case z10 => k_is)
    (case z11 => k_is)
    (case z12 => k_is)
    (case z13 => k_is)
    (case A0 => k_is)
    (case L0 => k_is)
    (case C0 => k_is)
    (case K0 => k_is)
    (case xs3_3 => k_is)
    (case xd3 => k_is)
    (case ti32 => rfl)
    (case tg32 => exact hT8 _ List.mem_cons_self)
    (case th32 => first | kernel_rfl | decide +kernel)
    (case tn32 => first | kernel_rfl | decide +kernel)
