import PyProof.Rows.All
import Wide.All
import OpenK.AllK
import Wide.FinOn
import PyProof.EqAt
import PyProof.EqKinds
import PyProof.TupleCall
import KE.KStateDown
import KE.KFromBytes
import KE.KExcSuper
import Lean
import KE.GoesRaise
import HandS.ForMost
import HandS.Exc
import HandS.TryOnly
import HandS.ExcOwn
import HandS.WordsExc
import HandS.ExcInit
import HandS.Nested
import HandS.ClsMeth
import HandS.Defaults
import HandS.HeadHook2
import HandS.HeadHook3
import HandS.Star
import HandS.TupAny
import HandS.IsInst
import HandS.ExcField
import HandS.ExcIs
import HandS.More
import HandS.Flow
import HandS.Evl
import HandS.Head0
import HandS.Head1
import HandS.Head2
import HandS.HeadEnd
import HandS.HeadHook1
import HandS.Walk
import KE.KExcIs
import KE.IntTextLaws
import HandS.HeadHook3
import PySem.Challenge.RW_promisesowned_k50_yard_deeds_as_text
set_option Elab.async false
set_option linter.all false
set_option maxRecDepth 100000
set_option maxHeartbeats 4000000
namespace Fk
open PySem PySem.Spec PyProof.Rows L2
/-! ### super().__init__(..) as the first statement of an exception's __init__ -/
structure SupF (P : Program) (K : PySem.W.Frag) (mg : Str → Option Value) (f c cc D : Addr) : Prop where
  cell : ∃ cl cld csl, K.lookup cc = some ⟨cl, cld, .cell (some (.ref D)), csl⟩
  code : ∃ (ccl : Value) (cdd : Option Addr) (vs : Array Value) (ccs : Array (Option Value)) (file : Str) (tf : Tok), K.lookup c = some ⟨ccl, cdd, .fields vs, ccs⟩ ∧ vs[2]? = some (.str file tf) ∧ ((P.main.file : Str) == file) = true
  top : (P.main.scope.names.lookup ("super" : Str)).isSome = false
  mgs : mg "super" = none
  clsD : ∃ cd, PySem.W.clsIn K D = some cd
  third : PySem.W.nsIn K cStatics "thirdparty.any" = some none
structure SupC (K : PySem.W.Frag) (C D : Addr) (r : Value) : Prop where
  sub : PySem.W.mroIn K C (.ref D) = some true
  nxt : PySem.W.ks_superIn K C D "__init__" = some (some r)
section
variable {X : Cx} {pins : List (Addr × Obj)} {σ : L2.St} {H : Hp} {s : Shared} {a C D f c cc : Addr} {fd : FuncData}
/-- attributeBase of super(): a super object is made -/
theorem sup_base {body : List Stmt} {p0 p1 : Pos} {whole : Sem Value} {oc : Value} {od : Option Addr} {osl : Array (Option Value)} {ar : Arg} {Q : Value → Shared → Prop} {A : Around} {E : Value → Shared → Prop}
    (F : SupF X.prog X.K X.mg f c cc D) (T : OexC X.K C) {r : Value} (S : SupC X.K C D r) (lk : X.K.lookup f = some ⟨oc, od, .func fd, osl⟩) (hp : (fd.params.posonlyargs ++ fd.params.args).head? = some ar)
    (eF : X.env.func = some f) (eC : X.env.code = .ref c) (eL : X.env.cells.lookup ("__class__" : Str) = some cc) (kS : X.env.kindOf "super" = some .globalImplicit) (kC : X.env.kindOf "__class__" = some .free)
    (kA : X.env.kindOf ar.arg = some .local) (nA : X.N[0]? = some ar.arg) (hσ : σ[0]? = some (some (.ref a)))
    (I : Inv X pins σ H s) (e : H a = some (exo a C none))
    (h : ∀ s', Inv X ((s.heap.objs.size, PySem.W.ks_superObj D a C) :: pins) σ H s' → Q (.ref s.heap.objs.size) s') :
    _root_.PySem.wpAt (model X.prog X.w) A (.func body X.env) (attributeBase (.Call (.Name "super" p0) [] [] p1) "__init__" X.env whole) Q E s := by
  obtain ⟨cl, cld, csl, hcell⟩ := F.cell
  obtain ⟨ccl, cdd, vs, ccs, file, tf, hcode, hvs, hfile⟩ := F.code
  obtain ⟨cdD, hD⟩ := F.clsD
  obtain ⟨oD, hD1, hD2⟩ : ∃ oD, s.heap.get? D = some oD ∧ oD.data = .cls cdD := by
    unfold PySem.W.clsIn at hD
    split at hD
    · rename_i c d cd' sl ho
      cases hD
      exact ⟨_, I.kIn _ _ ho, rfl⟩
    · cases hD
  obtain ⟨t1, ho⟩ := exo_at I.hok e
  obtain ⟨m, hn, hl⟩ := I.loc
  obtain ⟨u, ru, look⟩ := hl 0 ar.arg (.ref a) nA hσ (.inl kA)
  obtain rfl : u = Value.ref a := ru
  have hv : m ar.arg = some (.ref a) := by
    rcases look with ⟨_, z⟩ | ⟨k, _⟩
    · exact z
    · rcases k with k | k <;> (rw [kA] at k; cases k)
  refine ks_wpAt_super_base kS kC (by decide) eF (I.kIn _ _ lk) rfl hp eC (I.kIn _ _ hcode) rfl hvs hfile F.top ?_
  obtain ⟨mb, hb1, hb2⟩ := I.mod.blt
  refine PySem.W.ks_loadName_global I.ok.kind kS (Calls.loadGlobal_builtin (by rw [I.ok.glob]; exact I.mod.glob.keeps I.bk) F.mgs (by rw [I.ok.blt]; exact hb1.keeps I.bk) ((hb2 "super" (by decide)).trans (by decide +kernel)) ⟨rfl, ?_⟩)
  refine wpAny_loadName_free I.ok.kind kC eL ⟨_, I.kIn _ _ hcell, rfl⟩ ?_
  refine wpAny_loadName_local I.ok.kind kA hn hv ?_
  refine ks_wpAny_isType_cls hD1 hD2 ⟨rfl, ?_⟩
  obtain ⟨hh, g, d, t, os⟩ := s
  refine ks_wpAny_call_super hD1 hD2 ho rfl (fun c e => by cases e) (PySem.W.looks_mroIn I.kIn S.sub) (fun h' e' k => ?_)
  exact h _ (ClX.pin_new (t' := t) I k (Nat.le_refl _) e' (fun v z => by cases z))
theorem ne_cls {cd : ClassData} (I : Inv X pins σ H s) (e : H a = some (exo a C none)) (hc : PySem.W.clsIn X.K C = some cd) : a ≠ C := by
  rintro rfl
  unfold PySem.W.clsIn at hc
  split at hc
  · rename_i c d cd' sl ho
    obtain ⟨_, hn⟩ := I.bs _ _ (I.ok.mod.kin _ _ ho)
    rw [e] at hn
    cases hn
  · cases hc
theorem sup_meth {pl : Sem Bool} {g so : Addr} {Q : Value × List Value → Shared → Prop} {A : Around} {E : Value → Shared → Prop} (F : SupF X.prog X.K X.mg f c cc D) (S : SupC X.K C D (.ref g)) (tg : PySem.W.typeIn X.K (.ref g) = some (.type "function"))
    (I : Inv X ((so, PySem.W.ks_superObj D a C) :: pins) σ H s) (e : H a = some (exo a C none))
    (h : ∀ s', Inv X ((s.heap.objs.size, PySem.W.methodObj (.ref g) (.ref a)) :: pins) σ H s' → X.base.get? s.heap.objs.size = none → Q (.ref s.heap.objs.size, []) s') : wpAny (model X.prog X.w) A (getMethod (.ref so) "__init__" pl) Q E s := by
  have hm := S.nxt
  have K := I.kIn
  have hso : s.heap.get? so = some (PySem.W.ks_superObj D a C) := ClX.pin_at I
  cases hc : PySem.W.clsIn X.K C with
  | none => unfold PySem.W.ks_superIn at hm; rw [hc] at hm; cases hm
  | some cd =>
    unfold PySem.W.ks_superIn at hm
    rw [hc] at hm
    obtain ⟨of, hof, hofc⟩ : ∃ of, s.heap.get? g = some of ∧ of.cls = .type "function" := by
      have ht' : (X.K.lookup g).map (·.cls) = some (.type "function") := tg
      cases z : X.K.lookup g with
      | none => rw [z] at ht'; cases ht'
      | some of => rw [z] at ht'; exact ⟨of, K _ _ z, Option.some.inj ht'⟩
    have hne := ne_cls I e hc
    have hbn := ClX.base_none I (Nat.le_refl _)
    obtain ⟨hh, gg, d, t, os⟩ := s
    refine ks_wpAny_getMethod_super hso (PySem.W.looks_opaque K F.third) (l₀ := cd.mro) ?_ rfl K hm hof hofc hne (by decide) ?_
    · exact fun A Q E s k q => wpAny_bind ((PySem.W.looks_clsIn K hc) A _ E s k (wpAny_pure q))
    · refine h _ (ClX.pin_new (t' := t + 1) (ClX.unpin I) (fun b o z => Heap.get?_push_of_some _ z) (Nat.le_refl _) (Heap.get?_push_at rfl rfl) (fun v z => by cases z)) hbn
theorem sup_methB {pl : Sem Bool} {so : Addr} {Q : Value × List Value → Shared → Prop} {A : Around} {E : Value → Shared → Prop} (F : SupF X.prog X.K X.mg f c cc D) (S : SupC X.K C D (.builtin "ValueError.__init__")) (sB : PySem.W.subIn X.K (.ref C) (.type "ValueError") = some true)
    (I : Inv X ((so, PySem.W.ks_superObj D a C) :: pins) σ H s) (e : H a = some (exo a C none))
    (h : ∀ s', Inv X ((s.heap.objs.size, PySem.W.kxs_mw "ValueError.__init__" a) :: pins) σ H s' → Q (.ref s.heap.objs.size, []) s') : wpAny (model X.prog X.w) A (getMethod (.ref so) "__init__" pl) Q E s := by
  have hm := S.nxt
  have K := I.kIn
  have hso : s.heap.get? so = some (PySem.W.ks_superObj D a C) := ClX.pin_at I
  obtain ⟨t1, ho⟩ := exo_at I.hok e
  cases hc : PySem.W.clsIn X.K C with
  | none => unfold PySem.W.ks_superIn at hm; rw [hc] at hm; cases hm
  | some cd =>
    unfold PySem.W.ks_superIn at hm
    rw [hc] at hm
    have hne := ne_cls I e hc
    obtain ⟨hh, gg, d, t, os⟩ := s
    have J : PySem.W.InstAt hh a _ C none := ⟨ho, rfl, rfl, trivial⟩
    have hI : PySem.W.Looks (model X.prog X.w) hh (isInstance (.ref a) (.type "ValueError")) true := J.type.andThen (PySem.W.looks_subIn K sB)
    refine PySem.W.kxs_getMethod PySem.W.kxs_ValueError hso (PySem.W.looks_opaque K F.third) (l₀ := cd.mro) ?_ rfl K hm hI hne (by decide) ?_
    · exact fun A Q E s k q => wpAny_bind ((PySem.W.looks_clsIn K hc) A _ E s k (wpAny_pure q))
    · refine h _ (ClX.pin_new (t' := t + 1) (ClX.unpin I) (fun b o z => Heap.get?_push_of_some _ z) (Nat.le_refl _) (Heap.get?_push_at rfl rfl) (fun v z => by cases z))
/-- the wrapper called -/
theorem mw_call {q : Addr} {us : List Value} {Q : Value → Shared → Prop} {A : Around} {E : Value → Shared → Prop} (T : OexC X.K C) (I : Inv X ((q, PySem.W.kxs_mw "ValueError.__init__" a) :: pins) σ H s) (e : H a = some (exo a C none)) (hl : us.length ≤ sizeLine)
    (h : ∀ s', Inv X pins σ H s' → Q .none s') : wpAny (model X.prog X.w) A (call (.ref q) us) Q E s := by
  obtain ⟨nm, qn, N, bs, bm, sn, sub, ab, col, dd, k0, k1, k2, k3, k5, hC, hbm⟩ := T.cls
  obtain ⟨t1, ho⟩ := exo_at I.hok e
  have hu := ClX.pin_at I
  have I0 := ClX.unpin I
  have hCs := I.kIn _ _ hC
  have FB := F.excBase_ValueError
  obtain ⟨hp, g, d, t, os⟩ := s
  refine wpAny_call (codeAny_of_tree ?_)
  show wpAny _ A.in1 (callAny (.ref q) ⟨us, []⟩) _ _ _
  simp only [callAny]
  refine wpAny_bind (wpAny_load hu ?_)
  simp only [PySem.W.kxs_mw, show (Value.type "method-wrapper" == Value.type "method" || Value.type "method-wrapper" == Value.type "builtin_function_or_method" || Value.type "method-wrapper" == Value.type "method-wrapper") = true by decide, if_true]
  refine PySem.W.KFB.if_so (by decide) ?_
  refine wpAny_bind (PySem.W.check_bound_init FB.toExcCallFacts hCs ho rfl ?_)
  refine wpAny_bind (wpAny_pure (wpAny_pure ?_))
  refine ⟨plainId_quiet FB.init.plain _, codeAny_builtin FB.initEntry ?_⟩
  refine PySem.W.exc_init_tree (cls := .ref C) (t0 := t1) (dv := none) (c2 := .none) (c3 := .none) (b4 := .bool false) ho hl fun h' k hx _ => ?_
  have J := I0.write (t' := t) (x := a) (e := a) (o := exo a C none) (by rw [e]; exact True.intro) (.inl rfl) k ⟨_, hx⟩ (exo_ok hx)
  have eu : upd H a (exo a C none) = H := by
    funext b
    by_cases hb : b = a
    · rw [hb, upd_same, e]
    · rw [upd_ne hb]
  rw [eu] at J
  exact h _ J
end
end Fk
namespace Fk
open PySem PySem.Spec PyProof.Rows L2
/-- what super().__init__ is: a def of the text's, or the built-in one -/
inductive Nxt (P : Program) (w : World) (K : PySem.W.Frag) (mg : Str → Option Value) (base : Heap) (A : Around) (a C D : Addr) (σ : L2.St) (H : Hp) (ta : TA) (go : Hp → Prop) : Prop where
  | user {g : Addr} {fdg : FuncData} {psg : List Str} {spg : Sp} {kg : Nat} (S : SupC K C D (.ref g)) (tg : PySem.W.typeIn K (.ref g) = some (.type "function")) (fg : PySem.W.fnIn K g = true)
      (G : FnOk P w K mg base CX0 kg g fdg psg spg) (hr : Room kg A) (b : Binds K fdg psg []) (q : ta σ H fun ws H1 => H1 a = some (exo a C none) ∧ spg (.ref a :: ws) H1 (fun _ H2 => go H2) E0)
  | base (S : SupC K C D (.builtin "ValueError.__init__")) (sB : PySem.W.subIn K (.ref C) (.type "ValueError") = some true) (q : ta σ H fun ws H1 => ws.length ≤ 1000 ∧ H1 a = some (exo a C none) ∧ go H1)
abbrev supSt (e : Expr) (es : List Expr) (p0 p1 p2 p3 p4 : Pos) : Stmt := .Expr (.Call (.Attribute (.Call (.Name "super" p0) [] [] p1) "__init__" p2) (e :: es) [] p3) p4
abbrev nfS (name qual : Str) (params : Arguments) (body : List Stmt) (scope : Scope) (cc c : Addr) : NdefX.NF := ⟨name, qual, params, body, scope, [("__class__", cc)], c⟩
theorem fn_ofS {P : Program} {w : World} {K : PySem.W.Frag} {mg : Str → Option Value} {base : Heap} {k : Nat} {f c cc D : Addr} {name qual : Str} {params : Arguments} {scope : Scope} {doc pm ct oc : Value} {od : Option Addr} {osl : Array (Option Value)}
    {N ps : List Str} {sp : Sp} {e : Expr} {es : List Expr} {p0 p1 p2 p3 p4 : Pos} {rest : List Stmt} {ar : Arg}
    (lk : K.lookup f = some ⟨oc, od, .func (PySem.W.ksFn name qual params (supSt e es p0 p1 p2 p3 p4 :: rest) scope .none .none doc pm none (.ref c) ct cc), osl⟩) (hcd : PySem.W.codeIn K (.ref c) qual = true)
    (S : NdefX.NScope N ps ["__class__"] scope) (F : SupF P K mg f c cc D) (hp : (params.posonlyargs ++ params.args).head? = some ar) (nA : N[0]? = some ar.arg) (kA : scope.names.lookup ar.arg = some .local) (kS : scope.names.lookup ("super" : Str) = some .globalImplicit) (kC : scope.names.lookup ("__class__" : Str) = some .free)
    (pl : Env → Sem Bool) (hev : ∀ env : Env, eval (.Call (.Attribute (.Call (.Name "super" p0) [] [] p1) "__init__" p2) (e :: es) [] p3) env = (do
      let ov ← attributeBase (.Call (.Name "super" p0) [] [] p1) "__init__" env (eval (.Call (.Name "super" p0) [] [] p1) env)
      standAt p2.atName
      let (f, first) ← holding [ov] (getMethod ov "__init__" (pl env))
      callWith p3 f first (backTo p3 (starEach (e :: es) env)) []))
    (hst : ∀ env : Env, starEach (e :: es) env = (false, eval e env) :: starEach es env) (hpl : ∀ env : Env, (backTo p3 (starEach es env)).any (·.1) = false)
    (len : ∀ vs H Q E, sp vs H Q E → vs.length = ps.length)
    (hbody : ∀ (A : Around) (outer : List Env) (s : Shared) (H : Hp) (vs : List V) (Q : VK) (E : XK), Room k (A.deeper (NdefX.envF (nfS name qual params (supSt e es p0 p1 p2 p3 p4 :: rest) scope cc c) f s.heap.objs.size)) → sp vs H Q E →
      ∃ (ta : TA) (t : TS) (a C : Addr) (vr : List V), vs = .ref a :: vr ∧ OexC K C ∧ H a = some (exo a C none) ∧
        PA (NdefX.ncx CX0 P w K mg base N (nfS name qual params (supSt e es p0 p1 p2 p3 p4 :: rest) scope cc c) f A outer s H E) (e :: es) ta ∧
        PSs (NdefX.ncx CX0 P w K mg base N (nfS name qual params (supSt e es p0 p1 p2 p3 p4 :: rest) scope cc c) f A outer s H E) rest t ∧
        Nxt P w K mg base (A.deeper (NdefX.envF (nfS name qual params (supSt e es p0 p1 p2 p3 p4 :: rest) scope cc c) f s.heap.objs.size)) a C D (NdefX.startF N vs [some (.ref D)]) H ta
          (fun H1 => t { nx := fun _ H' => Q .non H', rt := Q } (NdefX.startF N vs [some (.ref D)]) H1)) :
    FnOk P w K mg base CX0 (k + 1) f (PySem.W.ksFn name qual params (supSt e es p0 p1 p2 p3 p4 :: rest) scope .none .none doc pm none (.ref c) ct cc) ps sp := by
  refine ⟨len, fun A outer s H args us vs Q E hr e0 hb r hsp => ?_⟩
  have hl := len _ _ _ _ hsp
  have KX : K.In s.heap := e0.mod.kin.keeps fun b o e => (e0.bs b o e).1
  have lim : s.heap.NoLimit := e0.mod.nolimit.keeps fun b o e => (e0.bs b o e).1
  refine ks_codeAny_call_defAt (fd := PySem.W.ksFn name qual params (supSt e es p0 p1 p2 p3 p4 :: rest) scope .none .none doc pm none (.ref c) ct cc) (body := supSt e es p0 p1 p2 p3 p4 :: rest) (binds := ps.zip us) hr.depth (KX _ _ lk) rfl lim (PySem.W.codeRec_of KX hcd) rfl hb S.nocell
    (fun ⟨n, _⟩ hy => S.par n (List.of_mem_zip hy).1) (fun h₁ hns kp => ?_) S.co S.gen S.kind
  obtain ⟨ta, t, a, C, vr, ev, T, ea, pa, pr, nx⟩ := hbody A outer s H vs Q E (hr.deeper _) hsp
  have cells : NdefX.CellsAt [("__class__", cc)] ["__class__"] [some (.ref D)] s.heap H := by
    obtain ⟨cl, cld, csl, hcell⟩ := F.cell
    have h0 : ∀ (y : Str) (c' : Addr), List.lookup y [(("__class__" : Str), cc)] = some c' → c' = cc := fun y c' z => by
      simp only [List.lookup] at z
      split at z
      · exact (Option.some.inj z).symm
      · cases z
    refine ⟨rfl, fun y c' z => ?_, fun x y c' z1 z2 => ?_, fun i y z => ?_⟩
    · rw [h0 y c' z]
      exact ⟨(e0.bs _ _ (e0.mod.kin _ _ hcell)).2, _, _, KX _ _ hcell, rfl⟩
    · simp only [List.lookup] at z1 z2
      split at z1
      · rename_i q1
        split at z2
        · rename_i q2
          rw [beq_iff_eq.mp q1, beq_iff_eq.mp q2]
        · cases z2
      · cases z1
    · cases i with
      | zero =>
        have ey : y = "__class__" := (Option.some.inj z).symm
        subst ey
        refine ⟨cc, by simp [List.lookup], fun v hv => ⟨.ref D, ?_, _, KX _ _ hcell, rfl⟩⟩
        have : v = .ref D := by
          have q : some (some (V.ref D)) = some (some v) := hv
          exact (Option.some.inj (Option.some.inj q)).symm
        subst this
        rfl
      | succ i => cases z
  have I := NdefX.inv_startN (CX := CX0) (P := P) (w := w) (N := N) (F := nfS name qual params (supSt e es p0 p1 p2 p3 p4 :: rest) scope cc c) (f := f) (E := E) (tk := s.toks + (ps.zip us).length) S hr.hd e0 hl r cells hns kp
  have σ0 : (NdefX.startF N vs [some (.ref D)])[0]? = some (some (.ref a)) := by rw [ev]; rfl
  have eL : (NdefX.ncx CX0 P w K mg base N (nfS name qual params (supSt e es p0 p1 p2 p3 p4 :: rest) scope cc c) f A outer s H E).env.cells.lookup ("__class__" : Str) = some cc := by
    show List.lookup ("__class__" : Str) [(("__class__" : Str), cc)] = some cc
    simp [List.lookup]
  let X := NdefX.ncx CX0 P w K mg base N (nfS name qual params (supSt e es p0 p1 p2 p3 p4 :: rest) scope cc c) f A outer s H E
  have fin : ∀ {σ' : L2.St} {H' : Hp} {v : V} {u : Value} {s' : Shared}, Inv X [] σ' H' s' → L2.RelV v u → Q v H' → CE outer P w H s Q u s' :=
    fun {σ' H' v u s'} J rv q => ⟨v, H', J.os, J.bare, J.base, J.hok, rv, q⟩
  have tail : ∀ {H1 : Hp} {s1 : Shared}, Inv X [] (NdefX.startF N vs [some (.ref D)]) H1 s1 → t { nx := fun _ H' => Q .non H', rt := Q } (NdefX.startF N vs [some (.ref D)]) H1 →
      _root_.PySem.wpAt (model P w) X.A (.func (supSt e es p0 p1 p2 p3 p4 :: rest) X.env) (execs rest X.env) (fun f s' => CR CX0 outer P w H s Q E (.ok (.ret (match f with | .ret v => v | _ => .none))) s')
        (fun e s' => wpAny (model P w) X.A (leaving X.env e) (fun _ s'' => CR CX0 outer P w H s Q E (.error e) s'') (fun e' s'' => CR CX0 outer P w H s Q E (.error e') s'') s') s1 := fun {H1 s1} J q => by
    refine wpAt_of_wpAny (wpAny_mono (pr.run [] s1 _ H1 _ J q) (fun fl s' hs => ?_) fun e s' hs => hs)
    cases fl with
    | ret u =>
      obtain ⟨v, σ', H', J, rv, q⟩ := hs
      exact fin J rv q
    | next =>
      obtain ⟨σ', H', J, q⟩ := hs
      exact fin (v := V.non) (u := Value.none) J rfl q
    | brk =>
      obtain ⟨_, _, _, q⟩ := hs
      exact False.elim q
    | cont =>
      obtain ⟨_, _, _, q⟩ := hs
      exact False.elim q
  refine ks_wpAt_execs_cons (ks_wpAt_Expr_any ?_ (by show interactive X.env = false; exact I.quiet) (by rfl))
  refine ks_wpAt_MethodCall ?_ (hev _)
  cases nx with
  | @user g fdg psg spg kg SC tg fg G hrg b q =>
    refine sup_base (X := X) F T SC lk hp rfl rfl eL kS kC kA nA σ0 I ea fun s1 I1 => ?_
    refine sup_meth (X := X) F SC tg I1 ea fun s2 I2 hbn => ?_
    refine ClX.callwith_cm (X := X) I2 hbn fg (thn (pa.run p3 _ s2 _ H _ I2 q) fun us' s3 ⟨ws, H3, I3, r3, e3, q3⟩ => ⟨⟨ClX.pin_at I3, I3.kIn⟩, ?_⟩) (hst _) (hpl _)
    have r4 : Vals (V.ref a :: ws) (Value.ref a :: us') := .cons rfl r3
    have hl4 : (Value.ref a :: us').length = psg.length := by rw [← Paired.length r4]; exact G.len _ _ _ _ q3
    have hb4 := b s3 (Value.ref a :: us') I3.kIn (by rw [List.append_nil]; exact hl4)
    rw [List.append_nil] at hb4
    refine wpAny_call (PySem.W.method_call (ClX.pin_at I3) (codeAny_mono (G.run X.A X.stack s3 H3 ⟨Value.ref a :: us', []⟩ (Value.ref a :: us') (V.ref a :: ws) _ E0 hrg I3.env0 hb4 r4 q3) fun r s4 h4 => ?_))
    cases r with
    | error er => exact h4.elim
    | ok fl =>
      cases fl with
      | ret u =>
        obtain ⟨v, H4, I4, _, q4⟩ := I3.after h4
        exact tail (ClX.unpin I4) q4
      | next => exact False.elim h4
      | brk => exact False.elim h4
      | cont => exact False.elim h4
  | base SC sB q =>
    refine sup_base (X := X) F T SC lk hp rfl rfl eL kS kC kA nA σ0 I ea fun s1 I1 => ?_
    refine sup_methB (X := X) F SC sB I1 ea fun s2 I2 => ?_
    have hh : wpAny (model P w) X.A (callWith p3 (.ref s1.heap.objs.size) [] (backTo p3 (starEach (e :: es) X.env)) []) (fun v s' => _root_.PySem.wpAt (model P w) X.A (.func (supSt e es p0 p1 p2 p3 p4 :: rest) X.env) (execs rest X.env) (fun f s' => CR CX0 outer P w H s Q E (.ok (.ret (match f with | .ret v => v | _ => .none))) s')
        (fun e s' => wpAny (model P w) X.A (leaving X.env e) (fun _ s'' => CR CX0 outer P w H s Q E (.error e) s'') (fun e' s'' => CR CX0 outer P w H s Q E (.error e') s'') s') s') X.xe s2 := by
      rw [hst]
      refine PySem.W.kxs_callWith (i := "ValueError.__init__") (x := a) (by show (false || (backTo p3 (starEach es X.env)).any (·.1)) = false; rw [hpl]; rfl) ?_
      refine PySem.Calls.evalArgs_plain ?_
      have q1 := pa.run p3 _ s2 _ H _ I2 q
      rw [hst] at q1
      refine thn q1 fun us' s3 ⟨ws, H3, I3, r3, hlw, e3, q3⟩ => ⟨ClX.pin_at I3, ?_⟩
      have hlu : us'.length ≤ sizeLine := by rw [← Paired.length r3, sizeLine_eq]; omega
      refine mw_call (X := X) (us := us') T I3 e3 hlu fun s' I' => ?_
      exact tail I' q3
    exact hh
end Fk
namespace Fk
open PySem PySem.Spec PyProof.Rows L2
open PySem.HandSPX
/-! ### a comprehension whose element may raise -/
section
variable {M : Model} {A : Around} {E : Value → Shared → Prop} {s : Shared} {Z : Obj → Prop} {base : Heap} {env : Env} {outer l : List Env} {L e : Addr}
theorem looks_otherZ {fl : Value} {Q : Unit → Shared → Prop} (hZ : Steady Z) (hfr : A.frames = some (env :: outer)) (hf : env.frame = some L) (hkb : base.StaysIn s.heap) (hen : base.get? e = none) (hl : s.heap.FunFrames base (env :: outer)) (ht : TracedZ s.heap base e Z fl) (hne : (fl == rawInt L) = false)
    (hQ : ∀ h', HeldZ base (env :: outer) e Z L h' → s.heap.UpToSlots h' → Q () { s with heap := h' }) : wpAny M A (noteFrame (.ref e) env) Q E s := by
  obtain ⟨oe, vs, T, oT, ts, he, hz, hd, h1, hnT, hTe, hT, hdT, h3⟩ := ht
  unfold noteFrame
  simp only [hf]
  refine wpAny_bind (wpAny_field he hd h1 ?_)
  rw [if_pos (show (Value.ref T != Value.none) = true from by simp)]
  refine wpAny_bind (wpAny_field hT hdT h3 ?_)
  rw [if_neg (show ¬ ((fl == rawInt L) = true) from by rw [hne]; decide)]
  refine wpAny_bind (wpAny_setField hT hdT (Array.getElem?_eq_some_iff.mp h3).1 ?_)
  have other : ∀ b, b ≠ T → (s.heap.update T (Obj.mapFields (·.setIfInBounds 3 Value.none))).get? b = s.heap.get? b := fun b hb => Heap.get?_update_other _ _ (Ne.symm hb)
  have noRecord : ∀ b o, s.heap.get? b = some o → (∀ vs, o.data ≠ .fields vs) → b ≠ T := fun b o hb hnf q => by
    rw [q, hT] at hb; injection hb with hb; subst hb; exact hnf ts hdT
  refine wpAny_entryZ hZ hfr (hl.of_keeps fun b o hb hnf => ⟨o, (other b (noRecord b o hb hnf)).trans hb, rfl⟩) hf ((other e (Ne.symm hTe)).trans he)
    (fun b o hbo => (other b fun q => by rw [q, hnT] at hbo; cases hbo).trans (hkb b o hbo)) hen hd (Array.getElem?_eq_some_iff.mp h1).1 hz fun h' hN => ?_
  obtain ⟨x1, x2, x3, x4⟩ := hN
  exact hQ h' ⟨x1, hen, x2, x3⟩ fun b o hb hnf => x4 b o ((other b (noRecord b o hb hnf)).trans hb) hnf
theorem tracedZ_sub {base B' h : Heap} {fl : Value} (sub : ∀ b o, B'.get? b = some o → base.get? b = some o) (ht : TracedZ h base e Z fl) : TracedZ h B' e Z fl := by
  obtain ⟨oe, vs, T, oT, ts, he, hz, hd, h1, hnT, r⟩ := ht
  refine ⟨oe, vs, T, oT, ts, he, hz, hd, h1, ?_, r⟩
  cases q : B'.get? T with
  | none => rfl
  | some o => rw [sub _ _ q] at hnT; cases hnT
theorem sub_none {base B' : Heap} (sub : ∀ b o, B'.get? b = some o → base.get? b = some o) {b : Addr} (n : base.get? b = none) : B'.get? b = none := by
  cases q : B'.get? b with
  | none => rfl
  | some o => rw [sub _ _ q] at n; cases n
theorem frames_sub {base B' h : Heap} (sub : ∀ b o, B'.get? b = some o → base.get? b = some o) {l : List Env} (hl : h.FunFrames base l) : h.FunFrames B' l :=
  funFrames_none hl fun _ hb => sub_none sub (hl.mem hb).1
theorem sky_sub {base B' h : Heap} {l : List Env} {a L : Addr} (sub : ∀ b o, B'.get? b = some o → base.get? b = some o) (x : Sky base l a Z L h) : Sky B' l a Z L h := by
  have st : base.StaysIn h → B'.StaysIn h := fun k b o q => k b o (sub b o q)
  rcases x with ⟨hB, hn, hl, r⟩ | ⟨hB, hn, hl, ht⟩ | ⟨hB, hn, hl, ht⟩
  · exact .inl ⟨st hB, sub_none sub hn, frames_sub sub hl, r⟩
  · exact .inr (.inl ⟨st hB, sub_none sub hn, frames_sub sub hl, tracedZ_sub sub ht⟩)
  · exact .inr (.inr ⟨st hB, sub_none sub hn, frames_sub sub hl, tracedZ_sub sub ht⟩)
/-- noted in the frame L0, from a block whose names stand at C -/
theorem sky_note {a C L0 : Addr} {Q : Unit → Shared → Prop} (hZ : Steady Z) (hfr : A.frames = some (env :: outer)) (hf : env.frame = some L0) (ne : C ≠ L0) (x : Sky base (env :: outer) a Z C s.heap)
    (hQ : ∀ h', HeldZ base (env :: outer) a Z L0 h' → s.heap.UpToSlots h' → Q () { s with heap := h' }) : wpAny M A (noteFrame (.ref a) env) Q E s := by
  rcases x with ⟨hB, hn, hl, oe, vs, he, hz, hd, h1⟩ | ⟨hB, hn, hl, ht⟩ | ⟨hB, hn, hl, ht⟩
  · exact look_newZ hZ hfr hl hf he hB hn hd h1 hz hQ
  · exact looks_onZ hZ hfr hf ⟨hB, hn, hl, ht⟩ hQ
  · refine looks_otherZ hZ hfr hf hB hn hl ht ?_ hQ
    simp [rawInt]
    exact fun h => ne (Int.ofNat_inj.mp h)
theorem compFails_heldZ {C a : Addr} {m : Str → Option Value} {cenv : Env} (hC : cenv.locals = C) (hf : cenv.frame = some L) (hbC : base.get? C = none) (hn : s.heap.Ns C m) (hh : HeldZ base l a Z L s.heap)
    (hQ : ∀ h', HeldZ base l a Z L h' → (∀ b o, s.heap.get? b = some o → b ≠ C → (∀ vs, o.data ≠ .fields vs) → ∃ sl, h'.get? b = some { o with slots := sl }) → E (.ref a) { s with heap := h' }) : CompFails M A E cenv (.ref a) s := by
  subst hC
  refine ⟨m, hn, fun h₂ m₂ hn₂ hs₂ => ?_⟩
  obtain ⟨b1, b0, f1, oe, vs, T, oT, ts, he, hz, hd, h1, hnT, hTe, hT, hdT, h3⟩ := hh
  obtain ⟨oL, es, ep, hoL, hdL, _⟩ := id hn
  have ha : a ≠ cenv.locals := fun z => by rw [z, hoL] at he; cases he; rw [hdL] at hd; cases hd
  have hT' : T ≠ cenv.locals := fun z => by rw [z, hoL] at hT; cases hT; rw [hdL] at hdT; cases hdT
  have b2 : base.StaysIn h₂ := fun b o hb => (hs₂.2 b fun q => by rw [q, hbC] at hb; cases hb).trans (b1 b o hb)
  have f2 : h₂.FunFrames base l := Heap.FunFrames.sameBut hs₂ hn₂ f1
  have H2 : HeldZ base l a Z L h₂ := ⟨b2, b0, f2, oe, vs, T, oT, ts, (hs₂.2 a ha).trans he, hz, hd, h1, hnT, hTe, (hs₂.2 T hT').trans hT, hdT, h3⟩
  unfold PySem.passOn
  refine wpAny_bind (wpAny_field (s := { s with heap := h₂ }) ((hs₂.2 a ha).trans he) hd h1 ?_)
  rw [if_neg (show ¬ ((Value.ref T == Value.none) = true) from by simp)]
  rw [hf]
  refine wpAny_bind (setFlight_onZ (s := { s with heap := h₂ }) H2 fun h₃ hh₃ up => wpAny_throw ?_)
  exact hQ h₃ hh₃ fun b o hb hbL hnf => up b o ((hs₂.2 b hbL).trans hb) hnf
end
/-- the block's context, with a wish of what leaves it -/
abbrev blkE (X : Cx) (s : Shared) (H : Hp) (scope : Scope) (cenv : Env) (fp : List Addr) (E : Value → Shared → Prop) : Cx := { X.blk s H scope cenv fp with xe := E }
theorem blk_wish {X : Cx} {s : Shared} {H : Hp} {scope : Scope} {cenv : Env} {fp : List Addr} {E : Value → Shared → Prop} {pins : List (Addr × Obj)} {σ : L2.St} {H' : Hp} {s' : Shared} (I : Inv (X.blk s H scope cenv fp) pins σ H' s') : Inv (blkE X s H scope cenv fp E) pins σ H' s' := I.wish E
theorem blk_unwish {X : Cx} {s : Shared} {H : Hp} {scope : Scope} {cenv : Env} {fp : List Addr} {E : Value → Shared → Prop} {pins : List (Addr × Obj)} {σ : L2.St} {H' : Hp} {s' : Shared} (I : Inv (blkE X s H scope cenv fp E) pins σ H' s') : Inv (X.blk s H scope cenv fp) pins σ H' s' := Inv.unwish (X := X.blk s H scope cenv fp) I
section
variable {X : Cx} {pins : List (Addr × Obj)} {σ : L2.St} {H H3 : Hp} {s3 : Shared}
/-- an exception in the block's air reaches the def's -/
theorem blk_takes {W : XK} {scope : Scope} {ce : Env} {fp : List Addr} (hst : X.stack = X.env :: X.outer) (hfr : X.env.frame = some X.env.locals) (tk : Takes X (fun cls d _ H => W cls d H))
    (I3 : Inv X pins σ H3 s3) (f3 : ∀ b ∈ fp, FpOk X pins H3 b) (cL : ce.locals = s3.heap.objs.size) (cF : ce.frame = X.env.frame) :
    Takes (blkE X s3 H3 scope ce fp (notedBy (model X.prog X.w) X.A ce (CompFails (model X.prog X.w) X.A X.xe ce))) (fun cls d _ H => W cls d H) := by
  rintro u s' ⟨a, B, sI, pins', σB, H', cls, d, rfl, J0, nb, up, sky, na, os, ag, w⟩
  have J := blk_unwish J0
  obtain ⟨C, hC⟩ : ∃ C, C = s3.heap.objs.size := ⟨_, rfl⟩
  rw [← hC] at cL
  have sky : Sky B (X.env :: X.outer) a (Zc cls d) ce.locals s'.heap := by rw [← hst]; exact sky
  rw [cL] at sky
  have frames : X.A.frames = some (X.env :: X.outer) := by rw [I3.ok.frames, hst]
  have neC : ∀ b o, s3.heap.get? b = some o → b ≠ C := fun b o e => by rw [hC]; exact Nat.ne_of_lt (Heap.lt_size e)
  have nCL : C ≠ X.env.locals := by rw [hC]; exact Nat.ne_of_gt I3.lt
  obtain ⟨B', g1, g2⟩ := restrict B fun b => decide (b ≠ C)
  have gk : ∀ b, b ≠ C → B'.get? b = B.get? b := fun b hb => g1 b (decide_eq_true hb)
  have gC : B'.get? C = none := g2 C (by simp)
  have sub : ∀ b o, B'.get? b = some o → B.get? b = some o := fun b o q => by
    by_cases hb : b = C
    · rw [hb, gC] at q; cases q
    · rw [← gk b hb]; exact q
  obtain ⟨G, k1, k2⟩ := restrict sI.heap fun b => decide (b ≠ C)
  have hk : ∀ b, b ≠ C → G.get? b = sI.heap.get? b := fun b hb => k1 b (decide_eq_true hb)
  have hkC : G.get? C = none := k2 C (by simp)
  have hsub : ∀ b o, G.get? b = some o → sI.heap.get? b = some o ∧ b ≠ C := fun b o q => by
    by_cases hb : b = C
    · rw [hb, hkC] at q; cases q
    · exact ⟨by rw [← hk b hb]; exact q, hb⟩
  obtain ⟨m, hn0, _⟩ := J.loc
  have hn0 : sI.heap.Ns ce.locals m := hn0
  rw [cL] at hn0
  have fC : H' C = none := by
    have z : H' ce.locals = none := J.free
    rw [cL] at z
    exact z
  show wpAny _ _ (noteFrame (.ref a) ce) _ _ _
  rw [noteFrame_env _ cF]
  refine sky_note Zc.steady frames hfr nCL (sky_sub sub sky) fun h1 hh1 up1 => ?_
  have hn1 : h1.Ns C m := hn0.upToSlots fun b o e hnf => (up.trans up1) b o e hnf
  refine compFails_heldZ (s := { s' with heap := h1 }) cL (cF.trans hfr) gC hn1 hh1 fun h3 hh3 up3 => tk _ _ ?_
  refine ⟨a, B', { sI with heap := G }, pins, σ, H', cls, d, rfl, ?_, fun b o q hb => ?_, fun b o q hnf => ?_, .inr (.inr (by rw [hst]; exact hh3)), na, os, ag, w⟩
  · have J1 : Un (frs X.stack) fp H3 H' s3.heap sI.heap := J.base
    have hok : HOk X.prog X.w H' G := fun b o z => by
      have hb : b ≠ C := fun e => by rw [e, fC] at z; cases z
      refine (J.hok b o z).stay (fun c v hc y => ?_) (fun _ q => q) fun _ _ q => q
      have hc' : c ≠ C := by
        rcases hc with hc | hc
        · rw [hc]; exact hb
        · exact fun e => by rw [e, fC] at hc; cases hc
      rw [hk c hc']
      exact y
    have U : Un (frs X.stack) fp H3 H' s3.heap G :=
      ⟨fun b o q n h1 h2 => by rw [hk b (neC b o q)]; exact J1.keep b o q n h1 h2, fun b o q n h1 h2 => by rw [hk b (neC b o q)]; exact J1.slot b o q n h1 h2, J1.free,
        fun b o q h1 => by rw [hk b (neC b o q)]; exact J1.there b o q h1, J1.tups, J1.frzs, J1.tbls⟩
    exact I3.call' (s' := { sI with heap := G }) (ch := fp) J.os U hok J.bare fun b hb => ⟨(f3 b hb).2.2.2.1, (f3 b hb).2.1, (f3 b hb).2.2.2.2.1, (f3 b hb).2.2.2.2.2⟩
  · obtain ⟨q1, q2⟩ := hsub b o q
    rw [gk b q2]
    exact nb b o q1 hb
  · obtain ⟨q1, q2⟩ := hsub b o q
    obtain ⟨sl, e1⟩ := (up.trans up1) b o q1 hnf
    obtain ⟨sl2, e2⟩ := up3 b { o with slots := sl } e1 q2 hnf
    exact ⟨sl2, e2⟩
end
section
variable {X : Cx}
theorem lc_coreX {W : XK} {pins : List (Addr × Obj)} {s : Shared} {σ : L2.St} {H : Hp} {Q : VK} {elt tg iter : Expr} {ifs : List Expr} {scope : Scope} {own : List (Str × Nat)} {pos pos' : Pos} {wi : TI} {g : TG} {tt : TT} {te : TE} {use : Option (Value → Sem Unit)} {Qf : Value → Shared → Prop}
    (hst : X.stack = X.env :: X.outer) (hfr : X.env.frame = some X.env.locals) (tk : Takes X (fun cls d _ H => W cls d H))
    (hc : X.calm = true) (hN : X.N.Nodup) (I : Inv X pins σ H s) (hi : PI X tg iter wi) (ok : BlkOk X.N X.env.scope scope own)
    (hg : ∀ (s : Shared) (H : Hp) (C : Addr) (cl : List (Str × Addr)) (fp : List Addr) (E : Value → Shared → Prop), PG (blkE X s H scope (compEnvC scope cl C X.env) fp E) tg g) (ht : ∀ (s : Shared) (H : Hp) (C : Addr) (cl : List (Str × Addr)) (fp : List Addr) (E : Value → Shared → Prop), PTs (blkE X s H scope (compEnvC scope cl C X.env) fp E) ifs tt)
    (he : ∀ (s : Shared) (H : Hp) (C : Addr) (cl : List (Str × Addr)) (fp : List Addr) (E : Value → Shared → Prop), Takes (blkE X s H scope (compEnvC scope cl C X.env) fp E) (fun cls d _ H => W cls d H) → PE (blkE X s H scope (compEnvC scope cl C X.env) fp E) elt te) (hs : ∀ x, foldedSetIterable iter X.env x = pure x)
    (h : tLc wi g tt te (own.map (·.2)) σ H Q)
    (hRR : ∀ D ce s' m H', Inv X pins σ H' s' → Q (.ref D) H' → s'.heap.Ns ce.locals m → FpOk X pins H' ce.locals → compEnds (model X.prog X.w) X.A X.xe use Qf (.ref D) ce (.ok .next) s') :
    wpAny (model X.prog X.w) X.A (comprehension (.ListComp elt [⟨tg, iter, ifs, 0⟩] scope pos) scope X.env pos' (newList []) false (eval iter X.env) use) Qf X.xe s := by
  have hfree : ∀ y ∈ scope.names, y.2 = .free → ∃ c, X.env.cells.lookup y.1 = some c := fun y hy e => by
    rcases ok.free y hy e with k | k
    · exact I.ok.has _ (.inl k)
    · exact I.ok.has _ (.inr k)
  refine comprehension_at (use := use) rfl hs (closure_ok hfree) ok.kind (fun y hy e => by rw [ok.uniq y hy, e])
    (thn (hi.run pins s σ H _ I h) fun xv s1 hx => thn hx fun itv s2 h2 => ?_)
  obtain ⟨it, fp, tn, J, H2, e, I2, T, st2, f2, q⟩ := h2
  subst e
  refine wpAny_newObj_type (newEnv_comp ?_) (by show 0 ≤ sizeLine; decide)
  generalize hD : s2.heap.objs.size = D
  have hDn : H2 D = none := I2.hok.fresh (Nat.le_of_eq hD)
  obtain ⟨W', ⟨m0, w0⟩, turn⟩ := q D hDn
  generalize hs3 : ({ s2 with heap := s2.heap.push { cls := .type "list", data := .seq ([] : List Value).toArray } } : Shared) = s3
  have I3 : Inv X pins σ (upd H2 D (.lst [])) s3 := by
    rw [← hs3]
    refine I2.laid (t' := s2.toks) (fun b o e => Heap.get?_push_of_some _ e) (Nat.le_of_eq hD) ⟨Nat.zero_le _, [], 0, .nil, ?_⟩
    rw [← hD]
    exact Heap.get?_push_size _ rfl
  have h3 : s3.heap = s2.heap.push { cls := .type "list", data := .seq ([] : List Value).toArray } := by rw [← hs3]
  have sz : ∀ b ∈ fp, b < s2.heap.objs.size := fun b hb => by
    obtain ⟨o, e, _⟩ := T.obj _ _ st2 b hb
    exact Heap.lt_size e
  have f3 : ∀ b ∈ fp, FpOk X pins (upd H2 D (.lst [])) b ∧ b < s3.heap.objs.size := fun b hb => by
    have hlt := sz b hb
    refine ⟨⟨?_, (f2 b hb).2⟩, by rw [h3, Heap.size_push]; exact Nat.lt_succ_of_lt hlt⟩
    rw [upd_ne (by rw [← hD]; exact Nat.ne_of_lt hlt)]
    exact (f2 b hb).1
  have st3 : tn 0 s3.heap := T.keep _ _ _ st2 fun b _ o e => by rw [h3]; exact Heap.get?_push_of_some _ e
  have I4 := block_start I3 ok hN f3
  have pg := hg s3 (upd H2 D (.lst [])) s3.heap.objs.size (cellsFrom (s3.heap.objs.size + 1) scope.names (cloFrom X.env.cells scope.names [])) fp
  have pt := ht s3 (upd H2 D (.lst [])) s3.heap.objs.size (cellsFrom (s3.heap.objs.size + 1) scope.names (cloFrom X.env.cells scope.names [])) fp
  have pe := he s3 (upd H2 D (.lst [])) s3.heap.objs.size (cellsFrom (s3.heap.objs.size + 1) scope.names (cloFrom X.env.cells scope.names [])) fp
  show codeAny _ _ (.compStart (.ListComp elt [⟨tg, iter, ifs, 0⟩] scope pos) 0 (.ref it) (.ref D) (compEnvC scope (cellsFrom (s3.heap.objs.size + 1) scope.names (cloFrom X.env.cells scope.names [])) s3.heap.objs.size X.env))
    (compEnds (model X.prog X.w) X.A X.xe use Qf (.ref D) (compEnvC scope (cellsFrom (s3.heap.objs.size + 1) scope.names (cloFrom X.env.cells scope.names [])) s3.heap.objs.size X.env)) { s3 with heap := pushCells (s3.heap.push { cls := .type "dict", data := .dict #[] }) scope.names }
  have nfp : ∀ b ∈ fp, (upd H2 D (.lst [])) b = none := fun b hb => (f3 b hb).1.1
  generalize hce : compEnvC scope (cellsFrom (s3.heap.objs.size + 1) scope.names (cloFrom X.env.cells scope.names [])) s3.heap.objs.size X.env = ce at I4 pg pt pe ⊢
  have cL : ce.locals = s3.heap.objs.size := by subst hce; rfl
  have cF : ce.frame = X.env.frame := by subst hce; rfl
  generalize hH3 : upd H2 D (.lst []) = H3 at I3 I4 pg pt pe w0 nfp f3
  have TK := blk_takes (scope := scope) (ce := ce) (fp := fp) hst hfr tk I3 (fun b hb => (f3 b hb).1) cL cF
  generalize hEB : notedBy (model X.prog X.w) X.A ce (CompFails (model X.prog X.w) X.A X.xe ce) = EB at TK
  have pg := pg EB
  have pt := pt EB
  have pe := pe EB TK
  generalize hs4 : ({ s3 with heap := pushCells (s3.heap.push { cls := .type "dict", data := .dict #[] }) scope.names } : Shared) = s4 at I4 ⊢
  have st4 : tn 0 s4.heap := T.keep _ _ _ st3 fun b _ o e => by rw [← hs4]; exact pushCells_keeps _ _ _ _ (Heap.get?_push_of_some _ e)
  have I4 : Inv (blkE X s3 H3 scope ce fp EB) [] (wipe σ (own.map (·.2))) H3 s4 := blk_wish I4
  have stat : ∀ {σ' : L2.St} {H' : Hp} {s' : Shared}, Inv (blkE X s3 H3 scope ce fp EB) [] σ' H' s' → (∀ b ∈ fp, H' b = none) → ∀ b ∈ fp, FpOk (blkE X s3 H3 scope ce fp EB) [] H' b := fun {σ' H' s'} I' hn b hb =>
    ⟨hn b hb, (I'.ok.exf b hb).1, I'.ok.exfs b hb, .inl hb, fun x c e => (I'.ok.exf b hb).2 x c e, fun p hp => absurd (show p ∈ ([] : List (Addr × Obj)) ++ [] from hp) (by simp)⟩
  have hEB' : notedBy (model X.prog X.w) X.A ce (fun e s' => compEnds (model X.prog X.w) X.A X.xe use Qf (.ref D) ce (.error e) s') = EB := by
    rw [← hEB]
    have : (fun e s' => compEnds (model X.prog X.w) X.A X.xe use Qf (.ref D) ce (.error e) s') = CompFails (model X.prog X.w) X.A X.xe ce := by
      funext e s'
      cases use <;> rfl
    rw [this]
  have loop : codeAny (model X.prog X.w) X.A (.compLoop (.ListComp elt [⟨tg, iter, ifs, 0⟩] scope pos) 0 (.ref it) (.ref D) ce) (compEnds (model X.prog X.w) X.A X.xe use Qf (.ref D) ce) s4 := by
    refine compLoop_any (fun n s' => ∃ i H', Inv (blkE X s3 H3 scope ce fp EB) [] (wipe σ (own.map (·.2))) H' s' ∧ tn i s'.heap ∧ (∀ b ∈ fp, H' b = none) ∧ W' i n H') ?_ m0 ⟨0, H3, I4, st4, nfp, w0⟩
    rintro n s5 ⟨i, H5, I5, st5, n5, w5⟩
    rw [hEB']
    rcases turn i n H5 w5 with ⟨stop, qq⟩ | ⟨go, Nx, hNx, step⟩
    · have td := T.done (blkE X s3 H3 scope ce fp EB) rfl rfl rfl hc i [] s5 _ H5 (fun _ _ => False) I5 (stat I5 n5) st5 stop
      refine thnF td fun r s6 ⟨hr, I6⟩ => ?_
      subst hr
      have I6 := blk_unwish I6
      have I7 : Inv X pins σ H5 s6 := I3.call' (ch := fp) I6.os I6.base I6.hok I6.bare fun b hb => ⟨(f3 b hb).1.2.2.2.1, (f3 b hb).1.2.1, (f3 b hb).1.2.2.2.2.1, (f3 b hb).1.2.2.2.2.2⟩
      have nC : H5 ce.locals = none := I6.free
      obtain ⟨m, hn, _⟩ := I6.loc
      have hn : s6.heap.Ns ce.locals m := hn
      exact hRR D ce s6 m H5 I7 qq hn (by rw [cL] at nC ⊢; exact I3.fpOk (Nat.le_refl _) nC)
    · have ti := T.item (blkE X s3 H3 scope ce fp EB) rfl rfl rfl hc i [] s5 _ H5 (fun _ _ => False) I5 (stat I5 n5) st5 go
      refine thnF ti fun r s6 ⟨u, hr, h6⟩ => ?_
      subst hr
      refine thnF h6 fun _ s7 ⟨x, H7, I7, r7, y7, st7, n7⟩ => ?_
      have I7' := I7.pinned (stat I7 n7) (T.obj _ _ st7)
      refine thn (pg.run _ s7 _ H7 x u _ I7' r7 (step x H7 y7)) fun _ s8 ⟨σ8, H8, I8, hw8, q8⟩ => ?_
      refine thn (pt.run _ s8 σ8 H8 _ I8 q8) fun b s9 ⟨H9, I9, q9⟩ => ?_
      have fin : ∀ {s' : Shared} {H' : Hp}, Inv (blkE X s3 H3 scope ce fp EB) ([] ++ pinsAt fp s7.heap) σ8 H' s' → Nx H' → ∃ m, m < n ∧ ∃ i H', Inv (blkE X s3 H3 scope ce fp EB) [] (wipe σ (own.map (·.2))) H' s' ∧ tn i s'.heap ∧ (∀ b ∈ fp, H' b = none) ∧ W' i m H' := fun {s' H'} I' nx => by
        obtain ⟨m', hm, w'⟩ := hNx H' nx
        have pin' : ∀ b ∈ fp, ∀ o, s7.heap.get? b = some o → s'.heap.get? b = some o ∧ H' b = none := fun b hb o e =>
          let z := I'.pin (b, o) (List.mem_append_right _ (List.mem_append_right _ (mem_pinsAt hb e)))
          ⟨z.1, z.2.1⟩
        have hl : (wipe σ (own.map (·.2))).length = σ8.length := by rw [← hw8, wipe_length]
        refine ⟨m', hm, i + 1, H', (I'.unpinned (pins := [])).weak hl (fun j v e => ?_), T.keep _ _ _ st7 fun b hb o e => (pin' b hb o e).1, fun b hb => ?_, w'⟩
        · rw [← hw8] at e
          exact (wipe_some e).1
        · obtain ⟨o, e, _⟩ := T.obj _ _ st7 b hb
          exact (pin' b hb o e).2
      cases b with
      | false =>
        simp only [Bool.false_eq_true, if_false] at q9 ⊢
        exact fin I9 q9
      | true =>
        simp only [if_true] at q9 ⊢
        refine thn (pe.run _ s9 σ8 H9 _ I9 q9) fun z s10 ⟨yv, H10, I10, r10, acc, hD10, hz10, nx⟩ => ?_
        exact app_ok (X := blkE X s3 H3 scope ce fp EB) I10 hD10 hz10 r10 fun s11 I11 => fin I11 nx
  exact codeAny_compStart_list loop (T.self X.A 0 _ _ _ st4 loop)
/-- as a value -/
theorem pe_lcX {W : XK} {elt tg iter : Expr} {ifs : List Expr} {scope : Scope} {own : List (Str × Nat)} {pos : Pos} {wi : TI} {g : TG} {tt : TT} {te : TE} (hst : X.stack = X.env :: X.outer) (hfr : X.env.frame = some X.env.locals) (tk : Takes X (fun cls d _ H => W cls d H))
    (hc : X.calm = true) (hN : X.N.Nodup) (hi : PI X tg iter wi) (ok : BlkOk X.N X.env.scope scope own)
    (hg : ∀ (s : Shared) (H : Hp) (C : Addr) (cl : List (Str × Addr)) (fp : List Addr) (E : Value → Shared → Prop), PG (blkE X s H scope (compEnvC scope cl C X.env) fp E) tg g) (ht : ∀ (s : Shared) (H : Hp) (C : Addr) (cl : List (Str × Addr)) (fp : List Addr) (E : Value → Shared → Prop), PTs (blkE X s H scope (compEnvC scope cl C X.env) fp E) ifs tt)
    (he : ∀ (s : Shared) (H : Hp) (C : Addr) (cl : List (Str × Addr)) (fp : List Addr) (E : Value → Shared → Prop), Takes (blkE X s H scope (compEnvC scope cl C X.env) fp E) (fun cls d _ H => W cls d H) → PE (blkE X s H scope (compEnvC scope cl C X.env) fp E) elt te) (hs : ∀ x, foldedSetIterable iter X.env x = pure x := by intro _; rfl) :
    PE X (.ListComp elt [⟨tg, iter, ifs, 0⟩] scope pos) (tLc wi g tt te (own.map (·.2))) := by
  refine ⟨fun pins s σ H Q I h => ?_⟩
  rw [eval_ListComp]
  refine lc_coreX hst hfr tk hc hN I hi ok hg ht he hs h fun D ce s' m H' I' q hn f => ⟨m, hn, fun h'' sb => ?_⟩
  obtain ⟨f0, f1, f2, f3, f4, f5⟩ := f
  exact ⟨.ref D, H', I'.turned (t' := s'.toks) (fun b o hb e => (sb.2 b hb).trans e) f0 f1 f3 f4 f5, rfl, q⟩
/-- name = [..] on one line, the name a local -/
theorem ps_setLcX {W : XK} {i : Nat} {y : Str} {py : Pos} {elt tg iter : Expr} {ifs : List Expr} {scope : Scope} {own : List (Str × Nat)} {pos spos : Pos} {wi : TI} {g : TG} {tt : TT} {te : TE} (hst : X.stack = X.env :: X.outer) (hfr : X.env.frame = some X.env.locals) (tk : Takes X (fun cls d _ H => W cls d H))
    (hc : X.calm = true) (hN : X.N.Nodup) (hy : X.N[i]? = some y) (hyl : X.env.scope.names.lookup y = some .local)
    (hsw : swapsWith (.ListComp elt [⟨tg, iter, ifs, 0⟩] scope pos) (some (.Name y py)) spos.line X.env = pure true) (hi : PI X tg iter wi) (ok : BlkOk X.N X.env.scope scope own)
    (hg : ∀ (s : Shared) (H : Hp) (C : Addr) (cl : List (Str × Addr)) (fp : List Addr) (E : Value → Shared → Prop), PG (blkE X s H scope (compEnvC scope cl C X.env) fp E) tg g) (ht : ∀ (s : Shared) (H : Hp) (C : Addr) (cl : List (Str × Addr)) (fp : List Addr) (E : Value → Shared → Prop), PTs (blkE X s H scope (compEnvC scope cl C X.env) fp E) ifs tt)
    (he : ∀ (s : Shared) (H : Hp) (C : Addr) (cl : List (Str × Addr)) (fp : List Addr) (E : Value → Shared → Prop), Takes (blkE X s H scope (compEnvC scope cl C X.env) fp E) (fun cls d _ H => W cls d H) → PE (blkE X s H scope (compEnvC scope cl C X.env) fp E) elt te) (hs : ∀ x, foldedSetIterable iter X.env x = pure x := by intro _; rfl) :
    PS X (.Assign [.Name y py] (.ListComp elt [⟨tg, iter, ifs, 0⟩] scope pos) spos) (tAsg (tLc wi g tt te (own.map (·.2))) (gName i)) := by
  refine ⟨fun pins s σ H D I h => ?_⟩
  rw [exec_Assign_Name_used _ _ _ _ hsw]
  refine wpAny_bind (wpAny_standAt (wpAny_bind ?_))
  show wpAny _ X.A (do let _ ← comprehension (.ListComp elt [⟨tg, iter, ifs, 0⟩] scope pos) scope X.env (firstIterPos [⟨tg, iter, ifs, 0⟩] pos) (newList []) false (eval iter X.env) (some (assign (.Name y py) X.env))) _ _ s
  have h : tLc wi g tt te (own.map (·.2)) σ H (fun x H1 => gName i x σ H1 D.nx) := h
  refine wpAny_bind (thn (lc_coreX (Qf := fun _ s' => SP X pins D .next s') hst hfr tk hc hN I hi ok hg ht he hs h fun L ce s' m H' I' q hn f => ?_) fun _ s' hq => wpAny_pure (wpAny_pure hq))
  show wpAny _ _ (assign (.Name y py) X.env (.ref L)) _ _ _
  refine wpAny_assign_Name (store_ok2 (v := V.ref L) I' hN hy (.inl hyl) rfl (fun s2 I2 ⟨a, sb, ha⟩ => ?_) (.inr hyl))
  obtain ⟨f0, f1, f2, f3, f4, f5⟩ := f
  have haC : ce.locals ≠ a := by
    rcases ha with z | z
    · rw [z]; exact f1
    · exact fun e => f4 y a z e.symm
  refine ⟨m, hn.sameBut sb haC, fun h3 sb3 => ?_⟩
  exact ⟨_, H', I2.turned (t' := s2.toks) (fun b o hb e => (sb3.2 b hb).trans e) f0 f1 f3 f4 f5, q⟩
end
end Fk
namespace Fk
open PySem PySem.Spec PyProof.Rows L2
open He (ga ma)
/-! ### defs by their names -/
structure Cal (P : Program) (w : World) (K : PySem.W.Frag) (mg : Str → Option Value) (base : Heap) (k : Nat) (x : Str) (sp : Sp) : Prop where
  ex : ∃ (f : Addr) (fd : FuncData) (ps : List Str), mg x = some (.ref f) ∧ PySem.W.keepIn K (.ref f) = true ∧ Binds K fd ps [] ∧ FnOk P w K mg base (L2.CX P w) k f fd ps sp
section
variable {X : Cx} {W : WX} {k : Nat} {x : Str} {sp : Sp} {e : Expr} {es : List Expr} {t : TA} {p pos : Pos}
theorem pe_cal (tk : Takes X W) (c : Cal X.prog X.w X.K X.mg X.base k x sp) (hr : Room k X.A) (ha : PA X (e :: es) t) (hg : Gl X x := by rfl) (hdb : (x == ("__debug__" : Str)) = false := by decide)
    (he : starEach (e :: es) X.env = (false, eval e X.env) :: starEach es X.env := by rfl) (hpl : (backTo pos (starEach es X.env)).any (·.1) = false := by rfl) : PE X (.Call (.Name x p) (e :: es) [] pos) (tCallS sp (WE W) t) := by
  obtain ⟨f, fd, ps, hm, hk, hb, F⟩ := c.ex
  exact pe_callS F hr hg hm hk hb (fun σ => passAt tk σ) ha hdb he hpl
theorem pe_cal0 (tk : Takes X W) (c : Cal X.prog X.w X.K X.mg X.base k x sp) (hr : Room k X.A) (hg : Gl X x := by rfl) (hdb : (x == ("__debug__" : Str)) = false := by decide) : PE X (.Call (.Name x p) [] [] pos) (tCallS sp (WE W) tNil) := by
  obtain ⟨f, fd, ps, hm, hk, hb, F⟩ := c.ex
  refine ⟨fun pins s σ H Q I h => ?_⟩
  refine wpAny_Call_Name_kw (ld_glob I hg hm ?_ hdb)
  exact PySem.W.callWith_K0 I.kIn hk (run_fnS (us := []) F hr hb (passAt tk σ) I .nil h)
end
theorem mkCal {P : Program} {w : World} {K : PySem.W.Frag} {mg : Str → Option Value} {base : Heap} {st : Stmt} {x : Str} {k : Nat} {N ps : List Str} {sp : Sp}
    (F : ∃ f fd, FunD K x x (defArgs st) (defBody st) (defScope st) [] [] f fd ∧ mg x = some (.ref f)) (S : FnScope N ps (defScope st))
    (hb : ∀ (kV doc pm : Value) (an : Option Addr) (cdv ct : Value) (us : List Value), us.length = ps.length → bindArgs (PySem.W.fnOf x x (defArgs st) (defBody st) (defScope st) .none kV doc pm an cdv ct) ⟨us, []⟩ = pure (ps.zip us))
    (len : ∀ vs H Q E, sp vs H Q E → vs.length = ps.length)
    (hbody : ∀ (f : Addr) (cdv : Value) (A : Around) (outer : List Env) (s : Shared) (H : Hp) (vs : List V) (Q : VK) (E : XK), Room k (A.deeper (envOfC x (defScope st) s.heap.objs.size f cdv)) → sp vs H Q E →
      ∃ t, PSs (cxOf (L2.CX P w) P w K mg base N x (defScope st) f cdv A outer s H E) (defBody st) t ∧ t { nx := fun _ H' => Q .non H', rt := Q } (start N vs) H) :
    Cal P w K mg base (k + 1) x sp := by
  obtain ⟨f, fd, F, g⟩ := F
  exact ⟨f, fd, ps, g, F.kp, F.bindsN hb, F.ok S len (hbody f)⟩
theorem Cal.imp {P : Program} {w : World} {K : PySem.W.Frag} {mg : Str → Option Value} {base : Heap} {k : Nat} {x : Str} {sp sp' : Sp} (c : Cal P w K mg base k x sp) (h : ∀ vs H Q E, sp' vs H Q E → sp vs H Q E) : Cal P w K mg base k x sp' := by
  obtain ⟨f, fd, ps, hm, hk, hb, F⟩ := c.ex
  exact ⟨f, fd, ps, hm, hk, hb, F.imp h⟩
theorem Cal.mono {P : Program} {w : World} {K : PySem.W.Frag} {mg : Str → Option Value} {base : Heap} {j k : Nat} {x : Str} {sp : Sp} (c : Cal P w K mg base j x sp) (h : j ≤ k) : Cal P w K mg base k x sp := by
  obtain ⟨f, fd, ps, hm, hk, hb, F⟩ := c.ex
  exact ⟨f, fd, ps, hm, hk, hb, F.mono h⟩
/-- a reading, closed upwards -/
def mclA (t : TA) : TA := fun σ H Q => ∃ Q0, t σ H Q0 ∧ ∀ vs H1, Q0 vs H1 → Q vs H1
theorem pa_mcl {X : Cx} {es : List Expr} {t : TA} (h : PA X es t) : PA X es (mclA t) := ⟨fun pos pins s σ H Q I ⟨Q0, h0, k⟩ => thn (h.run pos pins s σ H Q0 I h0) fun us s1 ⟨vs, H1, I1, r, q⟩ => ⟨vs, H1, I1, r, k _ _ q⟩⟩
/-! ### errors -/
structure ErrK (P : Program) (w : World) (K : PySem.W.Frag) (mg : Str → Option Value) (base : Heap) (x : Str) (k n : Nat) (mk : List V → List (Str × V)) : Prop where
  T : OexC K (ga K x)
  g : mg x = some (.ref (ga K x))
  iC : PySem.W.findIn K (.ref (ga K x)) "__init__" = some (some (.ref (ma K (ga K x) "__init__")))
  tI : PySem.W.typeIn K (.ref (ma K (ga K x) "__init__")) = some (.type "function")
  ex : ∃ (fd : FuncData) (ps : List Str) (sp : Sp), FnOk P w K mg base CX0 k (ma K (ga K x) "__init__") fd ps sp ∧ Binds K fd ps [] ∧
    ∀ (a : Addr) (us : List V) (H : Hp) (Q : VK), us.length = n → H a = some (exo a (ga K x) none) → (∀ d, H d = none → d ≠ a → Q .non (upd (upd H a (exo a (ga K x) (some d))) d (exd d (mk us)))) → sp (.ref a :: us) H Q (fun _ _ _ => False)
def tMkF (K : PySem.W.Frag) (x : Str) (n : Nat) (mk : List V → List (Str × V)) (ta : TA) : L2.St → Hp → XK → Prop := fun σ H Q => ta σ H fun vs H1 => vs.length = n ∧ ∀ d, H1 d = none → Q (.ref (ga K x)) (some d) (upd H1 d (.xd (mk vs)))
theorem pmk_fk {X : Cx} {x : Str} {k n : Nat} {mk : List V → List (Str × V)} {e : Expr} {es : List Expr} {ta : TA} {p pos : Pos} (c : ErrK X.prog X.w X.K X.mg X.base x k n mk) (hr : Room (k + 1) X.A) (ha : PA X (e :: es) ta) (hn : n ≤ 1000 := by decide)
    (hg : Gl X x := by rfl) (hdb : (x == ("__debug__" : Str)) = false := by decide) (he : starEach (e :: es) X.env = (false, eval e X.env) :: starEach es X.env := by rfl) (hpl : (backTo pos (starEach es X.env)).any (·.1) = false := by rfl) :
    PMk X (.Call (.Name x p) (e :: es) [] pos) (tMkF X.K x n mk ta) := by
  obtain ⟨fd, ps, sp, F, b, hsp⟩ := c.ex
  have base := pmk_oex (p := p) (CX := CX0) c.T c.iC c.tI F hr b .nil pass0 hg c.g (pa_mcl ha) hdb he hpl
  intro pins s σ H Q I h
  refine base pins s σ H Q I ⟨_, h, fun vs H1 q => ?_⟩
  obtain ⟨hl, q⟩ := q
  refine ⟨by omega, fun a na => ?_⟩
  rw [List.append_nil]
  refine hsp a vs _ _ hl upd_same fun d nd nda => ⟨rfl, d, mk vs, ?_, upd_same, ?_, ?_⟩
  · rw [upd_ne (Ne.symm nda), upd_same]
  · rw [upd_ne nda] at nd; exact nd
  · have nd' : H1 d = none := by rw [upd_ne nda] at nd; exact nd
    have e : upd (del (upd (upd (upd H1 a (exo a (ga X.K x) none)) a (exo a (ga X.K x) (some d))) d (exd d (mk vs))) a) d (.xd (mk vs)) = upd H1 d (.xd (mk vs)) := by
      funext b
      by_cases h1 : b = d
      · rw [h1, upd_same, upd_same]
      · rw [upd_ne h1, upd_ne h1]
        by_cases h2 : b = a
        · rw [h2, del_same, na]
        · rw [del_ne h2, upd_ne h1, upd_ne h2, upd_ne h2]
    rw [e]
    exact q d nd'
end Fk
namespace Fk
open PySem PySem.Spec PyProof.Rows L2
/-- a module's constant -/
theorem pe_gC {X : Cx} {x : Str} {v : V} {pos : Pos} (h : ∃ u, X.mg x = some u ∧ RelV v u) (hg : Gl X x := by rfl) (hd : (x == ("__debug__" : Str)) = false := by decide) : PE X (.Name x pos) (tC v) := by
  obtain ⟨u, hm, r⟩ := h
  exact pe_glob hg hm r hd
end Fk
namespace Fk
open PySem PySem.Spec PyProof.Rows L2
open He (ga ma)
/-! ### the __init__ of the error classes -/
structure FunS (P : Program) (K : PySem.W.Frag) (mg : Str → Option Value) (x qual : Str) (st : Stmt) : Prop where
  ex : ∃ (oc : Value) (od : Option Addr) (osl : Array (Option Value)) (doc pm ct : Value) (c cc : Addr),
    K.lookup (ma K (ga K x) "__init__") = some ⟨oc, od, .func (PySem.W.ksFn "__init__" qual (defArgs st) (defBody st) (defScope st) .none .none doc pm none (.ref c) ct cc), osl⟩ ∧ PySem.W.codeIn K (.ref c) qual = true ∧
    SupF P K mg (ma K (ga K x) "__init__") c cc (ga K x)
  fi : PySem.W.fnIn K (ma K (ga K x) "__init__") = true
  ty : PySem.W.typeIn K (.ref (ma K (ga K x) "__init__")) = some (.type "function")
/-- ForkError.__init__(self, reason), self of the class at C -/
structure ForkC (K : PySem.W.Frag) (C : Addr) : Prop where
  T : OexC K C
  S : SupC K C (ga K "ForkError") (.builtin "ValueError.__init__")
  sB : PySem.W.subIn K (.ref C) (.type "ValueError") = some true
  nr : PySem.W.findIn K (.ref C) "reason" = some none
def spFork (K : PySem.W.Frag) : Sp := fun vs H Q _ => ∃ (a C : Addr) (v : V), vs = [.ref a, v] ∧ ForkC K C ∧ H a = some (exo a C none) ∧ ∀ d, H d = none → d ≠ a → Q .non (upd (upd H d (exd d [("reason", v)])) a (exo a C (some d)))
theorem upd_comm {H : Hp} {a b : Addr} {o u : HO} (h : a ≠ b) : upd (upd H a o) b u = upd (upd H b u) a o := by
  funext c
  unfold upd
  by_cases h1 : c = b
  · rw [if_pos h1]
    by_cases h2 : c = a
    · exact absurd (h2.symm.trans h1) h
    · rw [if_neg h2, if_pos h1]
  · rw [if_neg h1]
    by_cases h2 : c = a
    · rw [if_pos h2, if_pos h2]
    · rw [if_neg h2, if_neg h2, if_neg h1]
end Fk
namespace Fk
open PySem PySem.Spec PyProof.Rows L2
open He (ga ma fAd frG asD dflB ba Fa frG_in)
/-! ### facts behind the top, as Bools -/
def oexB (K : PySem.W.Frag) (C : Addr) : Bool :=
  (match K.lookup C with
    | some ⟨.type c, _, .cls cd, sl⟩ => (match cd.mro, sl.toList with
      | .ref C' :: bm, [_, _, _, _, some (.builtin n), _] => decide (c = "type") && decide (C' = C) && decide (n = "ValueError.__new__") && (!cd.hasDel) && cd.hasDict && PySem.HandSPX.refsVE bm
      | _, _ => false)
    | _ => false) &&
  (decide (PySem.W.findIn K (.ref C) "__setattr__" = some (some (.builtin "object.__setattr__"))) && (decide (PySem.W.subIn K (.ref C) (.type "BaseException") = some true) && (decide (PySem.W.typeIn K (.ref C) = some (.type "type")) && PySem.W.keepIn K (.ref C))))
theorem oexB_ok {K : PySem.W.Frag} {C : Addr} (h : oexB K C = true) : OexC K C := by
  unfold oexB at h
  obtain ⟨h0, h⟩ := ba h
  obtain ⟨h1, h⟩ := ba h
  obtain ⟨h2, h⟩ := ba h
  obtain ⟨h3, h4⟩ := ba h
  refine ⟨?_, of_decide_eq_true h1, of_decide_eq_true h2, of_decide_eq_true h3, h4⟩
  split at h0
  · rename_i c dd cd sl ho
    split at h0
    · rename_i C' bm k0 k1 k2 k3 n k5 hm hs
      simp only [Bool.and_eq_true, decide_eq_true_eq, Bool.not_eq_true'] at h0
      obtain ⟨⟨⟨⟨⟨rfl, rfl⟩, rfl⟩, hdel⟩, hdict⟩, ht⟩ := h0
      obtain ⟨nm, bs, mro, ns, qn, hd, sn, sub, ab, col, del⟩ := cd
      dsimp only at hm hdel hdict
      subst hm hdel hdict
      have hsl : sl = #[k0, k1, k2, k3, some (.builtin "ValueError.__new__"), k5] := by
        obtain ⟨l⟩ := sl
        simp only at hs
        rw [hs]
      subst hsl
      exact ⟨nm, qn, ns, bs, bm, sn, sub, ab, col, dd, k0, k1, k2, k3, k5, ho, ht⟩
    · cases h0
  · cases h0
def supcB (K : PySem.W.Frag) (C D : Addr) (r : Value) : Bool := decide (PySem.W.mroIn K C (.ref D) = some true) && decide (PySem.W.ks_superIn K C D "__init__" = some (some r))
theorem supcB_ok {K : PySem.W.Frag} {C D : Addr} {r : Value} (h : supcB K C D r = true) : SupC K C D r := by
  obtain ⟨h1, h2⟩ := ba h
  exact ⟨of_decide_eq_true h1, of_decide_eq_true h2⟩
def forkB (K : PySem.W.Frag) (C : Addr) : Bool := oexB K C && (supcB K C (ga K "ForkError") (.builtin "ValueError.__init__") && (decide (PySem.W.subIn K (.ref C) (.type "ValueError") = some true) && decide (PySem.W.findIn K (.ref C) "reason" = some none)))
theorem forkB_ok {K : PySem.W.Frag} {C : Addr} (h : forkB K C = true) : ForkC K C := by
  obtain ⟨h1, h⟩ := ba h
  obtain ⟨h2, h⟩ := ba h
  obtain ⟨h3, h4⟩ := ba h
  exact ⟨oexB_ok h1, supcB_ok h2, of_decide_eq_true h3, of_decide_eq_true h4⟩
/-! ### functions: closures by their names -/
abbrev FnZ : Type := Option (Str × Str × Arguments × FuncBody × Scope × Addr × List Str × Addr)
def fnZ (K : PySem.W.Frag) (f : Addr) : FnZ := match K.lookup f with
  | some ⟨_, _, .func fd, _⟩ => some (fd.name, fd.qualname, fd.params, fd.body, fd.scope, fd.globals, fd.closure.map (·.1), fd.builtins)
  | _ => none
/-- one def: where it stands, its name, qualified name, its statement; sup: it closes over __class__ -/
structure DefZ where
  at_ : PySem.W.Frag → Addr
  name : Str
  qual : Str
  st : Stmt
  sup : Bool
def DefZ.val (d : DefZ) : FnZ := some (d.name, d.qual, defArgs d.st, .stmts (defBody d.st), defScope d.st, mainGlobals, (if d.sup then ["__class__"] else []), builtinsNs)
def plainF (K : PySem.W.Frag) (f : Addr) (qual : Str) : Bool := PySem.W.keepIn K (.ref f) && (match K.lookup f with
  | some ⟨_, _, .func fd, _⟩ => PySem.W.codeIn K fd.code qual && (decide (fd.defaults = .none) && decide (fd.kwdefaults = .none))
  | _ => false)
theorem plain_fun {K : PySem.W.Frag} {f : Addr} {d : DefZ} (hs : d.sup = false) (e : fnZ K f = d.val) (c : plainF K f d.qual = true) : ∃ fd, FunD K d.name d.qual (defArgs d.st) (defBody d.st) (defScope d.st) [] [] f fd := by
  obtain ⟨kp, c2⟩ := ba c
  unfold fnZ at e
  cases q : K.lookup f with
  | none => rw [q] at c2; cases c2
  | some o =>
    obtain ⟨oc, od, dt, osl⟩ := o
    rw [q] at c2 e
    cases dt with
    | func fd =>
      obtain ⟨n1, n2, n3, n4, n5, n6, n7, n8, n9, n10, n11, n12, n13, n14, n15⟩ := fd
      have e2 : (some (n1, n2, n3, n4, n5, n6, n7.map (·.1), n15) : FnZ) = (some (d.name, d.qual, defArgs d.st, FuncBody.stmts (defBody d.st), defScope d.st, mainGlobals, (if d.sup then ["__class__"] else []), builtinsNs) : FnZ) := e
      rw [hs] at e2
      simp only [Option.some.injEq, Prod.mk.injEq] at e2
      obtain ⟨h1, h2, h3, h4, h5, h6, h7, h8⟩ := e2
      have h7' : n7 = [] := by
        cases n7 with
        | nil => rfl
        | cons a r => cases h7
      subst h1 h2 h3 h4 h5 h6 h7' h8
      obtain ⟨k1, k2⟩ := ba (show (PySem.W.codeIn K n13 d.qual && (decide (n8 = .none) && decide (n9 = .none))) = true from c2)
      obtain ⟨k3, k4⟩ := ba k2
      exact ⟨_, ⟨oc, od, n8, n9, n10, n11, n12, n13, n14, osl, rfl, q, k1, .inl ⟨rfl, of_decide_eq_true k3⟩, .inl rfl⟩, kp⟩
    | _ => cases c2
/-- a method that says super(): its class by name -/
def supF (P : Program) (K : PySem.W.Frag) (f D : Addr) (qual : Str) : Bool :=
  PySem.W.fnIn K f && (decide (PySem.W.typeIn K (.ref f) = some (.type "function")) && ((match K.lookup f with
  | some ⟨_, _, .func fd, _⟩ => (match fd.closure, fd.code with
    | [(_, cc)], .ref c => PySem.W.codeIn K fd.code qual && (decide (fd.defaults = .none) && (decide (fd.kwdefaults = .none) && (decide (fd.annotations = none) &&
        ((match K.lookup cc with
          | some ⟨_, _, .cell (some (.ref D')), _⟩ => decide (D' = D)
          | _ => false) && (match K.lookup c with
          | some ⟨_, _, .fields vs, _⟩ => (match (vs[2]? : Option Value) with
            | some (Value.str file _) => ((P.main.file : Str) == file)
            | _ => false)
          | _ => false)))))
    | _, _ => false)
  | _ => false) && ((!(P.main.scope.names.lookup ("super" : Str)).isSome) && ((PySem.W.clsIn K D).isSome && decide (PySem.W.nsIn K cStatics "thirdparty.any" = some none)))))
theorem sup_fun {P : Program} {K : PySem.W.Frag} {mg : Str → Option Value} {x : Str} {d : DefZ} (hn : d.name = "__init__") (hs : d.sup = true) (e : fnZ K (ma K (ga K x) "__init__") = d.val) (c : supF P K (ma K (ga K x) "__init__") (ga K x) d.qual = true) (ms : mg "super" = none) : FunS P K mg x d.qual d.st := by
  obtain ⟨c1, c⟩ := ba c
  obtain ⟨c2, c⟩ := ba c
  obtain ⟨c3, c⟩ := ba c
  obtain ⟨c4, c⟩ := ba c
  obtain ⟨c5, c6⟩ := ba c
  refine ⟨?_, c1, of_decide_eq_true c2⟩
  unfold fnZ at e
  cases q : K.lookup (ma K (ga K x) "__init__") with
  | none => rw [q] at c3; cases c3
  | some o =>
    obtain ⟨oc, od, dt, osl⟩ := o
    rw [q] at c3 e
    cases dt with
    | func fd =>
      obtain ⟨n1, n2, n3, n4, n5, n6, n7, n8, n9, n10, n11, n12, n13, n14, n15⟩ := fd
      have e2 : (some (n1, n2, n3, n4, n5, n6, n7.map (·.1), n15) : FnZ) = (some (d.name, d.qual, defArgs d.st, FuncBody.stmts (defBody d.st), defScope d.st, mainGlobals, (if d.sup then ["__class__"] else []), builtinsNs) : FnZ) := e
      rw [hs, hn] at e2
      simp only [Option.some.injEq, Prod.mk.injEq] at e2
      obtain ⟨h1, h2, h3, h4, h5, h6, h7, h8⟩ := e2
      dsimp only at c3
      split at c3
      · rename_i nm cc cd
        have h7' : nm = "__class__" := by
          have z : [nm] = (["__class__"] : List Str) := by simpa using h7
          injection z
        subst h1 h2 h3 h4 h5 h6 h7' h8
        obtain ⟨a1, c3⟩ := ba c3
        obtain ⟨a2, c3⟩ := ba c3
        obtain ⟨a3, c3⟩ := ba c3
        obtain ⟨a4, c3⟩ := ba c3
        obtain ⟨a5, a6⟩ := ba c3
        have z2 := of_decide_eq_true a2
        have z3 := of_decide_eq_true a3
        have z4 := of_decide_eq_true a4
        subst z2 z3 z4
        refine ⟨oc, od, osl, n10, n11, n14, cd, cc, rfl, a1, ?_, ?_, ?_, ms, ?_, of_decide_eq_true c6⟩
        · split at a5
          · rename_i _ _ D' _ hcell
            have z := of_decide_eq_true a5
            subst z
            exact ⟨_, _, _, hcell⟩
          · cases a5
        · split at a6
          · rename_i cl0 cdd vs ccs hcode
            split at a6
            · rename_i file tf hf
              exact ⟨_, _, _, _, file, tf, hcode, hf, a6⟩
            · cases a6
          · cases a6
        · cases z : (P.main.scope.names.lookup ("super" : Str)).isSome with
          | false => rfl
          | true => rw [z] at c4; cases c4
        · exact Option.isSome_iff_exists.mp c5
      · cases c3
    | _ => cases c3
/-! ### the Hook -/
abbrev AlZ : Type := Bool × List FnZ
def frZ (n : Nat) (g : Addr → Option Obj) : PySem.W.Frag := frG g (asD g n ++ [cStatics])
def obsZ (fn : List DefZ) (ex : PySem.W.Frag → Bool) (K : PySem.W.Frag) : AlZ := (ex K, fn.map fun d => fnZ K (d.at_ K))
def valZ (fn : List DefZ) : AlZ := (true, fn.map DefZ.val)
def SaysZ (fn : List DefZ) (ex : PySem.W.Frag → Bool) (K : PySem.W.Frag) : Prop := obsZ fn ex K = valZ fn
def obsZG (n : Nat) (fn : List DefZ) (ex : PySem.W.Frag → Bool) (g : Addr → Option Obj) : AlZ := obsZ fn ex (frZ n g)
def hookZ (n : Nat) (fn : List DefZ) (ex : PySem.W.Frag → Bool) : PySem.W.Hook where
  α := AlZ
  obs := fun s => obsZG n fn ex s.heap.get?
  val := fun _ => valZ fn
  says := fun _ h => ∃ K : PySem.W.Frag, K.In h ∧ SaysZ fn ex K
  of := fun _ _ e => ⟨_, frG_in, e⟩
  keeps := fun _ _ _ ⟨K, hK, c⟩ k => ⟨K, PySem.W.Frag.In.keeps hK k, c⟩
theorem obsZG_eq {n : Nat} {fn : List DefZ} {ex : PySem.W.Frag → Bool} {g : Addr → Option Obj} {s : Shared} (h : ∀ a, g a = s.heap.get? a) : obsZG n fn ex g = (hookZ n fn ex).obs s := by
  have e : g = s.heap.get? := funext h
  rw [e] <;> rfl
section
variable {fn : List DefZ} {ex : PySem.W.Frag → Bool} {K : PySem.W.Frag}
theorem SaysZ.exs (c : SaysZ fn ex K) : ex K = true := congrArg (fun z : AlZ => z.1) c
theorem SaysZ.fns (c : SaysZ fn ex K) (i : Nat) {d : DefZ} (h : fn[i]? = some d := by rfl) : fnZ K (d.at_ K) = d.val := by
  have e : fn.map (fun d => fnZ K (d.at_ K)) = fn.map DefZ.val := congrArg (fun z : AlZ => z.2) c
  have e2 : (fn.map fun d => fnZ K (d.at_ K))[i]? = (fn.map DefZ.val)[i]? := by rw [e]
  rw [List.getElem?_map, List.getElem?_map, h] at e2
  exact Option.some.inj e2
end
theorem all_ok {α : Type} {p : α → Bool} {l : List α} (h : l.all p = true) (i : Nat) {a : α} (hi : l[i]? = some a := by rfl) : p a = true := List.all_eq_true.mp h a (List.mem_of_getElem? hi)
end Fk
namespace Fk
open PySem PySem.Spec PyProof.Rows L2
open He (ba)
/-! ### the caught exception: its fields, isinstance -/
def tXfE (K : PySem.W.Frag) (a : Addr) (cls : Value) (d : Option Addr) (f : Str) (te : TE) : TE := fun σ H Q => ∃ C, XfC K C ∧ PySem.W.findIn K (.ref C) f = some none ∧ tXf a cls d C f te σ H Q
theorem pe_xfE {X : Cx} {a : Addr} {oe : Obj} {cls : Value} {d : Option Addr} {pn : List (Addr × Obj)} {e : Expr} {te : TE} {pos : Pos} {n : Str} (hz : Zc cls d oe) (hf : ∃ vs, oe.data = .fields vs) (he : PE (X.suite a ((a, oe) :: pn)) e te) (hb : attributeBase e n X.env (eval e X.env) = eval e X.env := by rfl) :
    PE (X.suite a ((a, oe) :: pn)) (.Attribute e n pos) (tXfE X.K a cls d n te) := ⟨fun pins s σ H Q I ⟨_, T, hno, h⟩ => (pe_xf T hno hz hf he hb).run pins s σ H Q I h⟩
def excB (K : PySem.W.Frag) (D : Addr) : Bool := decide (PySem.W.findIn K (.ref D) "__getattribute__" = some (some (.builtin "BaseException.__getattribute__"))) && (decide (PySem.W.findIn K (.ref D) "__getattr__" = some none) && (decide (PySem.W.subIn K (.ref D) (.type "BaseException") = some true) && (PySem.W.hasDictIn K D && (decide (PySem.W.findIn K (.ref D) "__class__" = some (some (.builtin "object.__class__"))) &&
  (decide (PySem.W.specialIn K (.builtin "object.__class__") "__get__" = some (some (.builtin "getset_descriptor.__get__"))) && (decide (PySem.W.takesIn K (.builtin "object.__class__") = some true) && decide (PySem.W.mroIn K D (.type "object") = some true)))))))
theorem excB_ok {K : PySem.W.Frag} {D : Addr} (h : excB K D = true) : ExcC K D := by
  obtain ⟨h1, h⟩ := ba h
  obtain ⟨h2, h⟩ := ba h
  obtain ⟨h3, h⟩ := ba h
  obtain ⟨h4, h⟩ := ba h
  obtain ⟨h5, h⟩ := ba h
  obtain ⟨h6, h⟩ := ba h
  obtain ⟨h7, h8⟩ := ba h
  exact ⟨of_decide_eq_true h1, of_decide_eq_true h2, of_decide_eq_true h3, h4, of_decide_eq_true h5, of_decide_eq_true h6, of_decide_eq_true h7, of_decide_eq_true h8⟩
/-- isinstance(e, c), e caught, with its dict -/
def rIsD (K : PySem.W.Frag) (a : Addr) (cls : Value) (d : Option Addr) : List V → Hp → VK → Prop := fun xs H Q => ∃ (C dd : Addr) (fs : List (Str × V)) (c : V) (cv : Value) (b : Bool), cls = .ref C ∧ ExcC K C ∧ d = some dd ∧ H dd = some (.xd fs) ∧ xs = [.ref a, c] ∧ (∀ u, RelV c u → u = cv) ∧ PySem.W.kitOne K (.ref C) cv = some b ∧ Q (.bl b) H
theorem call_isD {X : Cx} {a : Addr} {oe : Obj} {cls : Value} {d : Option Addr} {pn : List (Addr × Obj)} (hz : Zc cls d oe) (hf : ∃ vs, oe.data = .fields vs) : CallR (X.suite a ((a, oe) :: pn)) (.builtin "isinstance") (rIsD X.K a cls d) := by
  intro pins s σ H xs us Q I r h
  obtain ⟨C, dd, fs, c, cv, b, rfl, T, rfl, ea, rfl, hcv, e, q⟩ := h
  obtain ⟨u1, u2, rfl, r1, r2⟩ := vals2 r
  cases r1
  cases hcv _ r2
  obtain ⟨hg, _⟩ := I.pin (a, oe) (List.mem_append.mpr (.inl List.mem_cons_self))
  obtain ⟨vs, hv⟩ := hf
  have hx : ObjOk X.prog X.w H s.heap dd (.xd fs) := I.hok dd _ ea
  obtain ⟨mA, hns, _⟩ := hx
  obtain ⟨od, ho, _⟩ := lookIn_ns hns
  have J : PySem.W.InstAt s.heap a oe C (some od) := ⟨hg, hz.1, by unfold PySem.W.notCls; rw [hv] <;> rfl, by rw [hz.2]; exact ho⟩
  obtain ⟨cd, hcd, _⟩ := PySem.W.any_some T.hd
  exact PySem.W.kia_one (PySem.W.kitx_exc (by rw [hcd]; rfl) T.hg T.hk T.hs T.ha T.hn T.ht T.hm) I.kIn J e (fun z => nomatch z) fun tk => ⟨.bl b, H, I.kept (t' := tk) fun _ _ z => z, rfl, q⟩
section
variable {K : PySem.W.Frag} {σ : L2.St} {H : Hp} {Q : VK} {a : Addr} {cls : Value} {d : Option Addr}
theorem vc_xfE {C dd : Addr} {i : Nat} {f : Str} {fs : List (Str × V)} {v : V} (T : XfC K C) (n : PySem.W.findIn K (.ref C) f = some none) (ha : σ[i]? = some (some (.ref a))) (hd : H dd = some (.xd fs)) (l : fs.lookup f = some v) (q : Q v H) : tXfE K a (.ref C) (some dd) f (tVar i) σ H Q :=
  ⟨C, T, n, .ref a, ha, rfl, rfl, dd, fs, v, rfl, hd, l, q⟩
theorem vc_isD {C dd B : Addr} {fs : List (Str × V)} {b : Bool} (T : ExcC K C) (hd : H dd = some (.xd fs)) (e : PySem.W.kitOne K (.ref C) (.ref B) = some b) (q : Q (.bl b) H) : rIsD K a (.ref C) (some dd) [.ref a, .ref B] H Q := ⟨C, dd, fs, .ref B, .ref B, b, rfl, T, rfl, hd, rfl, fun _ r => r, e, q⟩
theorem vc_isDt {C dd : Addr} {t : String} {fs : List (Str × V)} {b : Bool} (T : ExcC K C) (hd : H dd = some (.xd fs)) (e : PySem.W.kitOne K (.ref C) (.type t) = some b) (q : Q (.bl b) H) : rIsD K a (.ref C) (some dd) [.ref a, .ty t] H Q := ⟨C, dd, fs, .ty t, .type t, b, rfl, T, rfl, hd, rfl, fun _ r => r, e, q⟩
end
end Fk
namespace Fk
open PySem PySem.Spec PyProof.Rows L2
open He (ga frG_in dicW keysIn valsB)
/-! ### .. and dicts of the module with text keys -/
abbrev TabY : Type := Str × List Str
abbrev AlY : Type := AlZ × List (Option (List (Option (Str × Int))))
def obsY (fn : List DefZ) (ex : PySem.W.Frag → Bool) (ts : List TabY) (K : PySem.W.Frag) : AlY := (obsZ fn ex K, ts.map fun t => dicW K (ga K t.1))
def valY (fn : List DefZ) (ts : List TabY) (w : World) : AlY := (valZ fn, ts.map fun t => some (keysIn w.params t.2))
def SaysY (fn : List DefZ) (ex : PySem.W.Frag → Bool) (ts : List TabY) (w : World) (K : PySem.W.Frag) : Prop := obsY fn ex ts K = valY fn ts w
def obsYG (n : Nat) (fn : List DefZ) (ex : PySem.W.Frag → Bool) (ts : List TabY) (g : Addr → Option Obj) : AlY := obsY fn ex ts (frZ n g)
def hookY (n : Nat) (fn : List DefZ) (ex : PySem.W.Frag → Bool) (ts : List TabY) : PySem.W.Hook where
  α := AlY
  obs := fun s => obsYG n fn ex ts s.heap.get?
  val := fun w => valY fn ts w
  says := fun w h => ∃ K : PySem.W.Frag, K.In h ∧ SaysY fn ex ts w K
  of := fun _ _ q => ⟨_, frG_in, q⟩
  keeps := fun _ _ _ ⟨K, a, b⟩ k => ⟨K, PySem.W.Frag.In.keeps a k, b⟩
theorem obsYG_eq {n : Nat} {fn : List DefZ} {ex : PySem.W.Frag → Bool} {ts : List TabY} {g : Addr → Option Obj} {s : Shared} (h : ∀ a, g a = s.heap.get? a) : obsYG n fn ex ts g = (hookY n fn ex ts).obs s := by
  have z : g = s.heap.get? := funext h
  rw [z] <;> rfl
/-- a dict of the module: its keys, its values -/
structure KD (K : PySem.W.Frag) (w : World) (x : Str) (kvs : List (Str × V)) : Prop where
  kd : ∃ es n, KDict K w (ga K x) es n
  yes : ∀ q ∈ kvs, ∃ u, PySem.W.nsIn K (ga K x) q.1 = some (some u) ∧ RelV q.2 u
  no : ∀ z : Str, z ∉ kvs.map (·.1) → PySem.W.nsIn K (ga K x) z = some none
theorem keys_no {P : Params} {z : Str} : ∀ {l : List DictEntry} {ks : List Str}, l.map He.keyOf = keysIn P ks → z ∉ ks → l.find? (·.key.isStr z) = none ∧ l.any (·.refKey) = false
  | [], [], _, _ => ⟨rfl, rfl⟩
  | [], k :: ks, h, _ => by cases h
  | d :: l, [], h, _ => by cases h
  | d :: l, k :: ks, h, hz => by
    have h1 : He.keyOf d :: l.map He.keyOf = some (k, PyData.keyHash P k) :: keysIn P ks := h
    injection h1 with h2 h3
    obtain ⟨i1, i2⟩ := keys_no h3 fun m => hz (List.mem_cons_of_mem _ m)
    have hk : ∃ t, d.key = .str k t := by
      unfold He.keyOf at h2
      split at h2
      · rename_i x t q
        have := (Prod.mk.inj (Option.some.inj h2)).1
        exact ⟨t, by rw [q, this]⟩
      · cases h2
    obtain ⟨t, hk⟩ := hk
    have n1 : d.key.isStr z = false := by
      rw [hk]
      have : ¬ k = z := fun q => hz (by rw [q]; exact List.mem_cons_self ..)
      simp [Value.isStr, this]
    have n2 : d.refKey = false := by
      simp [DictEntry.refKey, hk]
    refine ⟨?_, ?_⟩
    · rw [List.find?_cons, n1]; exact i1
    · rw [List.any_cons, n2, i2]; rfl
theorem SaysY.z {fn : List DefZ} {ex : PySem.W.Frag → Bool} {ts : List TabY} {w : World} {K : PySem.W.Frag} (c : SaysY fn ex ts w K) : SaysZ fn ex K := congrArg (fun z : AlY => z.1) c
theorem SaysY.kd {fn : List DefZ} {ex : PySem.W.Frag → Bool} {ts : List TabY} {w : World} {K : PySem.W.Frag} (c : SaysY fn ex ts w K) (i : Nat) {t : TabY} {kvs : List (Str × He.Dv)} (h : ts[i]? = some t) (hk : t.2 = kvs.map (·.1)) (hv : valsB K (ga K t.1) kvs = true) :
    KD K w t.1 (kvs.map fun q => (q.1, q.2.v K)) := by
  have e : ts.map (fun t => dicW K (ga K t.1)) = ts.map fun t => some (keysIn w.params t.2) := congrArg (fun z : AlY => z.2) c
  have e2 : (ts.map fun t => dicW K (ga K t.1))[i]? = (ts.map fun t => some (keysIn w.params t.2))[i]? := by rw [e]
  rw [List.getElem?_map, List.getElem?_map, h] at e2
  have d : dicW K (ga K t.1) = some (keysIn w.params t.2) := Option.some.inj e2
  have kd := He.dicW_ok d
  refine ⟨kd, fun q hq => ?_, fun z hz => ?_⟩
  · obtain ⟨p, hp, rfl⟩ := List.mem_map.mp hq
    exact He.valsB_ok hv hp
  · obtain ⟨es, n, D⟩ := kd
    have hz : z ∉ t.2 := by rw [hk]; intro m; exact hz (by rw [List.map_map]; exact m)
    have lk := D.at_
    have hm : es.toList.map He.keyOf = keysIn w.params t.2 := by
      unfold dicW at d
      rw [lk] at d
      dsimp only at d
      split at d
      · exact Option.some.inj d
      · cases d
    obtain ⟨n1, n2⟩ := keys_no hm hz
    unfold PySem.W.nsIn
    rw [lk]
    dsimp only
    rw [n1]
    dsimp only
    rw [n2]
    rfl
/-! rules -/
def qInK (a : Addr) (ks : List Str) : R2 := fun x y H Q => ∃ z : Str, x = .str z ∧ y = .ref a ∧ Q (.bl (decide (z ∈ ks))) H
theorem op_inKD {X : Cx} {x : Str} {kvs : List (Str × V)} (D : KD X.K X.w x kvs) : OpR X (compareOp .In) (qInK (ga X.K x) (kvs.map (·.1))) := by
  intro pins s σ H u v a b Q I r1 r2 h
  obtain ⟨z, e1, e2, q⟩ := h
  obtain ⟨es, n, kd⟩ := D.kd
  by_cases m : z ∈ kvs.map (·.1)
  · obtain ⟨p, hp, e⟩ := List.mem_map.mp m
    obtain ⟨w, hw, _⟩ := D.yes p hp
    rw [e] at hw
    rw [decide_eq_true m] at q
    exact op_in_kd kd pins s σ H u v a b Q I r1 r2 ⟨z, _, e1, e2, hw, q⟩
  · rw [decide_eq_false m] at q
    exact op_in_kd kd pins s σ H u v a b Q I r1 r2 ⟨z, _, e1, e2, D.no z m, q⟩
theorem vc_inK {H : Hp} {Q : VK} {z : Str} {a b : Addr} {ks : List Str} (e : b = a) (q : Q (.bl (decide (z ∈ ks))) H) : qInK a ks (.str z) (.ref b) H Q := ⟨z, rfl, by rw [e], q⟩
theorem vc_ixK {K : PySem.W.Frag} {w : World} {x : Str} {kvs : List (Str × V)} {H : Hp} {Q : VK} {z : Str} {v : V} (D : KD K w x kvs) (m : (z, v) ∈ kvs) (q : Q v H) : rIxD K w (.ref (ga K x)) (.str z) H Q := by
  obtain ⟨es, n, kd⟩ := D.kd
  obtain ⟨u, hu, r⟩ := D.yes _ m
  exact ⟨ga K x, z, v, rfl, rfl, ⟨es, n, u, kd.at_, kd.lit, hu, r⟩, q⟩
end Fk
namespace Fk
open PySem PySem.Spec PyProof.Rows L2
open Evl (Ex)
/-! ### named readings -/
def qLen (K : PySem.W.Frag) : List V → Hp → VK → Prop := fun xs H Q => ∃ p ys, xs = [.ref p] ∧ (SqL K H p ys ∨ SqT K H p ys) ∧ Q (.int ys.length) H
theorem call_lenQ {X : Cx} : CallR X (.builtin "len") (qLen X.K) := call_len_seq
def qLenS : List V → Hp → VK → Prop := fun xs H Q => ∃ z, xs = [.str z] ∧ z.length ≤ sizeLine ∧ Q (.int z.length) H
theorem call_lenSQ {X : Cx} : CallR X (.builtin "len") qLenS := call_len_str
def qInt : List V → Hp → VK → Prop := fun xs H Q => (∃ i, xs = [.int i] ∧ Q (.int i) H) ∨ ∃ k, xs = [.bl k] ∧ Q (.int (if k then 1 else 0)) H
theorem call_intQ {X : Cx} : CallR X (.type "int") qInt := call_int1
def qIntS : List V → Hp → VK → Prop := fun xs H Q => ∃ a n, xs = [.str a] ∧ PySem.intText? a = some n ∧ a.length ≤ 640 ∧ Q (.int n) H
theorem call_intSQ {X : Cx} : CallR X (.type "int") qIntS := call_int_str
def qStr : List V → Hp → VK → Prop := fun xs H Q => ∃ i : Int, xs = [.int i] ∧ i.natAbs.log2 < 1920 ∧ Q (.str (toString i)) H
theorem call_strQ {X : Cx} : CallR X (.type "str") qStr := call_str_int
def qList (K : PySem.W.Frag) : List V → Hp → VK → Prop := fun xs H Q => ∃ p ys, xs = [.ref p] ∧ (SqL K H p ys ∨ SqT K H p ys) ∧ ∀ l, H l = none → Q (.ref l) (upd H l (.lst ys))
theorem call_listQ {X : Cx} : CallR X (.type "list") (qList X.K) := call_list_of
def qTuple (K : PySem.W.Frag) : List V → Hp → VK → Prop := fun xs H Q => ∃ p ys, xs = [.ref p] ∧ ((SqL K H p ys ∧ ∀ l, H l = none → Q (.ref l) (upd H l (.tup ys))) ∨ (SqT K H p ys ∧ Q (.ref p) H))
theorem call_tupleQ {X : Cx} : CallR X (.type "tuple") (qTuple X.K) := call_tuple_of
def qIns : V → List V → Hp → VK → Prop := fun x vs H Q => ∃ (l : Addr) (xs : List V) (i : Int) (y : V), x = .ref l ∧ vs = [.int i, y] ∧ H l = some (.lst xs) ∧ xs.length < sizeLine ∧ 0 ≤ i ∧ i < 2 ^ 63 ∧
    Q .non (upd H l (.lst (xs.take i.toNat ++ [y] ++ xs.drop i.toNat)))
theorem mt_insertQ {X : Cx} : MtR X "list.insert" qIns := mt_insert
def qAddS : R2 := fun x y H Q => ∃ i j, x = .str i ∧ y = .str j ∧ i.length + j.length ≤ sizeLine ∧ Q (.str (i ++ j)) H
theorem op_addSQ {X : Cx} : OpR X (binaryOp .Add) qAddS := op_add_str
def qNin : R2 := fun x y H Q => ∃ (c : Nat) (z : Str), x = .str ⟨#[c]⟩ ∧ y = .str z ∧ Q (.bl (!decide (c ∈ z.cps.toList))) H
theorem op_ninQ {X : Cx} : OpR X (compareOp .NotIn) qNin := op_notIn_sign
def qJoin (K : PySem.W.Frag) : V → List V → Hp → VK → Prop := fun x xs H Q => ∃ a p, ∃ ys : List Str, x = .str a ∧ xs = [.ref p] ∧ (SqL K H p (ys.map V.str) ∨ SqT K H p (ys.map V.str)) ∧
      (ys.map (·.length)).sum + ys.length * a.length ≤ 16777216 ∧ Q (.str (Txt.join a ys)) H
theorem pe_joinQ {X : Cx} {o e : Expr} {to te : TE} {apos pos : Pos} (ho : PE X o to) (he : PE X e te) (hs : starEach [e] X.env = [(false, eval e X.env)] := by rfl) (hbase : attributeBase o "join" X.env (eval o X.env) = eval o X.env := by rfl) (hline : (apos.endLine == pos.line) = true := by rfl) :
    PE X (.Call (.Attribute o "join" apos) [e] [] pos) (tM1 (qJoin X.K) to te) := pe_join ho he hs hbase hline
theorem pe_joinR {X : Cx} {K1 : PySem.W.Frag} (hK : X.K = K1) {o e : Expr} {to te : TE} {apos pos : Pos} (ho : PE X o to) (he : PE X e te) (hs : starEach [e] X.env = [(false, eval e X.env)] := by rfl) (hbase : attributeBase o "join" X.env (eval o X.env) = eval o X.env := by rfl) (hline : (apos.endLine == pos.line) = true := by rfl) :
    PE X (.Call (.Attribute o "join" apos) [e] [] pos) (tM1 (qJoin K1) to te) := by
  subst hK
  exact pe_joinQ ho he hs hbase hline
def qSplit : V → List V → Hp → VK → Prop := fun x xs H Q => ∃ a b, x = .str a ∧ xs = [.str b] ∧ (b.length == 0) = false ∧ a.length + 2 ≤ sizeLine ∧ rNewStrs (Txt.split a b) H Q
theorem pe_splitQ {X : Cx} {o e : Expr} {to te : TE} {apos pos : Pos} (ho : PE X o to) (he : PE X e te) (hs : starEach [e] X.env = [(false, eval e X.env)] := by rfl) (hbase : attributeBase o "split" X.env (eval o X.env) = eval o X.env := by rfl) (hline : (apos.endLine == pos.line) = true := by rfl) :
    PE X (.Call (.Attribute o "split" apos) [e] [] pos) (tM1 qSplit to te) := pe_split ho he hs hbase hline
def qIsN : R2 := fun x y H Q => y = .non ∧ Q (.bl (decide (x = .non))) H
theorem op_isNQ {X : Cx} : OpR X (compareOp .Is) qIsN := op_isN
/-! ### steps -/
section
variable {K : PySem.W.Frag} {σ : L2.St} {H H' : Hp} {Q : VK} {D : Ends}
theorem vc_var {i : Nat} {v : V} (h : σ[i]? = some (some v)) (q : Q v H) : tVar i σ H Q := ⟨v, h, q⟩
theorem vc_c {v : V} (q : Q v H) : tC v σ H Q := q
theorem vc_op {r : R2} {ta tb : TE} (h : ta σ H fun x H1 => tb σ H1 fun y H2 => r x y H2 Q) : tOp r ta tb σ H Q := h
theorem vc_un {r : V → Hp → VK → Prop} {ta : TE} (h : ta σ H fun x H1 => r x H1 Q) : tUn r ta σ H Q := h
theorem vc_cb {r : List V → Hp → VK → Prop} {t : TA} (h : t σ H fun vs H1 => r vs H1 Q) : tCB r t σ H Q := h
theorem vc_call {sp : Sp} {E : L2.St → XK} {t : TA} (h : t σ H fun vs H1 => sp vs H1 Q (E σ)) : tCallS sp E t σ H Q := h
theorem vc_nil {Q : List V → Hp → Prop} (h : Q [] H) : tNil σ H Q := h
theorem vc_cons {Q : List V → Hp → Prop} {ta : TE} {tr : TA} (h : ta σ H fun x H1 => tr σ H1 fun xs H2 => Q (x :: xs) H2) : tCons ta tr σ H Q := h
def kT (xs : List V) (H : Hp) (Q : VK) : Prop := xs.length ≤ sizeLine ∧ ∀ p, H p = none → Q (.ref p) (upd H p (.tup xs))
def kL (xs : List V) (H : Hp) (Q : VK) : Prop := xs.length ≤ sizeLine ∧ ∀ p, H p = none → Q (.ref p) (upd H p (.lst xs))
theorem vc_tup {t : TA} (h : t σ H fun xs H1 => kT xs H1 Q) : tTup t σ H Q := h
theorem vc_lst {t : TA} (h : t σ H fun xs H1 => kL xs H1 Q) : tLst t σ H Q := h
theorem sz {n : Nat} (h : n ≤ 100000) : n ≤ sizeLine := Nat.le_trans h (by decide)
theorem sz_lt {n : Nat} (h : n < 100000) : n < sizeLine := Nat.lt_of_lt_of_le h (by decide)
theorem vc_kT {xs : List V} (h : xs.length ≤ 100000) (q : ∀ p, H p = none → Q (.ref p) (upd H p (.tup xs))) : kT xs H Q := ⟨sz h, q⟩
theorem vc_kL {xs : List V} (h : xs.length ≤ 100000) (q : ∀ p, H p = none → Q (.ref p) (upd H p (.lst xs))) : kL xs H Q := ⟨sz h, q⟩
theorem vc_andV {ta tb : TE} (h : ta σ H fun x H1 => ∃ c, x = .bl c ∧ if c = true then tb σ H1 Q else Q (.bl false) H1) : tAndV ta tb σ H Q := h
theorem vc_orV {ta tb : TE} (h : ta σ H fun x H1 => ∃ c, x = .bl c ∧ if c = true then Q (.bl true) H1 else tb σ H1 Q) : tOrV ta tb σ H Q := h
theorem vc_notV {ta : TE} (h : ta σ H fun x H1 => ∃ c, x = .bl c ∧ Q (.bl (!c)) H1) : tNotV ta σ H Q := h
theorem vc_bl {b : Bool} {A : Bool → Prop} (h : A b) : ∃ c, V.bl b = .bl c ∧ A c := ⟨b, rfl, h⟩
theorem vc_in {i : Int} {A : Int → Prop} (h : A i) : ∃ c, V.int i = .int c ∧ A c := ⟨i, rfl, h⟩
theorem vc_st {s : Str} {A : Prop} (h : A) : (∃ a, V.str s = .str a) ∧ A := ⟨⟨s, rfl⟩, h⟩
theorem vc_test {t : TE} {Q : Bool → Hp → Prop} (h : t σ H fun x H' => ∃ k, x = .bl k ∧ Q k H') : tTest t σ H Q := h
theorem vc_tB {t : TE} {Q : Bool → Hp → Prop} (h : t σ H fun x H' => ∃ k, x = .bl k ∧ Q k H') : tB t σ H Q := h
theorem vc_and {t u : TT} {Q : Bool → Hp → Prop} (h : t σ H fun c H1 => if c = true then u σ H1 Q else Q false H1) : tAnd t u σ H Q := h
theorem vc_or {t u : TT} {Q : Bool → Hp → Prop} (h : t σ H fun c H1 => if c = true then Q true H1 else u σ H1 Q) : tOr t u σ H Q := h
theorem vc_not {t : TT} {Q : Bool → Hp → Prop} (h : t σ H fun c H1 => Q (!c) H1) : tNot t σ H Q := h
theorem vc_ifE {t : TT} {ta tb : TE} (h : t σ H fun c H1 => if c = true then ta σ H1 Q else tb σ H1 Q) : tIf t ta tb σ H Q := h
theorem vc_chain {r r' : R2} {ta tb tc : TE} (h : ta σ H fun x H1 => tb σ H1 fun y H2 => r x y H2 fun z H3 => ∃ k, z = .bl k ∧ if k = true then tc σ H3 fun y' H4 => r' y y' H4 Q else Q (.bl false) H3) : tChain r r' ta tb tc σ H Q := h
theorem vc_sl {r : V → Option Int → Option Int → Hp → VK → Prop} {te : TE} {tl th : TO} (h : te σ H fun x H1 => tl σ H1 fun l H2 => th σ H2 fun u H3 => r x l u H3 Q) : tSl r te tl th σ H Q := h
theorem vc_nopart {Q : Option Int → Hp → Prop} (h : Q none H) : tNoPart σ H Q := h
theorem vc_part {t : TE} {Q : Option Int → Hp → Prop} (h : t σ H fun x H1 => ∃ i, x = .int i ∧ Q (some i) H1) : tPart t σ H Q := h
theorem vc_m1 {r : V → List V → Hp → VK → Prop} {to te : TE} (h : to σ H fun x H1 => (∃ a, x = .str a) ∧ te σ H1 fun y H2 => r x [y] H2 Q) : tM1 r to te σ H Q := h
theorem vc_bm {T : String} {r : V → List V → Hp → VK → Prop} {to : TE} {t : TA} (h : to σ H fun x H1 => tyV K T x H1 ∧ t σ H1 fun xs H2 => r x xs H2 Q) : tBM K T r to t σ H Q := h
theorem vc_tyL {p : Addr} {xs : List V} {A : Prop} (h : H p = some (.lst xs)) (a : A) : tyV K "list" (.ref p) H ∧ A := ⟨.inl ⟨rfl, xs, .inl (.inl h)⟩, a⟩
theorem vc_star {te : TE} {t : TA} {Q : List V → Hp → Prop} (h : te σ H fun x H1 => ∃ p xs, x = V.ref p ∧ (SqT K H1 p xs ∨ SqL K H1 p xs) ∧ t σ H1 fun ys H2 => Q (xs ++ ys) H2) : StX.tStar K te t σ H Q := h
theorem vc_starV {i : Nat} {t : TA} {p : Addr} {xs : List V} {Q : List V → Hp → Prop} (hv : σ[i]? = some (some (.ref p))) (h : SqL K H p xs) (q : t σ H fun ys H2 => Q (xs ++ ys) H2) : StX.tStar K (tVar i) t σ H Q := ⟨.ref p, hv, p, xs, rfl, .inr h, q⟩
/-! statements -/
theorem vc_seq {t u : TS} (h : t { D with nx := u D } σ H) : tSeq t u D σ H := h
theorem vc_asgN {te : TE} {i : Nat} (h : te σ H fun x H1 => D.nx (σ.set i (some x)) H1) : tAsg te (gName i) D σ H := h
theorem vc_asgS {te to ti : TE} {t : TSet} (h : te σ H fun x H1 => to σ H1 fun o H2 => ti σ H2 fun i H3 => t o i x H3 fun H4 => D.nx σ H4) : tAsg te (gSub to ti t) D σ H := h
theorem vc_ret {te : TE} (h : te σ H D.rt) : tRet te D σ H := h
theorem vc_drop {te : TE} (h : te σ H fun _ H1 => D.nx σ H1) : tDrop te D σ H := h
theorem vc_ifS {c : TT} {t u : TS} (h : c σ H fun b H1 => if b = true then t D σ H1 else u D σ H1) : tIfS c t u D σ H := h
theorem vc_next (h : D.nx σ H) : tNext D σ H := h
theorem vc_nx {f : L2.St → Hp → Prop} {r : VK} {b c : L2.St → Hp → Prop} (h : f σ H) : (Ends.mk f r b c).nx σ H := h
theorem vc_ct {f : L2.St → Hp → Prop} {r : VK} {b c : L2.St → Hp → Prop} (h : c σ H) : (Ends.mk f r b c).ct σ H := h
theorem vc_bk {f : L2.St → Hp → Prop} {r : VK} {b c : L2.St → Hp → Prop} (h : b σ H) : (Ends.mk f r b c).bk σ H := h
theorem vc_rt {v : V} {f : L2.St → Hp → Prop} {r : VK} {b c : L2.St → Hp → Prop} (h : r v H) : (Ends.mk f r b c).rt v H := h
theorem vc_gTup {n : Nat} {t : TGs} {a : Addr} {xs : List V} {Q : L2.St → Hp → Prop} (h : SqT K H a xs) (e : xs.length = n) (q : t xs σ H Q) : gTup K n t (.ref a) σ H Q := ⟨a, xs, rfl, h, e, q⟩
theorem vc_gCons {t : TG} {u : TGs} {v : V} {r : List V} {Q : L2.St → Hp → Prop} (q : t v σ H fun σ' H' => u r σ' H' Q) : gCons t u (v :: r) σ H Q := ⟨v, r, rfl, q⟩
theorem vc_gNil {Q : L2.St → Hp → Prop} (q : Q σ H) : gNil [] σ H Q := ⟨rfl, q⟩
/-- the turns of a loop, of a comprehension -/
def Loop (J : It) (g : TG) (tb : TS) (D : Ends) (σ : L2.St) (H : Hp) : Prop := ∃ W : Nat → Nat → L2.St → Hp → Prop, (∃ m, W 0 m σ H) ∧ ∀ i m σ H, W i m σ H →
    (J.stop i H ∧ D.nx σ H) ∨ (J.go i H ∧ ∃ N : L2.St → Hp → Prop, (∀ σ' H', N σ' H' → ∃ m', m' < m ∧ W (i + 1) m' σ' H') ∧ ∀ x H', J.yld i H x H' → g x σ H' fun σ2 H2 => tb { D with nx := N, ct := N, bk := D.nx } σ2 H2)
def Lcp (J : It) (g : TG) (tt : TT) (te : TE) (vs : List Nat) (σ : L2.St) (D : Addr) (H1 : Hp) (Qd : Hp → Prop) : Prop := ∃ W : Nat → Nat → Hp → Prop, (∃ m, W 0 m (upd H1 D (.lst []))) ∧ ∀ i m H, W i m H →
  (J.stop i H ∧ Qd H) ∨ (J.go i H ∧ ∃ Nx : Hp → Prop, (∀ H', Nx H' → ∃ m', m' < m ∧ W (i + 1) m' H') ∧ ∀ x H', J.yld i H x H' → g x (wipe σ vs) H' fun σ2 H2 => wipe σ2 vs = wipe σ vs ∧ tt σ2 H2 fun b H3 =>
    if b = true then te σ2 H3 fun y H4 => ∃ acc, H4 D = some (.lst acc) ∧ acc.length < sizeLine ∧ Nx (upd H4 D (.lst (acc ++ [y]))) else Nx H3)
theorem vc_rL {j : Int} {g : TG} {tb : TS} (h0 : -(2 ^ 62) ≤ j) (h1 : j < 2 ^ 62) (r : Loop (Itr 0 j.toNat) g tb D σ H) : ∃ i : Int, [V.int j] = [.int i] ∧ -(2 ^ 62) ≤ i ∧ i < 2 ^ 62 ∧ Loop (Itr 0 i.toNat) g tb D σ H := ⟨j, rfl, h0, h1, r⟩
theorem vc_rC {j : Int} {g : TG} {tt : TT} {te : TE} {vs : List Nat} {Qd : Addr → Hp → Prop} (h0 : -(2 ^ 62) ≤ j) (h1 : j < 2 ^ 62) (r : ∀ D, H D = none → Lcp (Itr 0 j.toNat) g tt te vs σ D H (Qd D)) : ∃ i : Int, [V.int j] = [.int i] ∧ -(2 ^ 62) ≤ i ∧ i < 2 ^ 62 ∧ ∀ D, H D = none → Lcp (Itr 0 i.toNat) g tt te vs σ D H (Qd D) := ⟨j, rfl, h0, h1, r⟩
theorem vc_for {wi : TI} {g : TG} {tb : TS} (h : wi σ H fun J H1 => Loop J g tb D σ H1) : tFor wi g tb D σ H := h
theorem vc_cut {t u : TS} (Mid : L2.St → Hp → Prop) (h1 : t { D with nx := Mid } σ H) (h2 : ∀ σ' H', Mid σ' H' → u D σ' H') : Evl.tCut t u D σ H := ⟨Mid, h1, h2⟩
/-! primitive answers -/
theorem vc_I0 {g : Int → Int → V} {i j : Int} (q : Q (g i j) H) : rI0 g (.int i) (.int j) H Q := ⟨i, j, rfl, rfl, q⟩
theorem vc_I {C : Int → Int → Prop} {g : Int → Int → V} {i j : Int} (c : C i j) (q : Q (g i j) H) : rI C g (.int i) (.int j) H Q := ⟨i, j, rfl, rfl, c, q⟩
theorem vc_U {g : Int → V} {i : Int} (q : Q (g i) H) : rU g (.int i) H Q := ⟨i, rfl, q⟩
theorem vc_eq {x y : V} (h : scal x y = true) (q : Q (.bl (decide (x = y))) H) : rEq x y H Q := ⟨h, q⟩
theorem vc_ne {x y : V} (h : scal x y = true) (q : Q (.bl (!decide (x = y))) H) : rNe x y H Q := ⟨h, q⟩
theorem vc_eqI {i j : Int} (q : Q (.bl (decide (i = j))) H) : rEq (.int i) (.int j) H Q := ⟨rfl, by simpa using q⟩
theorem vc_eqS {i j : Str} (q : Q (.bl (decide (i = j))) H) : rEq (.str i) (.str j) H Q := ⟨rfl, by simpa using q⟩
theorem vc_neI {i j : Int} (q : Q (.bl (!decide (i = j))) H) : rNe (.int i) (.int j) H Q := ⟨rfl, by simpa using q⟩
theorem vc_neS {i j : Str} (q : Q (.bl (!decide (i = j))) H) : rNe (.str i) (.str j) H Q := ⟨rfl, by simpa using q⟩
theorem vc_neB {i j : Bool} (q : Q (.bl (!decide (i = j))) H) : rNe (.bl i) (.bl j) H Q := ⟨rfl, by simpa using q⟩
theorem vc_eqB {i j : Bool} (q : Q (.bl (decide (i = j))) H) : rEq (.bl i) (.bl j) H Q := ⟨rfl, by simpa using q⟩
theorem vc_isN {x : V} (q : Q (.bl (decide (x = .non))) H) : qIsN x .non H Q := ⟨rfl, q⟩
theorem vc_isN0 (q : Q (.bl true) H) : qIsN .non .non H Q := ⟨rfl, by simpa using q⟩
theorem vc_isN1 {x : V} (h : decide (x = .non) = false) (q : Q (.bl false) H) : qIsN x .non H Q := ⟨rfl, by rw [h]; exact q⟩
theorem vc_ixL {p : Addr} {xs : List V} {i : Int} {v : V} (h : SqL K H p xs) (a : atI xs i = some v) (q : Q v H) : rIxL K (.ref p) (.int i) H Q := ⟨p, xs, i, v, rfl, rfl, h, a, q⟩
theorem vc_ixLP {p : Addr} {xs : List V} {i : Int} (P : Hp → V → Prop) (h : SqL K H p xs) (h0 : 0 ≤ i) (h1 : i < xs.length) (hp : ∀ v ∈ xs, P H v) (q : ∀ v, P H v → Q v H) : rIxL K (.ref p) (.int i) H Q := by
  have h2 : i.toNat < xs.length := by omega
  refine ⟨p, xs, i, xs[i.toNat], rfl, rfl, h, ?_, q _ (hp _ (List.getElem_mem h2))⟩
  unfold atI ixN
  rw [if_pos h0, if_pos h1]
  exact List.getElem?_eq_getElem h2
theorem vc_ixT {p : Addr} {xs : List V} {i : Int} {v : V} (h : SqT K H p xs) (a : atI xs i = some v) (q : Q v H) : rIxT K (.ref p) (.int i) H Q := ⟨p, xs, i, v, rfl, rfl, h, a, q⟩
theorem vc_ixS {z : Str} {i : Int} {c : Nat} (h : z.length ≤ sizeLine) (a : atI z.cps.toList i = some c) (q : Q (.str ⟨#[c]⟩) H) : rIxS (.str z) (.int i) H Q := ⟨z, i, c, rfl, rfl, h, a, q⟩
theorem vc_ixqL {p : Addr} {xs : List V} {i : Int} {v : V} (h : SqL K H p xs) (a : atI xs i = some v) (q : Q v H) : rIx K (.ref p) (.int i) H Q := .inl ⟨p, xs, i, v, rfl, rfl, h, a, q⟩
theorem vc_ixqT {p : Addr} {xs : List V} {i : Int} {v : V} (h : SqT K H p xs) (a : atI xs i = some v) (q : Q v H) : rIx K (.ref p) (.int i) H Q := .inr (.inl ⟨p, xs, i, v, rfl, rfl, h, a, q⟩)
theorem vc_lenL {p : Addr} {xs : List V} (h : SqL K H p xs) (q : Q (.int xs.length) H) : qLen K [.ref p] H Q := ⟨p, xs, rfl, .inl h, q⟩
theorem vc_lenT {p : Addr} {xs : List V} (h : SqT K H p xs) (q : Q (.int xs.length) H) : qLen K [.ref p] H Q := ⟨p, xs, rfl, .inr h, q⟩
theorem vc_lenS {z : Str} (h : z.length ≤ sizeLine) (q : Q (.int z.length) H) : qLenS [.str z] H Q := ⟨z, rfl, h, q⟩
theorem vc_int {i : Int} (q : Q (.int i) H) : qInt [.int i] H Q := .inl ⟨i, rfl, q⟩
theorem vc_intS {a : Str} {n : Int} (h : PySem.intText? a = some n) (l : a.length ≤ 640) (q : Q (.int n) H) : qIntS [.str a] H Q := ⟨a, n, rfl, h, l, q⟩
theorem vc_str {i : Int} (h : i.natAbs.log2 < 1920) (q : Q (.str (toString i)) H) : qStr [.int i] H Q := ⟨i, rfl, h, q⟩
theorem vc_listL {p : Addr} {xs : List V} (h : SqL K H p xs) (q : ∀ l, H l = none → Q (.ref l) (upd H l (.lst xs))) : qList K [.ref p] H Q := ⟨p, xs, rfl, .inl h, q⟩
theorem vc_listT {p : Addr} {xs : List V} (h : SqT K H p xs) (q : ∀ l, H l = none → Q (.ref l) (upd H l (.lst xs))) : qList K [.ref p] H Q := ⟨p, xs, rfl, .inr h, q⟩
theorem vc_tupL {p : Addr} {xs : List V} (h : SqL K H p xs) (q : ∀ l, H l = none → Q (.ref l) (upd H l (.tup xs))) : qTuple K [.ref p] H Q := ⟨p, xs, rfl, .inl ⟨h, q⟩⟩
theorem vc_app {p : Addr} {xs : List V} {y : V} (h : H p = some (.lst xs)) (l : xs.length < sizeLine) (q : Q .non (upd H p (.lst (xs ++ [y])))) : rAppend (.ref p) [y] H Q := ⟨p, xs, y, rfl, rfl, h, l, q⟩
theorem vc_ins {p : Addr} {xs : List V} {i : Int} {y : V} (h : H p = some (.lst xs)) (l : xs.length < sizeLine) (h0 : 0 ≤ i) (h1 : i < 2 ^ 63) (q : Q .non (upd H p (.lst (xs.take i.toNat ++ [y] ++ xs.drop i.toNat)))) : qIns (.ref p) [.int i, y] H Q := ⟨p, xs, i, y, rfl, rfl, h, l, h0, h1, q⟩
theorem vc_cat {p b : Addr} {xs zs : List V} (h : H p = some (.lst xs)) (h2 : H b = some (.lst zs)) (l : xs.length + zs.length ≤ 100000) (q : ∀ r, H r = none → Q (.ref r) (upd H r (.lst (xs ++ zs)))) : rCat (.ref p) (.ref b) H Q := ⟨p, b, xs, zs, rfl, rfl, h, h2, sz l, q⟩
theorem vc_addS {a b : Str} (l : a.length + b.length ≤ sizeLine) (q : Q (.str (a ++ b)) H) : qAddS (.str a) (.str b) H Q := ⟨a, b, rfl, rfl, l, q⟩
theorem vc_nin {c : Nat} {z : Str} (q : Q (.bl (!decide (c ∈ z.cps.toList))) H) : qNin (.str ⟨#[c]⟩) (.str z) H Q := ⟨c, z, rfl, rfl, q⟩
theorem vc_join {a : Str} {p : Addr} {ys : List Str} (h : SqL K H p (ys.map V.str)) (l : (ys.map (·.length)).sum + ys.length * a.length ≤ 16777216) (q : Q (.str (Txt.join a ys)) H) : qJoin K (.str a) [.ref p] H Q := ⟨a, p, ys, rfl, rfl, .inl h, l, q⟩
theorem vc_split {a b : Str} (h : (b.length == 0) = false) (l : a.length + 2 ≤ sizeLine) (q : ∀ p, H p = none → Q (.ref p) (upd H p (.lst ((Txt.split a b).map V.str)))) : qSplit (.str a) [.str b] H Q := ⟨a, b, rfl, rfl, h, l, q⟩
theorem vc_slS {z : Str} {lo hi : Option Int} (h : z.length ≤ sizeLine) (q : Q (.str (cutS z lo hi)) H) : rSlS (.str z) lo hi H Q := ⟨z, rfl, h, q⟩
theorem vc_slL {p : Addr} {xs : List V} {lo hi : Option Int} (h : SqL K H p xs) (q : ∀ r, H r = none → Q (.ref r) (upd H r (.lst (cutV xs lo hi)))) : rSlL K (.ref p) lo hi H Q := ⟨p, xs, rfl, h, q⟩
theorem vc_inL {x : V} {p : Addr} {xs : List V} {n : Bool} (h : SqL K H p xs) (f : flatV x = true) (fs : xs.all flatV = true) (q : Q (.bl (if n then !inV x xs else inV x xs)) H) : rIn K n x (.ref p) H Q := ⟨p, xs, rfl, .inl h, f, fs, q⟩
theorem vc_inT {x : V} {p : Addr} {xs : List V} {n : Bool} (h : SqT K H p xs) (f : flatV x = true) (fs : xs.all flatV = true) (q : Q (.bl (if n then !inV x xs else inV x xs)) H) : rIn K n x (.ref p) H Q := ⟨p, xs, rfl, .inr h, f, fs, q⟩
theorem vc_setL {p : Addr} {xs : List V} {k : Int} {j : Nat} {v : V} {Q : Hp → Prop} (h : H p = some (.lst xs)) (hj : ixN xs.length k = some j) (q : Q (upd H p (.lst (xs.set j v)))) : rSetL (.ref p) (.int k) v H Q := ⟨p, xs, k, j, rfl, rfl, h, hj, q⟩
/-- a slice of a tuple: the tuple itself, if it is the whole -/
theorem vc_slA {p : Addr} {xs : List V} {lo hi : Option Int} (h : H p = some (.tup xs)) (q : ∀ r H1, Ex H H1 → H1 r = some (.tup (cutV xs lo hi)) → Q (.ref r) H1) : rSlA K (.ref p) lo hi H Q := by
  refine ⟨p, xs, rfl, .inl (.inl h), fun w => q p H (Ex.refl H) ?_, fun _ r n => q r _ (Ex.new n) upd_same⟩
  rw [h]
  unfold cutV
  rw [w.1, w.2, List.drop_zero, Nat.sub_zero, List.take_length]
theorem vc_isi {x c : V} {t u : Value} {b : Bool} (k : ClsV c u) (ty : TyX K H x t) (e : PySem.W.kitOne K t u = some b) (q : Q (.bl b) H) : rIsi K [x, c] H Q := ⟨x, c, t, u, b, rfl, k, ty, e, q⟩
theorem vc_isiT {x c : V} {t u : Value} (k : ClsV c u) (ty : TyX K H x t) (e : PySem.W.kitOne K t u = some true) (q : Q (.bl true) H) : rIsi K [x, c] H Q := ⟨x, c, t, u, true, rfl, k, ty, e, q⟩
theorem vc_isiF {x c : V} {t u : Value} (k : ClsV c u) (ty : TyX K H x t) (e : PySem.W.kitOne K t u = some false) (q : Q (.bl false) H) : rIsi K [x, c] H Q := ⟨x, c, t, u, false, rfl, k, ty, e, q⟩
/-! ifs -/
theorem vc_ifd {p A B : Prop} [Decidable p] (h1 : p → A) (h2 : ¬ p → B) : if decide p = true then A else B := by
  by_cases h : p
  · rw [if_pos (decide_eq_true h)]
    exact h1 h
  · rw [if_neg (by simpa using h)]
    exact h2 h
theorem vc_ifn {p A B : Prop} [Decidable p] (h1 : ¬ p → A) (h2 : p → B) : if (!decide p) = true then A else B := by
  by_cases h : p
  · rw [if_neg (by simpa using h)]
    exact h2 h
  · rw [if_pos (by simpa using h)]
    exact h1 h
theorem vc_ifb {b : Bool} {A B : Prop} (h1 : b = true → A) (h2 : b = false → B) : if b = true then A else B := by
  cases b with
  | true => exact h1 rfl
  | false => exact h2 rfl
theorem vc_dT {p A B : Prop} [Decidable p] (e : p) (h : A) : if decide p = true then A else B := by rw [if_pos (decide_eq_true e)]; exact h
theorem vc_ndT {p A B : Prop} [Decidable p] (e : p) (h : B) : if (!decide p) = true then A else B := by rw [if_neg (by simpa using e)]; exact h
theorem vc_ndF {p A B : Prop} [Decidable p] (e : ¬ p) (h : A) : if (!decide p) = true then A else B := by rw [if_pos (by simpa using e)]; exact h
theorem vc_dF {p A B : Prop} [Decidable p] (e : ¬ p) (h : B) : if decide p = true then A else B := by rw [if_neg (by simpa using e)]; exact h
theorem vc_nt {A B : Prop} (h : B) : if (!true) = true then A else B := by rw [if_neg (by decide)]; exact h
theorem vc_nf {A B : Prop} (h : A) : if (!false) = true then A else B := by rw [if_pos (by decide)]; exact h
theorem vc_t {A B : Prop} (h : A) : if true = true then A else B := by rw [if_pos rfl]; exact h
theorem vc_f {A B : Prop} (h : B) : if false = true then A else B := by rw [if_neg Bool.false_ne_true]; exact h
/-! looking up -/
theorem lk_new {a p : Addr} {o u : HO} (n : H p = none) (h : H a = some o) : upd H p u a = some o := by rw [upd_ne (fun e => by rw [e, n] at h; cases h)]; exact h
theorem lk_ne {a p : Addr} {o u : HO} (n : a ≠ p) (h : H a = some o) : upd H p u a = some o := by rw [upd_ne n]; exact h
theorem lk_ex {a : Addr} {o : HO} (e : Ex H H') (h : H a = some o) : H' a = some o := e a o h
theorem sqL_id {p : Addr} {xs : List V} (h : SqL K H p xs) : SqL K H p xs := h
theorem sqT_id {p : Addr} {xs : List V} (h : SqT K H p xs) : SqT K H p xs := h
theorem sqL {p : Addr} {xs : List V} (h : H p = some (.lst xs)) : SqL K H p xs := .inl (.inl h)
theorem sqT {p : Addr} {xs : List V} (h : H p = some (.tup xs)) : SqT K H p xs := .inl (.inl h)
theorem calBot {P : Program} {w : World} {K : PySem.W.Frag} {mg : Str → Option Value} {base : Heap} {st : Stmt} {x : Str} {N ps : List Str}
    (F : ∃ f fd, FunD K x x (defArgs st) (defBody st) (defScope st) [] [] f fd ∧ mg x = some (.ref f)) (S : FnScope N ps (defScope st))
    (hb : ∀ (kV doc pm : Value) (an : Option Addr) (cdv ct : Value) (us : List Value), us.length = ps.length → bindArgs (PySem.W.fnOf x x (defArgs st) (defBody st) (defScope st) .none kV doc pm an cdv ct) ⟨us, []⟩ = pure (ps.zip us)) :
    Cal P w K mg base 1 x (fun _ _ _ _ => False) := mkCal F S hb (fun _ _ _ _ h => h.elim) fun _ _ _ _ _ _ _ _ _ _ h => h.elim
/-! errors, loops -/
def kM (K : PySem.W.Frag) (x : Str) (n : Nat) (mk : List V → List (Str × V)) (vs : List V) (H : Hp) (Q : XK) : Prop := vs.length = n ∧ ∀ d, H d = none → Q (.ref (He.ga K x)) (some d) (upd H d (.xd (mk vs)))
theorem vc_mk {x : Str} {n : Nat} {mk : List V → List (Str × V)} {ta : TA} {Q : XK} (h : ta σ H fun vs H1 => kM K x n mk vs H1 Q) : tMkF K x n mk ta σ H Q := h
theorem vc_kM {x : Str} {n : Nat} {mk : List V → List (Str × V)} {vs : List V} {Q : XK} (e : vs.length = n) (q : ∀ d, H d = none → Q (.ref (He.ga K x)) (some d) (upd H d (.xd (mk vs)))) : kM K x n mk vs H Q := ⟨e, q⟩
theorem vc_iList {tl : TE} {R : It → Hp → Prop} (h : tl σ H fun x H1 => ∃ a, x = .ref a ∧ (∃ xs, SqL K H1 a xs) ∧ R (Itl K a) H1) : iList K tl σ H R := h
theorem vc_iTup {tl : TE} {R : It → Hp → Prop} (h : tl σ H fun x H1 => ∃ a, x = .ref a ∧ (∃ xs, SqT K H1 a xs) ∧ R (Itt K a) H1) : iTup K tl σ H R := h
theorem vc_lL {a : Addr} {xs : List V} {g : TG} {tb : TS} (h : SqL K H a xs) (r : Loop (Itl K a) g tb D σ H) : ∃ b, V.ref a = .ref b ∧ (∃ xs, SqL K H b xs) ∧ Loop (Itl K b) g tb D σ H := ⟨a, rfl, ⟨xs, h⟩, r⟩
theorem vc_tL {a : Addr} {xs : List V} {g : TG} {tb : TS} (h : SqT K H a xs) (r : Loop (Itt K a) g tb D σ H) : ∃ b, V.ref a = .ref b ∧ (∃ xs, SqT K H b xs) ∧ Loop (Itt K b) g tb D σ H := ⟨a, rfl, ⟨xs, h⟩, r⟩
theorem vc_lC {a : Addr} {xs : List V} {g : TG} {tt : TT} {te : TE} {vs : List Nat} {Qd : Addr → Hp → Prop} (h : SqL K H a xs) (r : ∀ D, H D = none → Lcp (Itl K a) g tt te vs σ D H (Qd D)) : ∃ b, V.ref a = .ref b ∧ (∃ xs, SqL K H b xs) ∧ ∀ D, H D = none → Lcp (Itl K b) g tt te vs σ D H (Qd D) := ⟨a, rfl, ⟨xs, h⟩, r⟩
theorem vc_tC {a : Addr} {xs : List V} {g : TG} {tt : TT} {te : TE} {vs : List Nat} {Qd : Addr → Hp → Prop} (h : SqT K H a xs) (r : ∀ D, H D = none → Lcp (Itt K a) g tt te vs σ D H (Qd D)) : ∃ b, V.ref a = .ref b ∧ (∃ xs, SqT K H b xs) ∧ ∀ D, H D = none → Lcp (Itt K b) g tt te vs σ D H (Qd D) := ⟨a, rfl, ⟨xs, h⟩, r⟩
theorem vc_eC {a : Addr} {xs : List V} {g : TG} {tt : TT} {te : TE} {vs : List Nat} {Qd : Addr → Hp → Prop} (h : SqL K H a xs) (r : ∀ D, H D = none → Lcp (Ite K a) g tt te vs σ D H (Qd D)) : ∃ b ys, [V.ref a] = [.ref b] ∧ SqL K H b ys ∧ ∀ D, H D = none → Lcp (Ite K b) g tt te vs σ D H (Qd D) := ⟨a, xs, rfl, h, r⟩
theorem vc_wp {σ2 σ1 : L2.St} {vs ws : List Nat} {B : Prop} (e : wipe σ2 vs = wipe σ1 ws) (h : B) : wipe σ2 vs = wipe σ1 ws ∧ B := ⟨e, h⟩
theorem vc_iStr {te : TE} {R : It → Hp → Prop} (h : te σ H fun v H1 => ∃ x, v = .str x ∧ R (Its x) H1) : iStr te σ H R := h
theorem vc_itS {x : Str} {A : Str → Prop} (r : A x) : ∃ y, V.str x = .str y ∧ A y := ⟨x, rfl, r⟩
theorem vc_iRng1 {ta : TA} {R : It → Hp → Prop} (h : ta σ H fun vs H1 => ∃ j : Int, vs = [.int j] ∧ -(2 ^ 62) ≤ j ∧ j < 2 ^ 62 ∧ R (Itr 0 j.toNat) H1) : iRng1 ta σ H R := h
theorem vc_iEnum {ta : TA} {R : It → Hp → Prop} (h : ta σ H fun vs H1 => ∃ a xs, vs = [.ref a] ∧ SqL K H1 a xs ∧ R (Ite K a) H1) : iEnum K ta σ H R := h
theorem vc_lc {wi : TI} {g : TG} {tt : TT} {te : TE} {vs : List Nat} (h : wi σ H fun J H1 => ∀ D, H1 D = none → Lcp J g tt te vs σ D H1 (Q (.ref D))) : tLc wi g tt te vs σ H Q := h
theorem vc_yes {Q : Bool → Hp → Prop} (h : Q true H) : tYes σ H Q := h
theorem vc_gName {i : Nat} {v : V} {Q : L2.St → Hp → Prop} (h : Q (σ.set i (some v)) H) : gName i v σ H Q := h
theorem lp_list {K : PySem.W.Frag} {a : Addr} {xs : List V} {g : TG} {tb : TS} (Pv : Nat → L2.St → Hp → Prop) (h0 : Pv 0 σ H) (hl : ∀ i σ H, i ≤ xs.length → Pv i σ H → SqL K H a xs)
    (hs : ∀ i x σ H, xs[i]? = some x → Pv i σ H → g x σ H fun σ2 H2 => tb { D with nx := Pv (i + 1), ct := Pv (i + 1), bk := D.nx } σ2 H2) (hd : ∀ σ H, Pv xs.length σ H → D.nx σ H) : Loop (Itl K a) g tb D σ H := for_list Pv h0 hl hs hd
theorem lp_tup {K : PySem.W.Frag} {a : Addr} {xs : List V} {g : TG} {tb : TS} (Pv : Nat → L2.St → Hp → Prop) (h0 : Pv 0 σ H) (hl : ∀ i σ H, i ≤ xs.length → Pv i σ H → SqT K H a xs)
    (hs : ∀ i x σ H, xs[i]? = some x → Pv i σ H → g x σ H fun σ2 H2 => tb { D with nx := Pv (i + 1), ct := Pv (i + 1), bk := D.nx } σ2 H2) (hd : ∀ σ H, Pv xs.length σ H → D.nx σ H) : Loop (Itt K a) g tb D σ H := for_tup Pv h0 hl hs hd
theorem lp_range {lo : Int} {n : Nat} {g : TG} {tb : TS} (Pv : Nat → L2.St → Hp → Prop) (h0 : Pv 0 σ H)
    (hs : ∀ i σ H, i < n → Pv i σ H → g (.int (lo + i)) σ H fun σ2 H2 => tb { D with nx := Pv (i + 1), ct := Pv (i + 1), bk := D.nx } σ2 H2) (hd : ∀ σ H, Pv n σ H → D.nx σ H) : Loop (Itr lo n) g tb D σ H := for_range Pv h0 hs hd
theorem lp_range0 {n : Nat} {g : TG} {tb : TS} (Pv : Nat → L2.St → Hp → Prop) (h0 : Pv 0 σ H)
    (hs : ∀ i σ H, i < n → Pv i σ H → g (.int (i : Nat)) σ H fun σ2 H2 => tb { D with nx := Pv (i + 1), ct := Pv (i + 1), bk := D.nx } σ2 H2) (hd : ∀ σ H, Pv n σ H → D.nx σ H) : Loop (Itr 0 n) g tb D σ H := for_range Pv h0 (fun i σ H hi hp => by rw [Int.zero_add]; exact hs i σ H hi hp) hd
theorem lp_str {x : Str} {g : TG} {tb : TS} (Pv : Nat → L2.St → Hp → Prop) (h0 : Pv 0 σ H)
    (hs : ∀ i c σ H, (TL.tl x)[i]? = some c → Pv i σ H → g (.str ⟨#[c]⟩) σ H fun σ2 H2 => tb { D with nx := Pv (i + 1), ct := Pv (i + 1), bk := D.nx } σ2 H2) (hd : ∀ σ H, Pv (TL.tl x).length σ H → D.nx σ H) : Loop (Its x) g tb D σ H := by
  have e : (TL.tl x).length = x.cps.size := by simp [TL.tl]
  refine for_it walk_str Pv h0 (fun _ _ _ _ _ => trivial) (fun i v σ H H' hi hp hy => ?_) (by rw [← e]; exact hd)
  obtain ⟨rfl, c, hc, rfl⟩ := hy
  exact hs i c σ _ (by simp [TL.tl, hc]) hp
section
variable {g : TG} {tt : TT} {te : TE} {vs : List Nat} {H1 : Hp} {D : Addr} {Qd : Hp → Prop} (Pv : Nat → Hp → Prop)
theorem lc_listQ {a : Addr} {xs : List V} (h0 : Pv 0 (upd H1 D (.lst []))) (hl : ∀ i H, i ≤ xs.length → Pv i H → SqL K H a xs)
    (hs : ∀ i x H, xs[i]? = some x → Pv i H → g x (wipe σ vs) H fun σ2 H2 => wipe σ2 vs = wipe σ vs ∧ tt σ2 H2 fun b H3 =>
      if b = true then te σ2 H3 fun y H4 => ∃ acc, H4 D = some (.lst acc) ∧ acc.length < sizeLine ∧ Pv (i + 1) (upd H4 D (.lst (acc ++ [y]))) else Pv (i + 1) H3) (hd : ∀ H, Pv xs.length H → Qd H) : Lcp (Itl K a) g tt te vs σ D H1 Qd := lc_list Pv h0 hl hs hd
theorem lc_tupQ {a : Addr} {xs : List V} (h0 : Pv 0 (upd H1 D (.lst []))) (hl : ∀ i H, i ≤ xs.length → Pv i H → SqT K H a xs)
    (hs : ∀ i x H, xs[i]? = some x → Pv i H → g x (wipe σ vs) H fun σ2 H2 => wipe σ2 vs = wipe σ vs ∧ tt σ2 H2 fun b H3 =>
      if b = true then te σ2 H3 fun y H4 => ∃ acc, H4 D = some (.lst acc) ∧ acc.length < sizeLine ∧ Pv (i + 1) (upd H4 D (.lst (acc ++ [y]))) else Pv (i + 1) H3) (hd : ∀ H, Pv xs.length H → Qd H) : Lcp (Itt K a) g tt te vs σ D H1 Qd := lc_tup Pv h0 hl hs hd
theorem lc_rangeQ {n : Nat} (h0 : Pv 0 (upd H1 D (.lst [])))
    (hs : ∀ i H, i < n → Pv i H → g (.int (i : Nat)) (wipe σ vs) H fun σ2 H2 => wipe σ2 vs = wipe σ vs ∧ tt σ2 H2 fun b H3 =>
      if b = true then te σ2 H3 fun y H4 => ∃ acc, H4 D = some (.lst acc) ∧ acc.length < sizeLine ∧ Pv (i + 1) (upd H4 D (.lst (acc ++ [y]))) else Pv (i + 1) H3) (hd : ∀ H, Pv n H → Qd H) : Lcp (Itr 0 n) g tt te vs σ D H1 Qd := lc_range Pv h0 (fun i H hi hp => by rw [Int.zero_add]; exact hs i H hi hp) hd
theorem lc_enumQ {a : Addr} {xs : List V} (h0 : Pv 0 (upd H1 D (.lst []))) (hl : ∀ i H, i ≤ xs.length → Pv i H → SqL K H a xs)
    (hs : ∀ i x T H, xs[i]? = some x → Pv i H → H T = none → g (.ref T) (wipe σ vs) (upd H T (.tup [.int (i : Nat), x])) fun σ2 H2 => wipe σ2 vs = wipe σ vs ∧ tt σ2 H2 fun b H3 =>
      if b = true then te σ2 H3 fun y H4 => ∃ acc, H4 D = some (.lst acc) ∧ acc.length < sizeLine ∧ Pv (i + 1) (upd H4 D (.lst (acc ++ [y]))) else Pv (i + 1) H3) (hd : ∀ H, Pv xs.length H → Qd H) : Lcp (Ite K a) g tt te vs σ D H1 Qd := by
  refine lc_it walk_enum Pv h0 hl (fun i v H H' hi hp hy => ?_) hd
  obtain ⟨T, x, y, rfl, hT, rfl, hx, hy⟩ := hy
  cases hx
  exact hs i y T H hy hp hT
end
theorem cutV_tail {v : V} {xs : List V} : cutV (v :: xs) (some 1) none = xs := by
  unfold cutV HT.sIx
  simp
theorem atI_0 {α : Type} {v : α} {xs : List α} : atI (v :: xs) 0 = some v := by simp [atI, ixN]
theorem atI_ex {α : Type} {xs : List α} {i : Int} (h0 : 0 ≤ i) (h1 : i < xs.length) : ∃ x, atI xs i = some x ∧ xs[i.toNat]? = some x ∧ x ∈ xs := by
  have h : i.toNat < xs.length := by omega
  refine ⟨xs[i.toNat], ?_, List.getElem?_eq_getElem h, List.getElem_mem h⟩
  unfold atI ixN
  rw [if_pos h0, if_pos h1]
  exact List.getElem?_eq_getElem h
end
end Fk
namespace Fk
open PySem PySem.Spec PyProof.Rows L2 TL
/-! ### plain numbers in texts -/
def digs : List Nat := [48, 49, 50, 51, 52, 53, 54, 55, 56, 57]
theorem tl_digs : tl ("0123456789" : Str) = digs := by rfl
def okN (l : List Nat) : Bool := decide (1 ≤ l.length) && decide (l.length ≤ 3) && !(decide (l.head? = some 48) && decide (1 < l.length)) && l.all fun c => decide (c ∈ digs)
def valN (l : List Nat) : Int := (NumText.digitsVal l : Int)
theorem okN_iff {l : List Nat} : okN l = true ↔ 1 ≤ l.length ∧ l.length ≤ 3 ∧ ¬ (l.head? = some 48 ∧ 1 < l.length) ∧ ∀ c ∈ l, c ∈ digs := by
  unfold okN
  simp only [Bool.and_eq_true, decide_eq_true_eq, Bool.not_eq_true', List.all_eq_true, Bool.and_eq_false_iff, decide_eq_false_iff_not]
  constructor
  · rintro ⟨⟨⟨a, b⟩, c⟩, d⟩
    exact ⟨a, b, fun q => c.elim (fun n => n q.1) fun n => n q.2, d⟩
  · rintro ⟨a, b, c, d⟩
    exact ⟨⟨⟨a, b⟩, Classical.not_and_iff_not_or_not.mp c⟩, d⟩
theorem okN_bad {l : List Nat} (h : ¬ (1 ≤ l.length ∧ l.length ≤ 3 ∧ ¬ (l.head? = some 48 ∧ 1 < l.length) ∧ ∀ c ∈ l, c ∈ digs)) : okN l = false := by
  cases e : okN l with
  | false => rfl
  | true => exact absurd (okN_iff.mp e) h
theorem okN_int {x : Str} (h : okN (tl x) = true) : PySem.intText? x = some (valN (tl x)) ∧ x.length ≤ 640 := by
  obtain ⟨h1, h2, _, h4⟩ := okN_iff.mp h
  have hl := len_tl x
  refine ⟨PySem.intText_digits (fun c hc => ?_) (fun e => ?_) (by omega), by omega⟩
  · have := h4 c hc
    simp only [digs, List.mem_cons, List.not_mem_nil, or_false] at this
    omega
  · have e : tl x = [] := e
    rw [e] at h1
    simp at h1
theorem digs_one {c : Nat} : ((⟨#[c]⟩ : Str) = ("0" : Str)) ↔ c = 48 := by
  have e : ("0" : Str) = ⟨#[48]⟩ := by rfl
  rw [e]
  simp
theorem str_nil {x : Str} : (x = ("" : Str)) ↔ (tl x).length = 0 := by
  have e : ("" : Str) = ⟨#[]⟩ := by rfl
  rw [e]
  constructor
  · intro h
    subst h
    rfl
  · intro h
    have : x = ⟨#[]⟩ := ext_tl (List.eq_nil_of_length_eq_zero h)
    rw [this]
theorem at0 {x : Str} (h : (tl x).length ≠ 0) : ∃ c, atI x.cps.toList 0 = some c ∧ (tl x).head? = some c := by
  cases e : tl x with
  | nil => rw [e] at h; simp at h
  | cons c r => exact ⟨c, by show atI (tl x) 0 = some c; rw [e]; simp [atI, ixN], rfl⟩
def nmS (n : Int) : Str := Str.ofString (toString n)
theorem tl_nmS {n : Int} (h : 0 ≤ n) : tl (nmS n) = numL n.toNat := by
  have e : n = ((n.toNat : Nat) : Int) := by omega
  unfold nmS
  rw [e, tl_num, Int.toNat_natCast]
theorem nmS_len {n : Int} (h : 0 ≤ n) (h1 : n ≤ 999) : (nmS n).length ≤ 3 := by
  rw [len_tl, tl_nmS h]
  exact numL_len (by decide) (by omega)
theorem lg {n : Int} (h : 0 ≤ n) (h1 : n ≤ 999999) : n.natAbs.log2 < 1920 := by
  by_cases e : n.natAbs = 0
  · rw [e]; decide
  · rw [Nat.log2_lt e]
    exact Nat.lt_of_lt_of_le (show n.natAbs < 2 ^ 20 by omega) (Nat.pow_le_pow_right (by decide) (by decide))
theorem sum_le {b : Nat} : ∀ {ys : List Str}, (∀ y ∈ ys, y.length ≤ b) → (ys.map (·.length)).sum ≤ ys.length * b
  | [], _ => by simp
  | y :: ys, h => by
    have h1 := h y (List.mem_cons_self ..)
    have h2 := sum_le (ys := ys) fun z hz => h z (List.mem_cons_of_mem _ hz)
    simp only [List.map_cons, List.sum_cons, List.length_cons, Nat.add_mul, Nat.one_mul]
    omega
/-! ### split, join: how long -/
theorem spl1_sum {c : Nat} : ∀ (l acc : List Nat), ((spl [c] 0 acc l).map List.length).sum + (spl [c] 0 acc l).length = acc.length + l.length + 1
  | [], acc => by rw [spl_nil]; simp
  | d :: r, acc => by
    cases h : pre [c] (d :: r) with
    | true =>
      rw [spl_hit h]
      have := spl1_sum (c := c) r []
      simp only [List.map_cons, List.sum_cons, List.length_cons, List.length_nil, Nat.zero_add, Nat.sub_self] at this ⊢
      omega
    | false =>
      rw [spl_miss h]
      have := spl1_sum (c := c) r (acc ++ [d])
      simp only [List.length_append, List.length_cons, List.length_nil] at this ⊢
      omega
theorem split_sum {x s : Str} {c : Nat} (hs : tl s = [c]) (hk : s.cps.all (· < 256) = true) : ((Txt.split x s).map (·.length)).sum + (Txt.split x s).length = x.length + 1 := by
  have e := split_spl x s (by rw [hs]; simp) (kind_ok hk)
  rw [hs] at e
  have h := spl1_sum (c := c) (tl x) []
  rw [← e, List.map_map, List.length_map] at h
  have e2 : (Txt.split x s).map (·.length) = (Txt.split x s).map (List.length ∘ tl) := List.map_congr_left fun y _ => len_tl y
  rw [e2, h, len_tl x]
  simp
theorem split_ne {x s : Str} {c : Nat} (hs : tl s = [c]) (hk : s.cps.all (· < 256) = true) : ∃ y r, Txt.split x s = y :: r := by
  cases e : Txt.split x s with
  | nil => have := split_sum (x := x) hs hk; rw [e] at this; simp at this
  | cons y r => exact ⟨y, r, rfl⟩
theorem mem_sum {y : Str} : ∀ {ys : List Str}, y ∈ ys → y.length ≤ (ys.map (·.length)).sum
  | z :: ys, h => by
    simp only [List.map_cons, List.sum_cons]
    rcases List.mem_cons.mp h with rfl | h
    · omega
    · have := mem_sum h; omega
theorem split_le {x s : Str} {c : Nat} (hs : tl s = [c]) (hk : s.cps.all (· < 256) = true) : (Txt.split x s).length ≤ x.length + 1 ∧ ∀ y ∈ Txt.split x s, y.length ≤ x.length := by
  have h := split_sum (x := x) hs hk
  obtain ⟨y, r, e⟩ := split_ne (x := x) hs hk
  refine ⟨by omega, fun y hy => ?_⟩
  have h1 := mem_sum hy
  have h2 : 1 ≤ (Txt.split x s).length := by rw [e]; simp
  omega
theorem joinL_len (S : List Nat) : ∀ ps : List (List Nat), (joinL S ps).length ≤ (ps.map List.length).sum + ps.length * S.length
  | [] => by simp [joinL]
  | [p] => by simp [joinL]
  | p :: q :: r => by
    have := joinL_len S (q :: r)
    simp only [joinL, List.length_append, List.map_cons, List.sum_cons, List.length_cons, Nat.add_mul, Nat.one_mul] at this ⊢
    omega
theorem join_len (a : Str) (ys : List Str) : (Txt.join a ys).length ≤ (ys.map (·.length)).sum + ys.length * a.length := by
  have h := joinL_len (tl a) (ys.map tl)
  rw [join_eq, len_tl, tl_join]
  rw [List.map_map, List.length_map] at h
  have e2 : ys.map (·.length) = ys.map (List.length ∘ tl) := List.map_congr_left fun y _ => len_tl y
  rw [e2, len_tl a]
  exact h
theorem sp_sp : tl (" " : Str) = [32] ∧ (" " : Str).cps.all (· < 256) = true := ⟨rfl, by decide +kernel⟩
theorem sp_nl : tl ("\n" : Str) = [10] ∧ ("\n" : Str).cps.all (· < 256) = true := ⟨rfl, by decide +kernel⟩
end Fk
namespace Fk
open PySem PySem.Spec PyProof.Rows L2 TL
open Evl (Ex)
/-! ### plain data on the heap -/
inductive Dt where
  | non | bl (b : Bool) | int (i : Int) | str (s : Str) | lst (l : List Dt) | tup (l : List Dt)
mutual
inductive Rp (H : Hp) : V → Dt → Prop
  | non : Rp H .non .non
  | bl (b : Bool) : Rp H (.bl b) (.bl b)
  | int (i : Int) : Rp H (.int i) (.int i)
  | str (s : Str) : Rp H (.str s) (.str s)
  | lst {a : Addr} {xs : List V} {ds : List Dt} : H a = some (.lst xs) → RpA H xs ds → Rp H (.ref a) (.lst ds)
  | tup {a : Addr} {xs : List V} {ds : List Dt} : H a = some (.tup xs) → RpA H xs ds → Rp H (.ref a) (.tup ds)
inductive RpA (H : Hp) : List V → List Dt → Prop
  | nil : RpA H [] []
  | cons {v : V} {d : Dt} {xs : List V} {ds : List Dt} : Rp H v d → RpA H xs ds → RpA H (v :: xs) (d :: ds)
end
theorem Rp.ex {H H' : Hp} (e : Ex H H') {v : V} {d : Dt} (h : Rp H v d) : Rp H' v d := by
  refine Rp.rec (motive_1 := fun v d _ => Rp H' v d) (motive_2 := fun xs ds _ => RpA H' xs ds) .non .bl .int .str (fun h1 _ ih => .lst (e _ _ h1) ih) (fun h1 _ ih => .tup (e _ _ h1) ih) .nil (fun _ _ i1 i2 => .cons i1 i2) h
theorem RpA.ex {H H' : Hp} (e : Ex H H') {xs : List V} {ds : List Dt} (h : RpA H xs ds) : RpA H' xs ds := by
  refine RpA.rec (motive_1 := fun v d _ => Rp H' v d) (motive_2 := fun xs ds _ => RpA H' xs ds) .non .bl .int .str (fun h1 _ ih => .lst (e _ _ h1) ih) (fun h1 _ ih => .tup (e _ _ h1) ih) .nil (fun _ _ i1 i2 => .cons i1 i2) h
theorem RpA.len {H : Hp} : ∀ {xs : List V} {ds : List Dt}, RpA H xs ds → xs.length = ds.length
  | _, _, .nil => rfl
  | _, _, .cons _ t => by simp [t.len]
theorem RpA.get {H : Hp} : ∀ {xs : List V} {ds : List Dt} (_ : RpA H xs ds) (i : Nat) {v : V}, xs[i]? = some v → ∃ d, ds[i]? = some d ∧ Rp H v d
  | _, _, .nil, i, v, h => by simp at h
  | _, _, .cons r _, 0, v, h => by simp at h; subst h; exact ⟨_, rfl, r⟩
  | _, _, .cons _ t, i + 1, v, h => by
    obtain ⟨d, h1, h2⟩ := RpA.get t i (v := v) (by simpa using h)
    exact ⟨d, by simpa using h1, h2⟩
mutual
/-- how deep -/
def Dt.dep : Dt → Nat
  | .lst l => depL l + 1
  | .tup l => depL l + 1
  | _ => 0
def depL : List Dt → Nat
  | [] => 0
  | d :: l => max d.dep (depL l)
end
theorem depL_get : ∀ {l : List Dt} {i : Nat} {d : Dt}, l[i]? = some d → d.dep ≤ depL l
  | [], i, d, h => by simp at h
  | x :: l, 0, d, h => by simp at h; subst h; unfold depL; exact Nat.le_max_left _ _
  | x :: l, i + 1, d, h => by
    have := depL_get (l := l) (i := i) (d := d) (by simpa using h)
    unfold depL
    exact Nat.le_trans this (Nat.le_max_right _ _)
theorem depL_le {n : Nat} : ∀ {l : List Dt}, (∀ d ∈ l, d.dep ≤ n) → depL l ≤ n
  | [], _ => by unfold depL; exact Nat.zero_le _
  | x :: l, h => by
    unfold depL
    exact Nat.max_le.mpr ⟨h x (List.mem_cons_self ..), depL_le fun d hd => h d (List.mem_cons_of_mem _ hd)⟩
/-! ### all of the heap but one object -/
def ExB (st : Addr) (H H' : Hp) : Prop := ∀ a o, a ≠ st → H a = some o → H' a = some o
theorem ExB.refl (st : Addr) (H : Hp) : ExB st H H := fun _ _ _ h => h
theorem ExB.trans {st : Addr} {H H1 H2 : Hp} (a : ExB st H H1) (b : ExB st H1 H2) : ExB st H H2 := fun x o n h => b x o n (a x o n h)
theorem ExB.of {st : Addr} {H H' : Hp} (e : Ex H H') : ExB st H H' := fun a o _ h => e a o h
theorem ExB.put {st : Addr} {H H' : Hp} {o : HO} (e : ExB st H H') : ExB st H (upd H' st o) := fun a u n h => by rw [upd_ne n]; exact e a u n h
theorem ExB.mut {st p : Addr} {H H' : Hp} {o : HO} (e : ExB st H H') (n : H p = none) : ExB st H (upd H' p o) := fun a u h ha => by
  have : a ≠ p := fun q => by rw [q, n] at ha; cases ha
  rw [upd_ne this]
  exact e a u h ha
theorem ExB.new {st p : Addr} {H H' : Hp} {o : HO} (e : ExB st H H') (n : H' p = none) : ExB st H (upd H' p o) := e.trans (ExB.of (Ex.new n))
theorem lk_exB {st a : Addr} {H H' : Hp} {o : HO} (e : ExB st H H') (n : a ≠ st) (h : H a = some o) : H' a = some o := e a o n h
/-- the state of the draws: its list, the list of the script -/
def Drw (H : Hp) (st sc : Addr) : Prop := ∃ (ns : List Int) (i v k f : Int), H st = some (.lst [.ref sc, .int i, .int v, .int k, .int f]) ∧ sc ≠ st ∧ H sc = some (.lst (ns.map V.int)) ∧ 0 ≤ i
section
variable {H H' : Hp} {st sc p : Addr}
theorem Drw.ex (e : Ex H H') (h : Drw H st sc) : Drw H' st sc := by
  obtain ⟨ns, i, v, k, f, h1, h2, h3, h4⟩ := h
  exact ⟨ns, i, v, k, f, e _ _ h1, h2, e _ _ h3, h4⟩
theorem Drw.ne (h : Drw H st sc) (n : H p = none) : p ≠ st := by
  obtain ⟨ns, i, v, k, f, h1, h2, h3, h4⟩ := h
  intro e
  rw [e, h1] at n
  cases n
theorem Drw.ne2 (h : Drw H st sc) (n : H p = none) : p ≠ sc := by
  obtain ⟨ns, i, v, k, f, h1, h2, h3, h4⟩ := h
  intro e
  rw [e, h3] at n
  cases n
theorem Drw.neT {xs : List V} (h : Drw H st sc) (n : H p = some (.tup xs)) : p ≠ st := by
  obtain ⟨ns, i, v, k, f, h1, h2, h3, h4⟩ := h
  intro e
  rw [e, h1] at n
  cases n
theorem Drw.fresh (d : Drw H' st sc) (e : ExB st H H') (n : H' p = none) : H p = none := by
  have hp := d.ne n
  cases q : H p with
  | none => rfl
  | some o => rw [e p o hp q] at n; cases n
theorem Drw.mut {o : HO} (d : Drw H st sc) (h : p ≠ st) (h2 : p ≠ sc) : Drw (upd H p o) st sc := by
  obtain ⟨ns, i, v, k, f, h1, e2, h3, h4⟩ := d
  exact ⟨ns, i, v, k, f, by rw [upd_ne (Ne.symm h)]; exact h1, e2, by rw [upd_ne (Ne.symm h2)]; exact h3, h4⟩
end
/-! ### the first that fails -/
def runO {α : Type} : List (Option α) → Nat → Sum (List α) Nat
  | [], _ => .inl []
  | none :: _, i => .inr i
  | some a :: r, i => match runO r (i + 1) with
    | .inl l => .inl (a :: l)
    | .inr j => .inr j
theorem runO_ok {α : Type} : ∀ {l : List (Option α)} {ds : List α} {i : Nat}, l = ds.map some → runO l i = .inl ds
  | _, [], i, h => by rw [h]; rfl
  | _, d :: ds, i, h => by
    rw [h, List.map_cons]
    show (match runO (ds.map some) (i + 1) with | Sum.inl l => (Sum.inl (d :: l) : Sum (List α) Nat) | Sum.inr j => Sum.inr j) = _
    rw [runO_ok rfl]
theorem runO_bad {α : Type} : ∀ {l : List (Option α)} {k i : Nat}, l[k]? = some none → (∀ j, j < k → l[j]? ≠ some none) → runO l i = .inr (i + k)
  | [], k, i, h, _ => by simp at h
  | x :: l, 0, i, h, _ => by
    simp at h
    subst h
    rfl
  | x :: l, k + 1, i, h, hb => by
    cases x with
    | none => exact absurd rfl (hb 0 (Nat.succ_pos _))
    | some a =>
      have := runO_bad (l := l) (k := k) (i := i + 1) (by simpa using h) (fun j hj e => hb (j + 1) (by omega) (by simpa using e))
      show (match runO l (i + 1) with | Sum.inl l => (Sum.inl (a :: l) : Sum (List α) Nat) | Sum.inr j => Sum.inr j) = _
      rw [this]
      show Sum.inr (i + 1 + k) = _
      rw [Nat.add_assoc, Nat.add_comm 1 k]
end Fk
namespace Z
open PySem PySem.Spec PyProof.Rows L2 Fk
open He (ga ma)
def top (i : Nat) : Stmt := PySem.Challenge.pw_promisesowned_k50_yard_deeds_as_text.main.body.getD i (.Pass ⟨0, 0, 0, 0⟩)
variable {P : Program} {w : World} {K : PySem.W.Frag} {mg : Str → Option Value} {base : Heap}
abbrev s_ForkError_init : Stmt := inClass (top 1) 0
theorem sc_ForkError_init : NdefX.NScope ["self", "reason", "__class__"] ["self", "reason"] ["__class__"] (defScope s_ForkError_init) := NdefX.nscope_by (by decide +kernel)
theorem ok_ForkError_init (F : FunS P K mg "ForkError" "ForkError.__init__" s_ForkError_init) : ∃ fd, FnOk P w K mg base CX0 1 (ma K (ga K "ForkError") "__init__") fd ["self", "reason"] (spFork K) ∧ Binds K fd ["self", "reason"] [] := by
  obtain ⟨oc, od, osl, doc, pm, ct, c, cc, lk, hcd, SF⟩ := F.ex
  refine ⟨_, fn_ofS lk hcd sc_ForkError_init SF (ar := _) rfl rfl rfl rfl rfl (fun _ => _) (by intro env; rfl) (by intro env; rfl) (by intro env; rfl) (fun vs H Q E h => ?_) (fun A outer s H vs Q E hr h => ?_), Binds.all fun us hl => match us, hl with | [_, _], _ => rfl⟩
  · obtain ⟨a, C, v, rfl, _⟩ := h
    rfl
  · obtain ⟨a, C, v, rfl, FC, ha, k⟩ := h
    refine ⟨_, _, a, C, [v], rfl, FC.T, ha, pa_cons (pv 1) pa_nil, pss_one (ps_ost (pv 0) (pv 1)), ?_⟩
    exact .base FC.S FC.sB ⟨_, rfl, by show 1 ≤ 1000; decide, ha, _, rfl, _, rfl, a, C, rfl, FC.T, FC.nr, .inl ⟨ha, fun dx n ne => k dx n ne⟩⟩
abbrev s_BadText_init : Stmt := inClass (top 2) 0
theorem sc_BadText_init : NdefX.NScope ["self", "line", "__class__"] ["self", "line"] ["__class__"] (defScope s_BadText_init) := NdefX.nscope_by (by decide +kernel)
def mk_BadText : List V → List (Str × V) := fun us => match us with | [v1] => (("line", v1) :: [("reason", .str "bad text")] : List (Str × V)) | _ => []
structure Hv_BadText (K : PySem.W.Frag) : Prop where
  F : ForkC K (ga K "BadText")
  S : SupC K (ga K "BadText") (ga K "BadText") (.ref (ma K (ga K "ForkError") "__init__"))
  n_line : PySem.W.findIn K (.ref (ga K "BadText")) "line" = some none
theorem ok_BadText_init (F0 : FunS P K mg "ForkError" "ForkError.__init__" s_ForkError_init) (F : FunS P K mg "BadText" "BadText.__init__" s_BadText_init) (C : Hv_BadText K) (g : mg "BadText" = some (.ref (ga K "BadText"))) (iC : PySem.W.findIn K (.ref (ga K "BadText")) "__init__" = some (some (.ref (ma K (ga K "BadText") "__init__")))) : ErrK P w K mg base "BadText" 2 1 mk_BadText := by
  obtain ⟨fd0, G0, b0⟩ := ok_ForkError_init (P := P) (w := w) (base := base) F0
  obtain ⟨oc, od, osl, doc, pm, ct, c, cc, lk, hcd, SF⟩ := F.ex
  obtain ⟨fdG, G, bG⟩ : ∃ fdG, FnOk P w K mg base CX0 2 (ma K (ga K "BadText") "__init__") fdG ["self", "line"] (fun vs H Q _ => ∃ (a : Addr) (us : List V), vs = .ref a :: us ∧ us.length = 1 ∧ H a = some (exo a (ga K "BadText") none) ∧ ∀ d, H d = none → d ≠ a → Q .non (upd (upd H a (exo a (ga K "BadText") (some d))) d (exd d (mk_BadText us)))) ∧ Binds K fdG ["self", "line"] [] := by
    refine ⟨_, fn_ofS lk hcd sc_BadText_init SF (ar := _) rfl rfl rfl rfl rfl (fun _ => _) (by intro env; rfl) (by intro env; rfl) (by intro env; rfl) (fun vs H Q E h => ?_) (fun A outer s H vs Q E hr h => ?_), Binds.all fun us hl => match us, hl with | [_, _], _ => rfl⟩
    · obtain ⟨a, us, rfl, hl, _⟩ := h
      simp [hl]
    · obtain ⟨a, us, rfl, hl, ha, k⟩ := h
      match us, hl with
      | [v1], _ =>
        refine ⟨_, _, a, _, [v1], rfl, C.F.T, ha, pa_cons pe_str pa_nil, (pss_one (ps_ost (pv 0) (pv 1))), ?_⟩
        refine .user C.S F0.ty F0.fi G0 (hr.mono (by decide)) b0 ⟨ha, a, _, _, rfl, C.F, ha, fun d nd nda => ?_⟩
        have e0 : upd (upd H d (exd d [("reason", .str "bad text")])) a (exo a (ga K "BadText") (some d)) = upd (upd H a (exo a (ga K "BadText") (some d))) d (exd d [("reason", .str "bad text")]) := upd_comm nda
        rw [e0]
        refine ⟨_, rfl, _, rfl, a, _, rfl, C.F.T, C.n_line, .inr ⟨d, _, by rw [upd_ne (Ne.symm nda), upd_same], upd_same, by show 1 ≤ 900; decide, ?_⟩⟩
        rw [upd_upd]
        exact k d nd nda
  refine ⟨C.F.T, g, iC, F.ty, _, _, _, G, bG, fun a us H Q hl ha k => ⟨a, us, rfl, hl, ha, k⟩⟩
abbrev s_BadDeed_init : Stmt := inClass (top 3) 0
theorem sc_BadDeed_init : NdefX.NScope ["self", "deed", "__class__"] ["self", "deed"] ["__class__"] (defScope s_BadDeed_init) := NdefX.nscope_by (by decide +kernel)
def mk_BadDeed : List V → List (Str × V) := fun us => match us with | [v1] => (("deed", v1) :: [("reason", .str "bad deed")] : List (Str × V)) | _ => []
structure Hv_BadDeed (K : PySem.W.Frag) : Prop where
  F : ForkC K (ga K "BadDeed")
  S : SupC K (ga K "BadDeed") (ga K "BadDeed") (.ref (ma K (ga K "ForkError") "__init__"))
  n_deed : PySem.W.findIn K (.ref (ga K "BadDeed")) "deed" = some none
theorem ok_BadDeed_init (F0 : FunS P K mg "ForkError" "ForkError.__init__" s_ForkError_init) (F : FunS P K mg "BadDeed" "BadDeed.__init__" s_BadDeed_init) (C : Hv_BadDeed K) (g : mg "BadDeed" = some (.ref (ga K "BadDeed"))) (iC : PySem.W.findIn K (.ref (ga K "BadDeed")) "__init__" = some (some (.ref (ma K (ga K "BadDeed") "__init__")))) : ErrK P w K mg base "BadDeed" 2 1 mk_BadDeed := by
  obtain ⟨fd0, G0, b0⟩ := ok_ForkError_init (P := P) (w := w) (base := base) F0
  obtain ⟨oc, od, osl, doc, pm, ct, c, cc, lk, hcd, SF⟩ := F.ex
  obtain ⟨fdG, G, bG⟩ : ∃ fdG, FnOk P w K mg base CX0 2 (ma K (ga K "BadDeed") "__init__") fdG ["self", "deed"] (fun vs H Q _ => ∃ (a : Addr) (us : List V), vs = .ref a :: us ∧ us.length = 1 ∧ H a = some (exo a (ga K "BadDeed") none) ∧ ∀ d, H d = none → d ≠ a → Q .non (upd (upd H a (exo a (ga K "BadDeed") (some d))) d (exd d (mk_BadDeed us)))) ∧ Binds K fdG ["self", "deed"] [] := by
    refine ⟨_, fn_ofS lk hcd sc_BadDeed_init SF (ar := _) rfl rfl rfl rfl rfl (fun _ => _) (by intro env; rfl) (by intro env; rfl) (by intro env; rfl) (fun vs H Q E h => ?_) (fun A outer s H vs Q E hr h => ?_), Binds.all fun us hl => match us, hl with | [_, _], _ => rfl⟩
    · obtain ⟨a, us, rfl, hl, _⟩ := h
      simp [hl]
    · obtain ⟨a, us, rfl, hl, ha, k⟩ := h
      match us, hl with
      | [v1], _ =>
        refine ⟨_, _, a, _, [v1], rfl, C.F.T, ha, pa_cons pe_str pa_nil, (pss_one (ps_ost (pv 0) (pv 1))), ?_⟩
        refine .user C.S F0.ty F0.fi G0 (hr.mono (by decide)) b0 ⟨ha, a, _, _, rfl, C.F, ha, fun d nd nda => ?_⟩
        have e0 : upd (upd H d (exd d [("reason", .str "bad deed")])) a (exo a (ga K "BadDeed") (some d)) = upd (upd H a (exo a (ga K "BadDeed") (some d))) d (exd d [("reason", .str "bad deed")]) := upd_comm nda
        rw [e0]
        refine ⟨_, rfl, _, rfl, a, _, rfl, C.F.T, C.n_deed, .inr ⟨d, _, by rw [upd_ne (Ne.symm nda), upd_same], upd_same, by show 1 ≤ 900; decide, ?_⟩⟩
        rw [upd_upd]
        exact k d nd nda
  refine ⟨C.F.T, g, iC, F.ty, _, _, _, G, bG, fun a us H Q hl ha k => ⟨a, us, rfl, hl, ha, k⟩⟩
end Z
namespace Z
open PySem PySem.Spec PyProof.Rows L2 Fk
open He (ga ma)
variable {P : Program} {w : World} {K : PySem.W.Frag} {mg : Str → Option Value} {base : Heap}
abbrev s_read_number : Stmt := top 7
abbrev N_read_number : List Str := ["word", "line", "char"]
theorem sc_read_number : FnScope N_read_number ["word", "line"] (defScope s_read_number) := ⟨rfl, rfl, rfl, by decide +kernel, rfl, by decide +kernel, by decide +kernel⟩
abbrev s_is_yard_form : Stmt := top 12
abbrev N_is_yard_form : List Str := ["word", "many"]
theorem sc_is_yard_form : FnScope N_is_yard_form ["word", "many"] (defScope s_is_yard_form) := ⟨rfl, rfl, rfl, by decide +kernel, rfl, by decide +kernel, by decide +kernel⟩
abbrev s_is_yard_deed : Stmt := top 13
abbrev N_is_yard_deed : List Str := ["deed"]
theorem sc_is_yard_deed : FnScope N_is_yard_deed ["deed"] (defScope s_is_yard_deed) := ⟨rfl, rfl, rfl, by decide +kernel, rfl, by decide +kernel, by decide +kernel⟩
abbrev s_yard_deed_text : Stmt := top 14
abbrev N_yard_deed_text : List Str := ["deed", "number"]
theorem sc_yard_deed_text : FnScope N_yard_deed_text ["deed"] (defScope s_yard_deed_text) := ⟨rfl, rfl, rfl, by decide +kernel, rfl, by decide +kernel, by decide +kernel⟩
abbrev s_write_yard_deeds : Stmt := top 15
abbrev N_write_yard_deeds : List Str := ["deeds", "deed"]
theorem sc_write_yard_deeds : FnScope N_write_yard_deeds ["deeds"] (defScope s_write_yard_deeds) := ⟨rfl, rfl, rfl, by decide +kernel, rfl, by decide +kernel, by decide +kernel⟩
abbrev s_read_yard_deed : Stmt := top 16
abbrev N_read_yard_deed : List Str := ["text", "line", "words", "numbers", "word"]
theorem sc_read_yard_deed : FnScope N_read_yard_deed ["text", "line"] (defScope s_read_yard_deed) := ⟨rfl, rfl, rfl, by decide +kernel, rfl, by decide +kernel, by decide +kernel⟩
abbrev s_read_yard_deeds : Stmt := top 17
abbrev N_read_yard_deeds : List Str := ["text", "index", "row"]
theorem sc_read_yard_deeds : FnScope N_read_yard_deeds ["text"] (defScope s_read_yard_deeds) := ⟨rfl, rfl, rfl, by decide +kernel, rfl, by decide +kernel, by decide +kernel⟩
abbrev s__law_start : Stmt := top 19
abbrev N__law_start : List Str := ["script"]
theorem sc__law_start : FnScope N__law_start ["script"] (defScope s__law_start) := ⟨rfl, rfl, rfl, by decide +kernel, rfl, by decide +kernel, by decide +kernel⟩
abbrev s__law_draw : Stmt := top 20
abbrev N__law_draw : List Str := ["state", "many", "value", "mixed"]
theorem sc__law_draw : FnScope N__law_draw ["state", "many"] (defScope s__law_draw) := ⟨rfl, rfl, rfl, by decide +kernel, rfl, by decide +kernel, by decide +kernel⟩
abbrev s__law_is_number : Stmt := top 21
abbrev N__law_is_number : List Str := ["actual"]
theorem sc__law_is_number : FnScope N__law_is_number ["actual"] (defScope s__law_is_number) := ⟨rfl, rfl, rfl, by decide +kernel, rfl, by decide +kernel, by decide +kernel⟩
abbrev s__law_same : Stmt := top 22
abbrev N__law_same : List Str := ["actual", "expected", "k"]
theorem sc__law_same : FnScope N__law_same ["actual", "expected"] (defScope s__law_same) := ⟨rfl, rfl, rfl, by decide +kernel, rfl, by decide +kernel, by decide +kernel⟩
abbrev s__law_spoiled : Stmt := top 23
abbrev N__law_spoiled : List Str := ["state", "text", "signs", "place", "sign", "kind", "lines", "line"]
theorem sc__law_spoiled : FnScope N__law_spoiled ["state", "text"] (defScope s__law_spoiled) := ⟨rfl, rfl, rfl, by decide +kernel, rfl, by decide +kernel, by decide +kernel⟩
abbrev s__law_is_written : Stmt := top 24
abbrev N__law_is_written : List Str := ["word", "sign"]
theorem sc__law_is_written : FnScope N__law_is_written ["word"] (defScope s__law_is_written) := ⟨rfl, rfl, rfl, by decide +kernel, rfl, by decide +kernel, by decide +kernel⟩
abbrev s__law_is_yard_deed : Stmt := top 25
abbrev N__law_is_yard_deed : List Str := ["deed"]
theorem sc__law_is_yard_deed : FnScope N__law_is_yard_deed ["deed"] (defScope s__law_is_yard_deed) := ⟨rfl, rfl, rfl, by decide +kernel, rfl, by decide +kernel, by decide +kernel⟩
abbrev s__law_text_deed : Stmt := top 26
abbrev N__law_text_deed : List Str := ["state", "words", "word", "most", "many", "k"]
theorem sc__law_text_deed : FnScope N__law_text_deed ["state"] (defScope s__law_text_deed) := ⟨rfl, rfl, rfl, by decide +kernel, rfl, by decide +kernel, by decide +kernel⟩
abbrev s__law_deed_line : Stmt := top 27
abbrev N__law_deed_line : List Str := ["deed", "number"]
theorem sc__law_deed_line : FnScope N__law_deed_line ["deed"] (defScope s__law_deed_line) := ⟨rfl, rfl, rfl, by decide +kernel, rfl, by decide +kernel, by decide +kernel⟩
abbrev s__law_line_deed : Stmt := top 28
abbrev N__law_line_deed : List Str := ["line", "words", "numbers", "word"]
theorem sc__law_line_deed : FnScope N__law_line_deed ["line"] (defScope s__law_line_deed) := ⟨rfl, rfl, rfl, by decide +kernel, rfl, by decide +kernel, by decide +kernel⟩
abbrev s__law_read_due : Stmt := top 29
abbrev N__law_read_due : List Str := ["text", "deeds", "lines", "k", "deed"]
theorem sc__law_read_due : FnScope N__law_read_due ["text"] (defScope s__law_read_due) := ⟨rfl, rfl, rfl, by decide +kernel, rfl, by decide +kernel, by decide +kernel⟩
abbrev s__law_read : Stmt := top 30
abbrev N__law_read : List Str := ["text", "e"]
theorem sc__law_read : FnScope N__law_read ["text"] (defScope s__law_read) := ⟨rfl, rfl, rfl, by decide +kernel, rfl, by decide +kernel, by decide +kernel⟩
abbrev s__law_write_due : Stmt := top 31
abbrev N__law_write_due : List Str := ["items", "lines", "item", "number"]
theorem sc__law_write_due : FnScope N__law_write_due ["items"] (defScope s__law_write_due) := ⟨rfl, rfl, rfl, by decide +kernel, rfl, by decide +kernel, by decide +kernel⟩
abbrev s__law_written : Stmt := top 32
abbrev N__law_written : List Str := ["items", "e"]
theorem sc__law_written : FnScope N__law_written ["items"] (defScope s__law_written) := ⟨rfl, rfl, rfl, by decide +kernel, rfl, by decide +kernel, by decide +kernel⟩
abbrev s__law_odd_line : Stmt := top 33
abbrev N__law_odd_line : List Str := ["pick", "odd"]
theorem sc__law_odd_line : FnScope N__law_odd_line ["pick"] (defScope s__law_odd_line) := ⟨rfl, rfl, rfl, by decide +kernel, rfl, by decide +kernel, by decide +kernel⟩
abbrev s__law_odd_item : Stmt := top 34
abbrev N__law_odd_item : List Str := ["pick", "odd"]
theorem sc__law_odd_item : FnScope N__law_odd_item ["pick"] (defScope s__law_odd_item) := ⟨rfl, rfl, rfl, by decide +kernel, rfl, by decide +kernel, by decide +kernel⟩
abbrev s__law_with_odd : Stmt := top 35
abbrev N__law_with_odd : List Str := ["state", "rows", "many", "lines", "changed", "k", "place", "pick"]
theorem sc__law_with_odd : FnScope N__law_with_odd ["state", "rows", "many", "lines"] (defScope s__law_with_odd) := ⟨rfl, rfl, rfl, by decide +kernel, rfl, by decide +kernel, by decide +kernel⟩
abbrev s_law : Stmt := top 36
abbrev N_law : List Str := ["script", "state", "deeds", "lines", "text", "given", "told", "changed", "k", "odd", "one", "items", "deed"]
theorem sc_law : FnScope N_law ["script"] (defScope s_law) := ⟨rfl, rfl, rfl, by decide +kernel, rfl, by decide +kernel, by decide +kernel⟩
structure Gs (P : Program) (w : World) (K : PySem.W.Frag) (mg : Str → Option Value) : Prop where
  b_ValueError : mg "ValueError" = none
  b_bool : mg "bool" = none
  b_enumerate : mg "enumerate" = none
  b_int : mg "int" = none
  b_isinstance : mg "isinstance" = none
  b_len : mg "len" = none
  b_list : mg "list" = none
  b_range : mg "range" = none
  b_str : mg "str" = none
  b_super : mg "super" = none
  b_tuple : mg "tuple" = none
  c_DIGITS : ∃ u, mg "DIGITS" = some u ∧ RelV (.str "0123456789") u
  c_MOST_DIGITS : ∃ u, mg "MOST_DIGITS" = some u ∧ RelV (.int 3) u
  c_FORMS : mg "FORMS" = some (.ref (ga K "FORMS"))
  D_FORMS : KD K w "FORMS" [("make", .int 1), ("end", .int 1), ("keep", .int 2), ("enter", .int 2), ("sign", .int 2), ("stay", .int 2), ("leave", .int 2), ("admit", .int 3)]
  c_LEAST : mg "LEAST" = some (.ref (ga K "LEAST"))
  D_LEAST : KD K w "LEAST" [("bear", .int 1), ("wait", .int 2), ("any", .int 2)]
  c_MOST_NUMBER : ∃ u, mg "MOST_NUMBER" = some u ∧ RelV (.int 999) u
  k_ForkError : mg "ForkError" = some (.ref (ga K "ForkError"))
  S_ForkError : FunS P K mg "ForkError" "ForkError.__init__" s_ForkError_init
  i_ForkError : PySem.W.findIn K (.ref (ga K "ForkError")) "__init__" = some (some (.ref (ma K (ga K "ForkError") "__init__")))
  x_ForkError : xfB K (ga K "ForkError") = true
  q_ForkError : excB K (ga K "ForkError") = true
  r_ForkError : PySem.W.findIn K (.ref (ga K "ForkError")) "reason" = some none
  k_BadText : mg "BadText" = some (.ref (ga K "BadText"))
  S_BadText : FunS P K mg "BadText" "BadText.__init__" s_BadText_init
  H_BadText : Hv_BadText K
  i_BadText : PySem.W.findIn K (.ref (ga K "BadText")) "__init__" = some (some (.ref (ma K (ga K "BadText") "__init__")))
  x_BadText : xfB K (ga K "BadText") = true
  q_BadText : excB K (ga K "BadText") = true
  r_BadText : PySem.W.findIn K (.ref (ga K "BadText")) "reason" = some none
  k_BadDeed : mg "BadDeed" = some (.ref (ga K "BadDeed"))
  S_BadDeed : FunS P K mg "BadDeed" "BadDeed.__init__" s_BadDeed_init
  H_BadDeed : Hv_BadDeed K
  i_BadDeed : PySem.W.findIn K (.ref (ga K "BadDeed")) "__init__" = some (some (.ref (ma K (ga K "BadDeed") "__init__")))
  x_BadDeed : xfB K (ga K "BadDeed") = true
  q_BadDeed : excB K (ga K "BadDeed") = true
  r_BadDeed : PySem.W.findIn K (.ref (ga K "BadDeed")) "reason" = some none
  e_ForkError_ForkError : PySem.W.exmOne K (.ref (ga K "ForkError")) (.ref (ga K "ForkError")) = some true
  z_ForkError_ForkError : PySem.W.kitOne K (.ref (ga K "ForkError")) (.ref (ga K "ForkError")) = some true
  e_ForkError_BadText : PySem.W.exmOne K (.ref (ga K "ForkError")) (.ref (ga K "BadText")) = some false
  z_ForkError_BadText : PySem.W.kitOne K (.ref (ga K "ForkError")) (.ref (ga K "BadText")) = some false
  e_ForkError_BadDeed : PySem.W.exmOne K (.ref (ga K "ForkError")) (.ref (ga K "BadDeed")) = some false
  z_ForkError_BadDeed : PySem.W.kitOne K (.ref (ga K "ForkError")) (.ref (ga K "BadDeed")) = some false
  zv_ForkError : PySem.W.kitOne K (.ref (ga K "ForkError")) (.type "ValueError") = some true
  e_BadText_ForkError : PySem.W.exmOne K (.ref (ga K "BadText")) (.ref (ga K "ForkError")) = some true
  z_BadText_ForkError : PySem.W.kitOne K (.ref (ga K "BadText")) (.ref (ga K "ForkError")) = some true
  e_BadText_BadText : PySem.W.exmOne K (.ref (ga K "BadText")) (.ref (ga K "BadText")) = some true
  z_BadText_BadText : PySem.W.kitOne K (.ref (ga K "BadText")) (.ref (ga K "BadText")) = some true
  e_BadText_BadDeed : PySem.W.exmOne K (.ref (ga K "BadText")) (.ref (ga K "BadDeed")) = some false
  z_BadText_BadDeed : PySem.W.kitOne K (.ref (ga K "BadText")) (.ref (ga K "BadDeed")) = some false
  zv_BadText : PySem.W.kitOne K (.ref (ga K "BadText")) (.type "ValueError") = some true
  e_BadDeed_ForkError : PySem.W.exmOne K (.ref (ga K "BadDeed")) (.ref (ga K "ForkError")) = some true
  z_BadDeed_ForkError : PySem.W.kitOne K (.ref (ga K "BadDeed")) (.ref (ga K "ForkError")) = some true
  e_BadDeed_BadText : PySem.W.exmOne K (.ref (ga K "BadDeed")) (.ref (ga K "BadText")) = some false
  z_BadDeed_BadText : PySem.W.kitOne K (.ref (ga K "BadDeed")) (.ref (ga K "BadText")) = some false
  e_BadDeed_BadDeed : PySem.W.exmOne K (.ref (ga K "BadDeed")) (.ref (ga K "BadDeed")) = some true
  z_BadDeed_BadDeed : PySem.W.kitOne K (.ref (ga K "BadDeed")) (.ref (ga K "BadDeed")) = some true
  zv_BadDeed : PySem.W.kitOne K (.ref (ga K "BadDeed")) (.type "ValueError") = some true
  d_read_number : ∃ f fd, FunD K "read_number" "read_number" (defArgs s_read_number) (defBody s_read_number) (defScope s_read_number) [] [] f fd ∧ mg "read_number" = some (.ref f)
  d_is_yard_form : ∃ f fd, FunD K "is_yard_form" "is_yard_form" (defArgs s_is_yard_form) (defBody s_is_yard_form) (defScope s_is_yard_form) [] [] f fd ∧ mg "is_yard_form" = some (.ref f)
  d_is_yard_deed : ∃ f fd, FunD K "is_yard_deed" "is_yard_deed" (defArgs s_is_yard_deed) (defBody s_is_yard_deed) (defScope s_is_yard_deed) [] [] f fd ∧ mg "is_yard_deed" = some (.ref f)
  d_yard_deed_text : ∃ f fd, FunD K "yard_deed_text" "yard_deed_text" (defArgs s_yard_deed_text) (defBody s_yard_deed_text) (defScope s_yard_deed_text) [] [] f fd ∧ mg "yard_deed_text" = some (.ref f)
  d_write_yard_deeds : ∃ f fd, FunD K "write_yard_deeds" "write_yard_deeds" (defArgs s_write_yard_deeds) (defBody s_write_yard_deeds) (defScope s_write_yard_deeds) [] [] f fd ∧ mg "write_yard_deeds" = some (.ref f)
  d_read_yard_deed : ∃ f fd, FunD K "read_yard_deed" "read_yard_deed" (defArgs s_read_yard_deed) (defBody s_read_yard_deed) (defScope s_read_yard_deed) [] [] f fd ∧ mg "read_yard_deed" = some (.ref f)
  d_read_yard_deeds : ∃ f fd, FunD K "read_yard_deeds" "read_yard_deeds" (defArgs s_read_yard_deeds) (defBody s_read_yard_deeds) (defScope s_read_yard_deeds) [] [] f fd ∧ mg "read_yard_deeds" = some (.ref f)
  d__law_start : ∃ f fd, FunD K "_law_start" "_law_start" (defArgs s__law_start) (defBody s__law_start) (defScope s__law_start) [] [] f fd ∧ mg "_law_start" = some (.ref f)
  d__law_draw : ∃ f fd, FunD K "_law_draw" "_law_draw" (defArgs s__law_draw) (defBody s__law_draw) (defScope s__law_draw) [] [] f fd ∧ mg "_law_draw" = some (.ref f)
  d__law_is_number : ∃ f fd, FunD K "_law_is_number" "_law_is_number" (defArgs s__law_is_number) (defBody s__law_is_number) (defScope s__law_is_number) [] [] f fd ∧ mg "_law_is_number" = some (.ref f)
  d__law_same : ∃ f fd, FunD K "_law_same" "_law_same" (defArgs s__law_same) (defBody s__law_same) (defScope s__law_same) [] [] f fd ∧ mg "_law_same" = some (.ref f)
  d__law_spoiled : ∃ f fd, FunD K "_law_spoiled" "_law_spoiled" (defArgs s__law_spoiled) (defBody s__law_spoiled) (defScope s__law_spoiled) [] [] f fd ∧ mg "_law_spoiled" = some (.ref f)
  d__law_is_written : ∃ f fd, FunD K "_law_is_written" "_law_is_written" (defArgs s__law_is_written) (defBody s__law_is_written) (defScope s__law_is_written) [] [] f fd ∧ mg "_law_is_written" = some (.ref f)
  d__law_is_yard_deed : ∃ f fd, FunD K "_law_is_yard_deed" "_law_is_yard_deed" (defArgs s__law_is_yard_deed) (defBody s__law_is_yard_deed) (defScope s__law_is_yard_deed) [] [] f fd ∧ mg "_law_is_yard_deed" = some (.ref f)
  d__law_text_deed : ∃ f fd, FunD K "_law_text_deed" "_law_text_deed" (defArgs s__law_text_deed) (defBody s__law_text_deed) (defScope s__law_text_deed) [] [] f fd ∧ mg "_law_text_deed" = some (.ref f)
  d__law_deed_line : ∃ f fd, FunD K "_law_deed_line" "_law_deed_line" (defArgs s__law_deed_line) (defBody s__law_deed_line) (defScope s__law_deed_line) [] [] f fd ∧ mg "_law_deed_line" = some (.ref f)
  d__law_line_deed : ∃ f fd, FunD K "_law_line_deed" "_law_line_deed" (defArgs s__law_line_deed) (defBody s__law_line_deed) (defScope s__law_line_deed) [] [] f fd ∧ mg "_law_line_deed" = some (.ref f)
  d__law_read_due : ∃ f fd, FunD K "_law_read_due" "_law_read_due" (defArgs s__law_read_due) (defBody s__law_read_due) (defScope s__law_read_due) [] [] f fd ∧ mg "_law_read_due" = some (.ref f)
  d__law_read : ∃ f fd, FunD K "_law_read" "_law_read" (defArgs s__law_read) (defBody s__law_read) (defScope s__law_read) [] [] f fd ∧ mg "_law_read" = some (.ref f)
  d__law_write_due : ∃ f fd, FunD K "_law_write_due" "_law_write_due" (defArgs s__law_write_due) (defBody s__law_write_due) (defScope s__law_write_due) [] [] f fd ∧ mg "_law_write_due" = some (.ref f)
  d__law_written : ∃ f fd, FunD K "_law_written" "_law_written" (defArgs s__law_written) (defBody s__law_written) (defScope s__law_written) [] [] f fd ∧ mg "_law_written" = some (.ref f)
  d__law_odd_line : ∃ f fd, FunD K "_law_odd_line" "_law_odd_line" (defArgs s__law_odd_line) (defBody s__law_odd_line) (defScope s__law_odd_line) [] [] f fd ∧ mg "_law_odd_line" = some (.ref f)
  d__law_odd_item : ∃ f fd, FunD K "_law_odd_item" "_law_odd_item" (defArgs s__law_odd_item) (defBody s__law_odd_item) (defScope s__law_odd_item) [] [] f fd ∧ mg "_law_odd_item" = some (.ref f)
  d__law_with_odd : ∃ f fd, FunD K "_law_with_odd" "_law_with_odd" (defArgs s__law_with_odd) (defBody s__law_with_odd) (defScope s__law_with_odd) [] [] f fd ∧ mg "_law_with_odd" = some (.ref f)
  d_law : ∃ f fd, FunD K "law" "law" (defArgs s_law) (defBody s_law) (defScope s_law) [] [] f fd ∧ mg "law" = some (.ref f)
end Z
namespace Z
open PySem PySem.Spec PyProof.Rows L2 Fk
open He (ga ma)
def fn : List DefZ := [⟨fun K => ma K (ga K "ForkError") "__init__", "__init__", "ForkError.__init__", s_ForkError_init, true⟩,
  ⟨fun K => ma K (ga K "BadText") "__init__", "__init__", "BadText.__init__", s_BadText_init, true⟩,
  ⟨fun K => ma K (ga K "BadDeed") "__init__", "__init__", "BadDeed.__init__", s_BadDeed_init, true⟩,
  ⟨fun K => ga K "read_number", "read_number", "read_number", s_read_number, false⟩,
  ⟨fun K => ga K "is_yard_form", "is_yard_form", "is_yard_form", s_is_yard_form, false⟩,
  ⟨fun K => ga K "is_yard_deed", "is_yard_deed", "is_yard_deed", s_is_yard_deed, false⟩,
  ⟨fun K => ga K "yard_deed_text", "yard_deed_text", "yard_deed_text", s_yard_deed_text, false⟩,
  ⟨fun K => ga K "write_yard_deeds", "write_yard_deeds", "write_yard_deeds", s_write_yard_deeds, false⟩,
  ⟨fun K => ga K "read_yard_deed", "read_yard_deed", "read_yard_deed", s_read_yard_deed, false⟩,
  ⟨fun K => ga K "read_yard_deeds", "read_yard_deeds", "read_yard_deeds", s_read_yard_deeds, false⟩,
  ⟨fun K => ga K "_law_start", "_law_start", "_law_start", s__law_start, false⟩,
  ⟨fun K => ga K "_law_draw", "_law_draw", "_law_draw", s__law_draw, false⟩,
  ⟨fun K => ga K "_law_is_number", "_law_is_number", "_law_is_number", s__law_is_number, false⟩,
  ⟨fun K => ga K "_law_same", "_law_same", "_law_same", s__law_same, false⟩,
  ⟨fun K => ga K "_law_spoiled", "_law_spoiled", "_law_spoiled", s__law_spoiled, false⟩,
  ⟨fun K => ga K "_law_is_written", "_law_is_written", "_law_is_written", s__law_is_written, false⟩,
  ⟨fun K => ga K "_law_is_yard_deed", "_law_is_yard_deed", "_law_is_yard_deed", s__law_is_yard_deed, false⟩,
  ⟨fun K => ga K "_law_text_deed", "_law_text_deed", "_law_text_deed", s__law_text_deed, false⟩,
  ⟨fun K => ga K "_law_deed_line", "_law_deed_line", "_law_deed_line", s__law_deed_line, false⟩,
  ⟨fun K => ga K "_law_line_deed", "_law_line_deed", "_law_line_deed", s__law_line_deed, false⟩,
  ⟨fun K => ga K "_law_read_due", "_law_read_due", "_law_read_due", s__law_read_due, false⟩,
  ⟨fun K => ga K "_law_read", "_law_read", "_law_read", s__law_read, false⟩,
  ⟨fun K => ga K "_law_write_due", "_law_write_due", "_law_write_due", s__law_write_due, false⟩,
  ⟨fun K => ga K "_law_written", "_law_written", "_law_written", s__law_written, false⟩,
  ⟨fun K => ga K "_law_odd_line", "_law_odd_line", "_law_odd_line", s__law_odd_line, false⟩,
  ⟨fun K => ga K "_law_odd_item", "_law_odd_item", "_law_odd_item", s__law_odd_item, false⟩,
  ⟨fun K => ga K "_law_with_odd", "_law_with_odd", "_law_with_odd", s__law_with_odd, false⟩,
  ⟨fun K => ga K "law", "law", "law", s_law, false⟩]
def fa : List He.Fa := [.free "ValueError", .free "bool", .free "enumerate", .free "int", .free "isinstance", .free "len", .free "list", .free "range", .free "str", .free "super", .free "tuple", .str "DIGITS" "0123456789", .int "MOST_DIGITS" (3), .glo "FORMS", .glo "LEAST", .int "MOST_NUMBER" (999), .glo "ForkError", .glo "BadText", .glo "BadDeed", .glo "read_number", .glo "is_yard_form", .glo "is_yard_deed", .glo "yard_deed_text", .glo "write_yard_deeds", .glo "read_yard_deed", .glo "read_yard_deeds", .glo "_law_start", .glo "_law_draw", .glo "_law_is_number", .glo "_law_same", .glo "_law_spoiled", .glo "_law_is_written", .glo "_law_is_yard_deed", .glo "_law_text_deed", .glo "_law_deed_line", .glo "_law_line_deed", .glo "_law_read_due", .glo "_law_read", .glo "_law_write_due", .glo "_law_written", .glo "_law_odd_line", .glo "_law_odd_item", .glo "_law_with_odd", .glo "law"]
def exl (P : Program) : List (PySem.W.Frag → Bool) := [fun K => He.valsB K (ga K "FORMS") [("make", .int 1), ("end", .int 1), ("keep", .int 2), ("enter", .int 2), ("sign", .int 2), ("stay", .int 2), ("leave", .int 2), ("admit", .int 3)],
  fun K => He.valsB K (ga K "LEAST") [("bear", .int 1), ("wait", .int 2), ("any", .int 2)],
  fun K => supF P K (ma K (ga K "ForkError") "__init__") (ga K "ForkError") "ForkError.__init__",
  fun K => forkB K (ga K "ForkError"),
  fun K => He.eqO (PySem.W.findIn K (.ref (ga K "ForkError")) "__init__") (some (some (.ref (ma K (ga K "ForkError") "__init__")))),
  fun K => xfB K (ga K "ForkError"),
  fun K => excB K (ga K "ForkError"),
  fun K => He.eqO (PySem.W.findIn K (.ref (ga K "ForkError")) "reason") (some none),
  fun K => decide (PySem.W.exmOne K (.ref (ga K "ForkError")) (.ref (ga K "ForkError")) = some true),
  fun K => decide (PySem.W.kitOne K (.ref (ga K "ForkError")) (.ref (ga K "ForkError")) = some true),
  fun K => decide (PySem.W.exmOne K (.ref (ga K "ForkError")) (.ref (ga K "BadText")) = some false),
  fun K => decide (PySem.W.kitOne K (.ref (ga K "ForkError")) (.ref (ga K "BadText")) = some false),
  fun K => decide (PySem.W.exmOne K (.ref (ga K "ForkError")) (.ref (ga K "BadDeed")) = some false),
  fun K => decide (PySem.W.kitOne K (.ref (ga K "ForkError")) (.ref (ga K "BadDeed")) = some false),
  fun K => decide (PySem.W.kitOne K (.ref (ga K "ForkError")) (.type "ValueError") = some true),
  fun K => supF P K (ma K (ga K "BadText") "__init__") (ga K "BadText") "BadText.__init__",
  fun K => forkB K (ga K "BadText"),
  fun K => supcB K (ga K "BadText") (ga K "ForkError") (.builtin "ValueError.__init__"),
  fun K => supcB K (ga K "BadText") (ga K "BadText") (.ref (ma K (ga K "ForkError") "__init__")),
  fun K => He.eqO (PySem.W.findIn K (.ref (ga K "BadText")) "line") (some none),
  fun K => He.eqO (PySem.W.findIn K (.ref (ga K "BadText")) "__init__") (some (some (.ref (ma K (ga K "BadText") "__init__")))),
  fun K => xfB K (ga K "BadText"),
  fun K => excB K (ga K "BadText"),
  fun K => He.eqO (PySem.W.findIn K (.ref (ga K "BadText")) "reason") (some none),
  fun K => decide (PySem.W.exmOne K (.ref (ga K "BadText")) (.ref (ga K "ForkError")) = some true),
  fun K => decide (PySem.W.kitOne K (.ref (ga K "BadText")) (.ref (ga K "ForkError")) = some true),
  fun K => decide (PySem.W.exmOne K (.ref (ga K "BadText")) (.ref (ga K "BadText")) = some true),
  fun K => decide (PySem.W.kitOne K (.ref (ga K "BadText")) (.ref (ga K "BadText")) = some true),
  fun K => decide (PySem.W.exmOne K (.ref (ga K "BadText")) (.ref (ga K "BadDeed")) = some false),
  fun K => decide (PySem.W.kitOne K (.ref (ga K "BadText")) (.ref (ga K "BadDeed")) = some false),
  fun K => decide (PySem.W.kitOne K (.ref (ga K "BadText")) (.type "ValueError") = some true),
  fun K => supF P K (ma K (ga K "BadDeed") "__init__") (ga K "BadDeed") "BadDeed.__init__",
  fun K => forkB K (ga K "BadDeed"),
  fun K => supcB K (ga K "BadDeed") (ga K "ForkError") (.builtin "ValueError.__init__"),
  fun K => supcB K (ga K "BadDeed") (ga K "BadDeed") (.ref (ma K (ga K "ForkError") "__init__")),
  fun K => He.eqO (PySem.W.findIn K (.ref (ga K "BadDeed")) "deed") (some none),
  fun K => He.eqO (PySem.W.findIn K (.ref (ga K "BadDeed")) "__init__") (some (some (.ref (ma K (ga K "BadDeed") "__init__")))),
  fun K => xfB K (ga K "BadDeed"),
  fun K => excB K (ga K "BadDeed"),
  fun K => He.eqO (PySem.W.findIn K (.ref (ga K "BadDeed")) "reason") (some none),
  fun K => decide (PySem.W.exmOne K (.ref (ga K "BadDeed")) (.ref (ga K "ForkError")) = some true),
  fun K => decide (PySem.W.kitOne K (.ref (ga K "BadDeed")) (.ref (ga K "ForkError")) = some true),
  fun K => decide (PySem.W.exmOne K (.ref (ga K "BadDeed")) (.ref (ga K "BadText")) = some false),
  fun K => decide (PySem.W.kitOne K (.ref (ga K "BadDeed")) (.ref (ga K "BadText")) = some false),
  fun K => decide (PySem.W.exmOne K (.ref (ga K "BadDeed")) (.ref (ga K "BadDeed")) = some true),
  fun K => decide (PySem.W.kitOne K (.ref (ga K "BadDeed")) (.ref (ga K "BadDeed")) = some true),
  fun K => decide (PySem.W.kitOne K (.ref (ga K "BadDeed")) (.type "ValueError") = some true),
  fun K => plainF K (ga K "read_number") "read_number",
  fun K => plainF K (ga K "is_yard_form") "is_yard_form",
  fun K => plainF K (ga K "is_yard_deed") "is_yard_deed",
  fun K => plainF K (ga K "yard_deed_text") "yard_deed_text",
  fun K => plainF K (ga K "write_yard_deeds") "write_yard_deeds",
  fun K => plainF K (ga K "read_yard_deed") "read_yard_deed",
  fun K => plainF K (ga K "read_yard_deeds") "read_yard_deeds",
  fun K => plainF K (ga K "_law_start") "_law_start",
  fun K => plainF K (ga K "_law_draw") "_law_draw",
  fun K => plainF K (ga K "_law_is_number") "_law_is_number",
  fun K => plainF K (ga K "_law_same") "_law_same",
  fun K => plainF K (ga K "_law_spoiled") "_law_spoiled",
  fun K => plainF K (ga K "_law_is_written") "_law_is_written",
  fun K => plainF K (ga K "_law_is_yard_deed") "_law_is_yard_deed",
  fun K => plainF K (ga K "_law_text_deed") "_law_text_deed",
  fun K => plainF K (ga K "_law_deed_line") "_law_deed_line",
  fun K => plainF K (ga K "_law_line_deed") "_law_line_deed",
  fun K => plainF K (ga K "_law_read_due") "_law_read_due",
  fun K => plainF K (ga K "_law_read") "_law_read",
  fun K => plainF K (ga K "_law_write_due") "_law_write_due",
  fun K => plainF K (ga K "_law_written") "_law_written",
  fun K => plainF K (ga K "_law_odd_line") "_law_odd_line",
  fun K => plainF K (ga K "_law_odd_item") "_law_odd_item",
  fun K => plainF K (ga K "_law_with_odd") "_law_with_odd",
  fun K => plainF K (ga K "law") "law"]
def exB (P : Program) (K : PySem.W.Frag) : Bool := (fa.all fun f => f.ok K) && (exl P).all fun q => q K
def ts : List TabY := [("FORMS", ["make", "end", "keep", "enter", "sign", "stay", "leave", "admit"]), ("LEAST", ["bear", "wait", "any"])]
theorem gs_of {P : Program} {w : World} {K : PySem.W.Frag} {h : Heap} {mg : Str → Option Value} (X : K.In h) (G : h.Ns mainGlobals mg) (cy : SaysY fn (exB P) ts w K) : Gs P w K mg := by
  have c := cy.z
  obtain ⟨c1, c2⟩ := He.ba c.exs
  have fa_ := fun (i : Nat) (f : He.Fa) (hf : fa[i]? = some f) => all_ok c1 i hf
  have ex_ := fun (i : Nat) (q : PySem.W.Frag → Bool) (hq : (exl P)[i]? = some q) => all_ok c2 i hq
  have ms : mg "super" = none := He.free_ok X G (fa_ 9 _ rfl)
  constructor
  · exact He.free_ok X G (fa_ 0 _ rfl)
  · exact He.free_ok X G (fa_ 1 _ rfl)
  · exact He.free_ok X G (fa_ 2 _ rfl)
  · exact He.free_ok X G (fa_ 3 _ rfl)
  · exact He.free_ok X G (fa_ 4 _ rfl)
  · exact He.free_ok X G (fa_ 5 _ rfl)
  · exact He.free_ok X G (fa_ 6 _ rfl)
  · exact He.free_ok X G (fa_ 7 _ rfl)
  · exact He.free_ok X G (fa_ 8 _ rfl)
  · exact He.free_ok X G (fa_ 9 _ rfl)
  · exact He.free_ok X G (fa_ 10 _ rfl)
  · obtain ⟨t, e⟩ := He.str_ok X G (fa_ 11 _ rfl)
    exact ⟨_, e, _, rfl⟩
  · obtain ⟨t, e⟩ := He.int_ok X G (fa_ 12 _ rfl)
    exact ⟨_, e, _, rfl⟩
  · exact He.glo_ok X G (fa_ 13 _ rfl)
  · exact cy.kd 0 (kvs := [("make", .int 1), ("end", .int 1), ("keep", .int 2), ("enter", .int 2), ("sign", .int 2), ("stay", .int 2), ("leave", .int 2), ("admit", .int 3)]) rfl rfl (ex_ 0 _ rfl)
  · exact He.glo_ok X G (fa_ 14 _ rfl)
  · exact cy.kd 1 (kvs := [("bear", .int 1), ("wait", .int 2), ("any", .int 2)]) rfl rfl (ex_ 1 _ rfl)
  · obtain ⟨t, e⟩ := He.int_ok X G (fa_ 15 _ rfl)
    exact ⟨_, e, _, rfl⟩
  · exact He.glo_ok X G (fa_ 16 _ rfl)
  · exact sup_fun (d := ⟨fun K => ma K (ga K "ForkError") "__init__", "__init__", "ForkError.__init__", s_ForkError_init, true⟩) rfl rfl (c.fns 0) (ex_ 2 _ rfl) ms
  · exact He.eqO_ok (ex_ 4 _ rfl)
  · exact ex_ 5 _ rfl
  · exact ex_ 6 _ rfl
  · exact He.eqO_ok (ex_ 7 _ rfl)
  · exact He.glo_ok X G (fa_ 17 _ rfl)
  · exact sup_fun (d := ⟨fun K => ma K (ga K "BadText") "__init__", "__init__", "BadText.__init__", s_BadText_init, true⟩) rfl rfl (c.fns 1) (ex_ 15 _ rfl) ms
  · exact ⟨forkB_ok (ex_ 16 _ rfl), supcB_ok (ex_ 18 _ rfl), He.eqO_ok (ex_ 19 _ rfl)⟩
  · exact He.eqO_ok (ex_ 20 _ rfl)
  · exact ex_ 21 _ rfl
  · exact ex_ 22 _ rfl
  · exact He.eqO_ok (ex_ 23 _ rfl)
  · exact He.glo_ok X G (fa_ 18 _ rfl)
  · exact sup_fun (d := ⟨fun K => ma K (ga K "BadDeed") "__init__", "__init__", "BadDeed.__init__", s_BadDeed_init, true⟩) rfl rfl (c.fns 2) (ex_ 31 _ rfl) ms
  · exact ⟨forkB_ok (ex_ 32 _ rfl), supcB_ok (ex_ 34 _ rfl), He.eqO_ok (ex_ 35 _ rfl)⟩
  · exact He.eqO_ok (ex_ 36 _ rfl)
  · exact ex_ 37 _ rfl
  · exact ex_ 38 _ rfl
  · exact He.eqO_ok (ex_ 39 _ rfl)
  · exact of_decide_eq_true (ex_ 8 _ rfl)
  · exact of_decide_eq_true (ex_ 9 _ rfl)
  · exact of_decide_eq_true (ex_ 10 _ rfl)
  · exact of_decide_eq_true (ex_ 11 _ rfl)
  · exact of_decide_eq_true (ex_ 12 _ rfl)
  · exact of_decide_eq_true (ex_ 13 _ rfl)
  · exact of_decide_eq_true (ex_ 14 _ rfl)
  · exact of_decide_eq_true (ex_ 24 _ rfl)
  · exact of_decide_eq_true (ex_ 25 _ rfl)
  · exact of_decide_eq_true (ex_ 26 _ rfl)
  · exact of_decide_eq_true (ex_ 27 _ rfl)
  · exact of_decide_eq_true (ex_ 28 _ rfl)
  · exact of_decide_eq_true (ex_ 29 _ rfl)
  · exact of_decide_eq_true (ex_ 30 _ rfl)
  · exact of_decide_eq_true (ex_ 40 _ rfl)
  · exact of_decide_eq_true (ex_ 41 _ rfl)
  · exact of_decide_eq_true (ex_ 42 _ rfl)
  · exact of_decide_eq_true (ex_ 43 _ rfl)
  · exact of_decide_eq_true (ex_ 44 _ rfl)
  · exact of_decide_eq_true (ex_ 45 _ rfl)
  · exact of_decide_eq_true (ex_ 46 _ rfl)
  · obtain ⟨fd, q⟩ := plain_fun (d := ⟨fun K => ga K "read_number", "read_number", "read_number", s_read_number, false⟩) rfl (c.fns 3) (ex_ 47 _ rfl)
    exact ⟨_, fd, q, He.glo_ok X G (fa_ 19 _ rfl)⟩
  · obtain ⟨fd, q⟩ := plain_fun (d := ⟨fun K => ga K "is_yard_form", "is_yard_form", "is_yard_form", s_is_yard_form, false⟩) rfl (c.fns 4) (ex_ 48 _ rfl)
    exact ⟨_, fd, q, He.glo_ok X G (fa_ 20 _ rfl)⟩
  · obtain ⟨fd, q⟩ := plain_fun (d := ⟨fun K => ga K "is_yard_deed", "is_yard_deed", "is_yard_deed", s_is_yard_deed, false⟩) rfl (c.fns 5) (ex_ 49 _ rfl)
    exact ⟨_, fd, q, He.glo_ok X G (fa_ 21 _ rfl)⟩
  · obtain ⟨fd, q⟩ := plain_fun (d := ⟨fun K => ga K "yard_deed_text", "yard_deed_text", "yard_deed_text", s_yard_deed_text, false⟩) rfl (c.fns 6) (ex_ 50 _ rfl)
    exact ⟨_, fd, q, He.glo_ok X G (fa_ 22 _ rfl)⟩
  · obtain ⟨fd, q⟩ := plain_fun (d := ⟨fun K => ga K "write_yard_deeds", "write_yard_deeds", "write_yard_deeds", s_write_yard_deeds, false⟩) rfl (c.fns 7) (ex_ 51 _ rfl)
    exact ⟨_, fd, q, He.glo_ok X G (fa_ 23 _ rfl)⟩
  · obtain ⟨fd, q⟩ := plain_fun (d := ⟨fun K => ga K "read_yard_deed", "read_yard_deed", "read_yard_deed", s_read_yard_deed, false⟩) rfl (c.fns 8) (ex_ 52 _ rfl)
    exact ⟨_, fd, q, He.glo_ok X G (fa_ 24 _ rfl)⟩
  · obtain ⟨fd, q⟩ := plain_fun (d := ⟨fun K => ga K "read_yard_deeds", "read_yard_deeds", "read_yard_deeds", s_read_yard_deeds, false⟩) rfl (c.fns 9) (ex_ 53 _ rfl)
    exact ⟨_, fd, q, He.glo_ok X G (fa_ 25 _ rfl)⟩
  · obtain ⟨fd, q⟩ := plain_fun (d := ⟨fun K => ga K "_law_start", "_law_start", "_law_start", s__law_start, false⟩) rfl (c.fns 10) (ex_ 54 _ rfl)
    exact ⟨_, fd, q, He.glo_ok X G (fa_ 26 _ rfl)⟩
  · obtain ⟨fd, q⟩ := plain_fun (d := ⟨fun K => ga K "_law_draw", "_law_draw", "_law_draw", s__law_draw, false⟩) rfl (c.fns 11) (ex_ 55 _ rfl)
    exact ⟨_, fd, q, He.glo_ok X G (fa_ 27 _ rfl)⟩
  · obtain ⟨fd, q⟩ := plain_fun (d := ⟨fun K => ga K "_law_is_number", "_law_is_number", "_law_is_number", s__law_is_number, false⟩) rfl (c.fns 12) (ex_ 56 _ rfl)
    exact ⟨_, fd, q, He.glo_ok X G (fa_ 28 _ rfl)⟩
  · obtain ⟨fd, q⟩ := plain_fun (d := ⟨fun K => ga K "_law_same", "_law_same", "_law_same", s__law_same, false⟩) rfl (c.fns 13) (ex_ 57 _ rfl)
    exact ⟨_, fd, q, He.glo_ok X G (fa_ 29 _ rfl)⟩
  · obtain ⟨fd, q⟩ := plain_fun (d := ⟨fun K => ga K "_law_spoiled", "_law_spoiled", "_law_spoiled", s__law_spoiled, false⟩) rfl (c.fns 14) (ex_ 58 _ rfl)
    exact ⟨_, fd, q, He.glo_ok X G (fa_ 30 _ rfl)⟩
  · obtain ⟨fd, q⟩ := plain_fun (d := ⟨fun K => ga K "_law_is_written", "_law_is_written", "_law_is_written", s__law_is_written, false⟩) rfl (c.fns 15) (ex_ 59 _ rfl)
    exact ⟨_, fd, q, He.glo_ok X G (fa_ 31 _ rfl)⟩
  · obtain ⟨fd, q⟩ := plain_fun (d := ⟨fun K => ga K "_law_is_yard_deed", "_law_is_yard_deed", "_law_is_yard_deed", s__law_is_yard_deed, false⟩) rfl (c.fns 16) (ex_ 60 _ rfl)
    exact ⟨_, fd, q, He.glo_ok X G (fa_ 32 _ rfl)⟩
  · obtain ⟨fd, q⟩ := plain_fun (d := ⟨fun K => ga K "_law_text_deed", "_law_text_deed", "_law_text_deed", s__law_text_deed, false⟩) rfl (c.fns 17) (ex_ 61 _ rfl)
    exact ⟨_, fd, q, He.glo_ok X G (fa_ 33 _ rfl)⟩
  · obtain ⟨fd, q⟩ := plain_fun (d := ⟨fun K => ga K "_law_deed_line", "_law_deed_line", "_law_deed_line", s__law_deed_line, false⟩) rfl (c.fns 18) (ex_ 62 _ rfl)
    exact ⟨_, fd, q, He.glo_ok X G (fa_ 34 _ rfl)⟩
  · obtain ⟨fd, q⟩ := plain_fun (d := ⟨fun K => ga K "_law_line_deed", "_law_line_deed", "_law_line_deed", s__law_line_deed, false⟩) rfl (c.fns 19) (ex_ 63 _ rfl)
    exact ⟨_, fd, q, He.glo_ok X G (fa_ 35 _ rfl)⟩
  · obtain ⟨fd, q⟩ := plain_fun (d := ⟨fun K => ga K "_law_read_due", "_law_read_due", "_law_read_due", s__law_read_due, false⟩) rfl (c.fns 20) (ex_ 64 _ rfl)
    exact ⟨_, fd, q, He.glo_ok X G (fa_ 36 _ rfl)⟩
  · obtain ⟨fd, q⟩ := plain_fun (d := ⟨fun K => ga K "_law_read", "_law_read", "_law_read", s__law_read, false⟩) rfl (c.fns 21) (ex_ 65 _ rfl)
    exact ⟨_, fd, q, He.glo_ok X G (fa_ 37 _ rfl)⟩
  · obtain ⟨fd, q⟩ := plain_fun (d := ⟨fun K => ga K "_law_write_due", "_law_write_due", "_law_write_due", s__law_write_due, false⟩) rfl (c.fns 22) (ex_ 66 _ rfl)
    exact ⟨_, fd, q, He.glo_ok X G (fa_ 38 _ rfl)⟩
  · obtain ⟨fd, q⟩ := plain_fun (d := ⟨fun K => ga K "_law_written", "_law_written", "_law_written", s__law_written, false⟩) rfl (c.fns 23) (ex_ 67 _ rfl)
    exact ⟨_, fd, q, He.glo_ok X G (fa_ 39 _ rfl)⟩
  · obtain ⟨fd, q⟩ := plain_fun (d := ⟨fun K => ga K "_law_odd_line", "_law_odd_line", "_law_odd_line", s__law_odd_line, false⟩) rfl (c.fns 24) (ex_ 68 _ rfl)
    exact ⟨_, fd, q, He.glo_ok X G (fa_ 40 _ rfl)⟩
  · obtain ⟨fd, q⟩ := plain_fun (d := ⟨fun K => ga K "_law_odd_item", "_law_odd_item", "_law_odd_item", s__law_odd_item, false⟩) rfl (c.fns 25) (ex_ 69 _ rfl)
    exact ⟨_, fd, q, He.glo_ok X G (fa_ 41 _ rfl)⟩
  · obtain ⟨fd, q⟩ := plain_fun (d := ⟨fun K => ga K "_law_with_odd", "_law_with_odd", "_law_with_odd", s__law_with_odd, false⟩) rfl (c.fns 26) (ex_ 70 _ rfl)
    exact ⟨_, fd, q, He.glo_ok X G (fa_ 42 _ rfl)⟩
  · obtain ⟨fd, q⟩ := plain_fun (d := ⟨fun K => ga K "law", "law", "law", s_law, false⟩) rfl (c.fns 27) (ex_ 71 _ rfl)
    exact ⟨_, fd, q, He.glo_ok X G (fa_ 43 _ rfl)⟩

end Z
namespace Z
open PySem PySem.Spec PyProof.Rows L2 Fk
open He (ga ma)
def names0 : List Str := ["__name__", "ForkError", "BadText", "BadDeed", "DIGITS", "MOST_DIGITS", "read_number", "FORMS", "LEAST", "MOST_NUMBER", "is_yard_form", "is_yard_deed", "yard_deed_text", "write_yard_deeds", "read_yard_deed", "read_yard_deeds", "_law_start", "_law_draw", "_law_is_number", "_law_same", "_law_spoiled", "_law_is_written", "_law_is_yard_deed", "_law_text_deed", "_law_deed_line", "_law_line_deed", "_law_read_due", "_law_read", "_law_write_due", "_law_written"]
def names1 : List Str := ["_law_odd_line", "_law_odd_item", "_law_with_odd"]
def names : List Str := names0 ++ names1
abbrev R : PySem.W.OpenRow := PySem.W.OpenLaw.row PySem.Challenge.rw_promisesowned_k50_yard_deeds_as_text
abbrev qv : Program := PySem.W.view R.prog [36]
abbrev hk : PySem.W.Hook := hookY 5 fn (exB R.prog) ts
def ob (s : PySem.W.SharedT) : AlY := obsYG 5 fn (exB R.prog) ts (HandSHeadRun.getT s)
theorem ob_eq (s : PySem.W.SharedT) : ob s = hk.obs s.abs := obsYG_eq (HandSHeadRun.getT_eq s)
theorem run (w : World) : HandSHeadRun.RunEq R qv hk ob 3000 names w :=
  PySem.W.byRow2 "special-get-raises" (P := fun w => HandSHeadRun.RunEq R qv hk ob 3000 names w) (fun w => by intro os; kernel_rfl) (fun w => by intro os; kernel_rfl) w

end Z
namespace Z
open PySem PySem.Spec PyProof.Rows L2 Fk
open He (ga ma)
open Evl (Ex)
open TL
variable {P : Program} {w : World} {K : PySem.W.Frag} {mg : Str → Option Value} {base : Heap}
local macro_rules | `(tactic| walk_at "lk") => `(tactic| repeat (first | assumption | (with_reducible apply sqL_id; with_unfolding_all assumption) | (with_reducible apply sqT_id; with_unfolding_all assumption) | with_reducible apply upd_same | with_reducible apply sqL | with_reducible apply sqT | (with_reducible apply lk_new; assumption) | (with_reducible apply lk_ex; assumption)))
local macro_rules | `(tactic| walk_at "vs") => `(tactic| repeat' (first
  | with_reducible refine vc_seq ?_ | with_reducible refine vc_asgN ?_ | with_reducible refine vc_asgS ?_ | with_reducible refine vc_ret ?_ | with_reducible refine vc_drop ?_ | with_reducible refine vc_ifS ?_ | with_reducible refine vc_next ?_
  | with_reducible refine vc_nx ?_ | with_reducible refine vc_rt ?_ | with_reducible refine vc_ct ?_ | with_reducible refine vc_bk ?_
  | with_reducible refine vc_var (by with_unfolding_all rfl) ?_ | with_reducible refine vc_c ?_ | with_reducible refine vc_op ?_ | with_reducible refine vc_un ?_ | with_reducible refine vc_cb ?_ | with_reducible refine vc_call ?_ | with_reducible refine vc_nil ?_ | with_reducible refine vc_cons ?_
  | with_reducible refine vc_tup ?_ | with_reducible refine vc_lst ?_ | with_reducible refine vc_andV ?_ | with_reducible refine vc_orV ?_ | with_reducible refine vc_notV ?_ | with_reducible refine vc_bl ?_ | with_reducible refine vc_in ?_ | with_reducible refine vc_st ?_
  | with_reducible refine vc_test ?_ | with_reducible refine vc_tB ?_ | with_reducible refine vc_and ?_ | with_reducible refine vc_or ?_ | with_reducible refine vc_not ?_ | with_reducible refine vc_ifE ?_ | with_reducible refine vc_chain ?_
  | with_reducible refine vc_sl ?_ | with_reducible refine vc_nopart ?_ | with_reducible refine vc_part ?_ | with_reducible refine vc_m1 ?_ | with_reducible refine vc_bm ?_ | with_reducible refine vc_starV (by with_unfolding_all rfl) (by walk_at "lk") ?_ | with_reducible refine vc_star ?_
  | with_reducible refine vc_I0 ?_ | with_reducible refine vc_U ?_ | with_reducible refine vc_eqI ?_ | with_reducible refine vc_eqS ?_ | with_reducible refine vc_neI ?_ | with_reducible refine vc_neS ?_ | with_reducible refine vc_eqB ?_ | with_reducible refine vc_neB ?_ | with_reducible refine vc_eq (by with_unfolding_all rfl) ?_ | with_reducible refine vc_ne (by with_unfolding_all rfl) ?_ | with_reducible refine vc_isN0 ?_ | with_reducible refine vc_isN1 (by with_unfolding_all rfl) ?_ | with_reducible refine vc_isN ?_ | with_reducible refine vc_int ?_ | with_reducible refine vc_nin ?_
  | with_reducible refine vc_mk ?_ | with_reducible refine vc_iList ?_ | with_reducible refine vc_iTup ?_ | with_reducible refine vc_iStr ?_ | with_reducible refine vc_itS ?_ | with_reducible refine vc_iRng1 ?_ | with_reducible refine vc_iEnum ?_ | with_reducible refine vc_lc ?_ | with_reducible refine vc_yes ?_ | with_reducible refine vc_gName ?_ | with_reducible refine vc_for ?_ | with_reducible refine vc_lL (by walk_at "lk") ?_ | with_reducible refine vc_tL (by walk_at "lk") ?_ | with_reducible refine vc_lC (by walk_at "lk") ?_ | with_reducible refine vc_tC (by walk_at "lk") ?_ | with_reducible refine vc_eC (by walk_at "lk") ?_ | with_reducible refine vc_tyL (by walk_at "lk") ?_ | with_reducible refine vc_gTup (by walk_at "lk") (by with_unfolding_all rfl) ?_ | with_reducible refine vc_gCons ?_ | with_reducible refine vc_gNil ?_ | with_reducible refine vc_wp (by with_unfolding_all rfl) ?_
  | with_reducible refine vc_lenS (by assumption) ?_ | with_reducible refine vc_slS (by assumption) ?_
  | with_reducible refine vc_ixL (by walk_at "lk") (by with_unfolding_all rfl) ?_ | with_reducible refine vc_ixT (by walk_at "lk") (by with_unfolding_all rfl) ?_ | with_reducible refine vc_setL (by walk_at "lk") (by with_unfolding_all rfl) ?_
  | with_reducible refine vc_lenL (by walk_at "lk") ?_ | with_reducible refine vc_lenT (by walk_at "lk") ?_ | with_reducible refine vc_I (by with_unfolding_all first | assumption | decide | exact ⟨by assumption, by assumption⟩ | exact ⟨by decide, by decide⟩ | exact ⟨by decide, by decide, by decide⟩ | exact .inr (by decide)) ?_
  | with_reducible refine vc_isiT (.ty _) (.base (by first | apply TyOf.non | apply TyOf.bl | apply TyOf.int | apply TyOf.str | (apply TyOf.lst; walk_at "lk"; done) | (apply TyOf.tup; walk_at "lk"; done))) (by with_unfolding_all rfl) ?_
  | with_reducible refine vc_isiF (.ty _) (.base (by first | apply TyOf.non | apply TyOf.bl | apply TyOf.int | apply TyOf.str | (apply TyOf.lst; walk_at "lk"; done) | (apply TyOf.tup; walk_at "lk"; done))) (by with_unfolding_all rfl) ?_
  | with_reducible refine vc_inK (by with_unfolding_all rfl) ?_ | with_reducible refine vc_t ?_ | with_reducible refine vc_f ?_ | with_reducible refine vc_nt ?_ | with_reducible refine vc_dT (by decide) ?_ | with_reducible refine vc_dF (by decide) ?_ | with_reducible refine vc_ndT (by decide) ?_ | with_reducible refine vc_ndF (by decide) ?_ | with_reducible refine vc_nf ?_ | dsimp only))
local macro_rules | `(tactic| walk_at "ex") => `(tactic| repeat (first | assumption | exact Ex.refl _ | (refine Ex.trans ?_ (Ex.new (by assumption))) | (refine Ex.trans ?_ (by assumption)) | exact ExB.refl _ _ | (refine ExB.trans ?_ (ExB.of (Ex.new (by assumption)))) | (refine ExB.trans ?_ (by assumption)) | (refine ExB.trans ?_ (ExB.of (by assumption)))))
local macro_rules | `(tactic| walk_at "va") => `(tactic| ((repeat (walk_at "vs"; first
  | (with_reducible refine vc_kT (Nat.le_of_ble_eq_true (by with_unfolding_all rfl)) ?_; intro _ _) | (with_reducible refine vc_kL (Nat.le_of_ble_eq_true (by with_unfolding_all rfl)) ?_; intro _ _) | (with_reducible refine vc_cat (by walk_at "lk") (by walk_at "lk") (Nat.le_of_ble_eq_true (by with_unfolding_all rfl)) ?_; intro _ _))); walk_at "vs"))

/-! ### specs -/
def BT (K : PySem.W.Frag) (E : XK) (l : Int) (H : Hp) : Prop := ∀ d H', Ex H H' → H' d = none → E (.ref (ga K "BadText")) (some d) (upd H' d (.xd (mk_BadText [.int l])))
def BD (K : PySem.W.Frag) (E : XK) (a : Addr) (H : Hp) : Prop := ∀ d H', Ex H H' → H' d = none → E (.ref (ga K "BadDeed")) (some d) (upd H' d (.xd (mk_BadDeed [.ref a])))
theorem BT.ex {K : PySem.W.Frag} {E : XK} {l : Int} {H H' : Hp} (e : Ex H H') (h : BT K E l H) : BT K E l H' := fun d H2 e2 n => h d H2 (e.trans e2) n
theorem BD.ex {K : PySem.W.Frag} {E : XK} {a : Addr} {H H' : Hp} (e : Ex H H') (h : BD K E a H) : BD K E a H' := fun d H2 e2 n => h d H2 (e.trans e2) n
theorem BT.mk {K : PySem.W.Frag} {E : XK} {l : Int} {H : Hp} (h : BT K E l H) : kM K "BadText" 1 mk_BadText [.int l] H (fun cls d H' => E cls d H') := vc_kM rfl fun d n => h d H (Ex.refl H) n
theorem BD.mk {K : PySem.W.Frag} {E : XK} {a : Addr} {H : Hp} (h : BD K E a H) : kM K "BadDeed" 1 mk_BadDeed [.ref a] H (fun cls d H' => E cls d H') := vc_kM rfl fun d n => h d H (Ex.refl H) n
def isD (x : Str) (c : Int) : Bool := if x = "bear" then decide (1 ≤ c) else if x = "wait" ∨ x = "any" then decide (2 ≤ c) else if x = "make" ∨ x = "end" then decide (c = 1) else if x = "keep" ∨ x = "enter" ∨ x = "sign" ∨ x = "stay" ∨ x = "leave" then decide (c = 2) else if x = "admit" then decide (c = 3) else false
theorem isD_bear {c : Int} : isD "bear" c = decide (1 ≤ c) := by
  unfold isD
  rw [if_pos (by decide +kernel)]
theorem isD_wait {c : Int} : isD "wait" c = decide (2 ≤ c) := by
  unfold isD
  rw [if_neg (by decide +kernel), if_pos (by decide +kernel)]
theorem isD_any {c : Int} : isD "any" c = decide (2 ≤ c) := by
  unfold isD
  rw [if_neg (by decide +kernel), if_pos (by decide +kernel)]
theorem isD_make {c : Int} : isD "make" c = decide (c = 1) := by
  unfold isD
  rw [if_neg (by decide +kernel), if_neg (by decide +kernel), if_pos (by decide +kernel)]
theorem isD_end {c : Int} : isD "end" c = decide (c = 1) := by
  unfold isD
  rw [if_neg (by decide +kernel), if_neg (by decide +kernel), if_pos (by decide +kernel)]
theorem isD_keep {c : Int} : isD "keep" c = decide (c = 2) := by
  unfold isD
  rw [if_neg (by decide +kernel), if_neg (by decide +kernel), if_neg (by decide +kernel), if_pos (by decide +kernel)]
theorem isD_enter {c : Int} : isD "enter" c = decide (c = 2) := by
  unfold isD
  rw [if_neg (by decide +kernel), if_neg (by decide +kernel), if_neg (by decide +kernel), if_pos (by decide +kernel)]
theorem isD_sign {c : Int} : isD "sign" c = decide (c = 2) := by
  unfold isD
  rw [if_neg (by decide +kernel), if_neg (by decide +kernel), if_neg (by decide +kernel), if_pos (by decide +kernel)]
theorem isD_stay {c : Int} : isD "stay" c = decide (c = 2) := by
  unfold isD
  rw [if_neg (by decide +kernel), if_neg (by decide +kernel), if_neg (by decide +kernel), if_pos (by decide +kernel)]
theorem isD_leave {c : Int} : isD "leave" c = decide (c = 2) := by
  unfold isD
  rw [if_neg (by decide +kernel), if_neg (by decide +kernel), if_neg (by decide +kernel), if_pos (by decide +kernel)]
theorem isD_admit {c : Int} : isD "admit" c = decide (c = 3) := by
  unfold isD
  rw [if_neg (by decide +kernel), if_neg (by decide +kernel), if_neg (by decide +kernel), if_neg (by decide +kernel), if_pos (by decide +kernel)]
theorem isD_word {x : Str} {c : Int} (h : isD x c = true) : x = "bear" ∨ x = "wait" ∨ x = "any" ∨ x = "make" ∨ x = "end" ∨ x = "keep" ∨ x = "enter" ∨ x = "sign" ∨ x = "stay" ∨ x = "leave" ∨ x = "admit" := by
  unfold isD at h
  by_cases h0 : x = "bear"
  · simp only [h0, true_or, or_true]
  rw [if_neg h0] at h
  by_cases h1 : x = "wait" ∨ x = "any"
  · rcases h1 with e | e <;> simp only [e, true_or, or_true]
  rw [if_neg h1] at h
  by_cases h2 : x = "make" ∨ x = "end"
  · rcases h2 with e | e <;> simp only [e, true_or, or_true]
  rw [if_neg h2] at h
  by_cases h3 : x = "keep" ∨ x = "enter" ∨ x = "sign" ∨ x = "stay" ∨ x = "leave"
  · rcases h3 with e | e | e | e | e <;> simp only [e, true_or, or_true]
  rw [if_neg h3] at h
  by_cases h4 : x = "admit"
  · simp only [h4, true_or, or_true]
  rw [if_neg h4] at h
  exact absurd h Bool.false_ne_true
theorem isD_not {x : Str} {c : Int} (h : ¬ (x = "bear" ∨ x = "wait" ∨ x = "any" ∨ x = "make" ∨ x = "end" ∨ x = "keep" ∨ x = "enter" ∨ x = "sign" ∨ x = "stay" ∨ x = "leave" ∨ x = "admit")) : isD x c = false := by
  cases q : isD x c with
  | false => rfl
  | true => exact absurd (isD_word q) h
theorem isD_len {x : Str} {c : Int} (h : isD x c = true) : x.length ≤ 10 := by
  rcases isD_word h with rfl | rfl | rfl | rfl | rfl | rfl | rfl | rfl | rfl | rfl | rfl <;> decide +kernel
theorem isD_1 {x : Str} {c : Int} (h : c < 1) : isD x c = false := by
  cases q : isD x c with
  | false => rfl
  | true =>
    rcases isD_word q with rfl | rfl | rfl | rfl | rfl | rfl | rfl | rfl | rfl | rfl | rfl
    · rw [isD_bear] at q; have := of_decide_eq_true q; omega
    · rw [isD_wait] at q; have := of_decide_eq_true q; omega
    · rw [isD_any] at q; have := of_decide_eq_true q; omega
    · rw [isD_make] at q; have := of_decide_eq_true q; omega
    · rw [isD_end] at q; have := of_decide_eq_true q; omega
    · rw [isD_keep] at q; have := of_decide_eq_true q; omega
    · rw [isD_enter] at q; have := of_decide_eq_true q; omega
    · rw [isD_sign] at q; have := of_decide_eq_true q; omega
    · rw [isD_stay] at q; have := of_decide_eq_true q; omega
    · rw [isD_leave] at q; have := of_decide_eq_true q; omega
    · rw [isD_admit] at q; have := of_decide_eq_true q; omega
def sp_read_number (K : PySem.W.Frag) : Sp := fun vs H Q E => ∃ (x : Str) (l : Int), vs = [.str x, .int l] ∧ x.length ≤ sizeLine ∧ (okN (tl x) = true → Q (.int (valN (tl x))) H) ∧ (okN (tl x) = false → BT K E l H)
def sp_is_deed : Sp := fun vs H Q _ => ∃ (x : Str) (c : Int), vs = [.str x, .int c] ∧ Q (.bl (isD x c)) H
def sp_is_number : Sp := fun vs H Q _ => ∃ (v : V), vs = [v] ∧ ((∃ i, v = .int i) ∧ Q (.bl true) H)

def Dsz : Nat → Dt → Prop
  | 0, d => d.dep = 0
  | n + 1, d => ∀ l, (d = .lst l ∨ d = .tup l) → l.length ≤ 1000000 ∧ ∀ e ∈ l, Dsz n e
def sp_same (n : Nat) : Sp := fun vs H Q _ => ∃ (x y : V) (d : Dt), vs = [x, y] ∧ Dsz n d ∧ Rp H x d ∧ Rp H y d ∧ ∀ H', Ex H H' → Q (.bl true) H'
def pv_same : Nat → Sp
  | 0 => fun _ _ _ _ => False
  | n + 1 => sp_same n
def sp_start (K : PySem.W.Frag) : Sp := fun vs H Q _ => ∃ (a : Addr) (ns : List Int), vs = [.ref a] ∧ SqL K H a (ns.map V.int) ∧ ∀ st sc H', Ex H H' → H st = none → H sc = none → Drw H' st sc → Q (.ref st) H'
def sp_draw : Sp := fun vs H Q _ => ∃ (st sc : Addr) (m : Int), vs = [.ref st, .int m] ∧ 0 < m ∧ m < 1073741824 ∧ Drw H st sc ∧ ∀ r H', 0 ≤ r → r < m → Drw H' st sc → ExB st H H' → Q (.int r) H'

def itV : Option (Str × List Int) → List V
  | none => []
  | some (x, ns) => .str x :: ns.map V.int
def okI : Option (Str × List Int) → Bool
  | none => false
  | some (x, ns) => isD x (ns.length : Nat) && ns.all fun n => decide (0 ≤ n ∧ n ≤ 999)
def txI : Option (Str × List Int) → Str
  | none => ""
  | some (x, ns) => Txt.join " " (x :: ns.map nmS)
theorem okI_some {x : Str} {ns : List Int} : okI (some (x, ns)) = (isD x (ns.length : Nat) && ns.all fun n => decide (0 ≤ n ∧ n ≤ 999)) := rfl
theorem tx_bound {x : Str} {ns : List Int} (hx : x.length ≤ 10) (hl : ns.length ≤ 100) (hn : ∀ n ∈ ns, 0 ≤ n ∧ n ≤ 999) : ((x :: ns.map nmS).map (·.length)).sum + (x :: ns.map nmS).length * (" " : Str).length ≤ 1000 := by
  have h1 := sum_le (b := 3) (ys := ns.map nmS) fun y hy => by
    obtain ⟨n, hm, rfl⟩ := List.mem_map.mp hy
    exact nmS_len (hn n hm).1 (hn n hm).2
  have h2 : (" " : Str).length = 1 := by decide
  rw [h2]
  simp only [List.map_cons, List.sum_cons, List.length_cons, List.length_map] at h1 ⊢
  omega
def sp_deed_text (K : PySem.W.Frag) : Sp := fun vs H Q E => ∃ (a : Addr) (it : Option (Str × List Int)), vs = [.ref a] ∧ H a = some (.tup (itV it)) ∧ (itV it).length ≤ 100 ∧ (okI it = true → ∀ H', Ex H H' → Q (.str (txI it)) H') ∧ (okI it = false → BD K E a H)
def fmI : Option (Str × List Int) → Bool
  | none => false
  | some (x, ns) => isD x (ns.length : Nat)
def sp_yard_deed : Sp := fun vs H Q _ => ∃ (a : Addr) (it : Option (Str × List Int)), vs = [.ref a] ∧ H a = some (.tup (itV it)) ∧ Q (.bl (fmI it)) H

def isDL : List V → Bool
  | .str x :: r => isD x (r.length : Nat)
  | _ => false
def hdS (xs : List V) : Prop := xs = [] ∨ ∃ x r, xs = .str x :: r
def sp_lis_deed (K : PySem.W.Frag) : Sp := fun vs H Q _ => ∃ (a : Addr) (xs : List V), vs = [.ref a] ∧ (SqL K H a xs ∨ SqT K H a xs) ∧ hdS xs ∧ ∀ H', Ex H H' → Q (.bl (isDL xs)) H'
def sp_ldeed_text : Sp := fun vs H Q _ => ∃ (a : Addr) (x : Str) (ns : List Int), vs = [.ref a] ∧ H a = some (.tup (.str x :: ns.map V.int)) ∧ x.length ≤ 10 ∧ ns.length ≤ 100 ∧ (∀ n ∈ ns, 0 ≤ n ∧ n ≤ 999) ∧ ∀ H', Ex H H' → Q (.str (txI (some (x, ns)))) H'
def sp_is_written : Sp := fun vs H Q _ => ∃ x : Str, vs = [.str x] ∧ x.length ≤ sizeLine ∧ Q (.bl (okN (tl x))) H
def sp_text_deed : Sp := fun vs H Q _ => ∃ st sc : Addr, vs = [.ref st] ∧ Drw H st sc ∧ ∀ p x ns H', okI (some (x, ns)) = true → ns.length ≤ 10 → H p = none → H' p = some (.tup (.str x :: ns.map V.int)) → Drw H' st sc → ExB st H H' → Q (.ref p) H'
def sp_odd_line : Sp := fun vs H Q _ => ∃ i : Int, vs = [.int i] ∧ 0 ≤ i ∧ i < 19 ∧ ∀ (y : Str) H', y.length ≤ 20 → Ex H H' → Q (.str y) H'
def itemB : List V → Bool
  | [] => true
  | .str _ :: r => r.all (fun v => match v with | .int _ => true | _ => false) && decide (r.length ≤ 9)
  | _ => false
theorem itemB_ok {xs : List V} (h : itemB xs = true) : ∃ it, xs = itV it ∧ xs.length ≤ 10 := by
  match xs, h with
  | [], _ => exact ⟨none, rfl, by decide⟩
  | .str x :: r, h =>
    have h : (r.all (fun v => match v with | .int _ => true | _ => false) && decide (r.length ≤ 9)) = true := h
    rw [Bool.and_eq_true, List.all_eq_true] at h
    have hr : ∀ r : List V, (∀ v ∈ r, (match v with | .int _ => true | _ => false) = true) → ∃ ns : List Int, r = ns.map V.int := by
      intro r
      induction r with
      | nil => exact fun _ => ⟨[], rfl⟩
      | cons v r ih =>
        intro h
        obtain ⟨ns, rfl⟩ := ih fun v hv => h v (List.mem_cons_of_mem _ hv)
        have := h v (List.mem_cons_self ..)
        cases v <;> first | exact ⟨_ :: ns, rfl⟩ | exact absurd this Bool.false_ne_true
    obtain ⟨ns, rfl⟩ := hr r h.1
    exact ⟨some (x, ns), rfl, by have := of_decide_eq_true h.2; simp at this ⊢; omega⟩
def Item (H : Hp) (v : V) : Prop := ∃ (a : Addr) (xs : List V), v = .ref a ∧ H a = some (.tup xs) ∧ itemB xs = true
theorem Item.ex {H H' : Hp} (e : Ex H H') {v : V} (h : Item H v) : Item H' v := by
  obtain ⟨a, xs, h1, h2, h3⟩ := h
  exact ⟨a, xs, h1, e _ _ h2, h3⟩
theorem Item.mk {H : Hp} {a : Addr} {xs : List V} (h : H a = some (.tup xs)) (b : itemB xs = true) : Item H (.ref a) := ⟨a, xs, rfl, h, b⟩
def sp_odd_item : Sp := fun vs H Q _ => ∃ i : Int, vs = [.int i] ∧ 0 ≤ i ∧ i < 16 ∧ ∀ v H', Item H' v → Ex H H' → Q v H'

def strB : V → Bool
  | .str y => decide (y.length ≤ 20)
  | _ => false
theorem strB_ok {v : V} (h : strB v = true) : ∃ y, v = .str y ∧ y.length ≤ 20 := by
  cases v with
  | str y => exact ⟨y, rfl, of_decide_eq_true h⟩
  | _ => exact absurd h Bool.false_ne_true
theorem in11 {v : V} (h : v ∈ [V.str "make", V.str "bear", V.str "keep", V.str "wait", V.str "any", V.str "enter", V.str "admit", V.str "sign", V.str "stay", V.str "leave", V.str "end"]) : ∃ x, v = .str x ∧ (x = "make" ∨ x = "bear" ∨ x = "keep" ∨ x = "wait" ∨ x = "any" ∨ x = "enter" ∨ x = "admit" ∨ x = "sign" ∨ x = "stay" ∨ x = "leave" ∨ x = "end") := by
  simp only [List.mem_cons, List.not_mem_nil, or_false] at h
  rcases h with h | h | h | h | h | h | h | h | h | h | h
  · exact ⟨_, h, .inl rfl⟩
  · exact ⟨_, h, .inr (.inl rfl)⟩
  · exact ⟨_, h, .inr (.inr (.inl rfl))⟩
  · exact ⟨_, h, .inr (.inr (.inr (.inl rfl)))⟩
  · exact ⟨_, h, .inr (.inr (.inr (.inr (.inl rfl))))⟩
  · exact ⟨_, h, .inr (.inr (.inr (.inr (.inr (.inl rfl)))))⟩
  · exact ⟨_, h, .inr (.inr (.inr (.inr (.inr (.inr (.inl rfl))))))⟩
  · exact ⟨_, h, .inr (.inr (.inr (.inr (.inr (.inr (.inr (.inl rfl)))))))⟩
  · exact ⟨_, h, .inr (.inr (.inr (.inr (.inr (.inr (.inr (.inr (.inl rfl))))))))⟩
  · exact ⟨_, h, .inr (.inr (.inr (.inr (.inr (.inr (.inr (.inr (.inr (.inl rfl)))))))))⟩
  · exact ⟨_, h, .inr (.inr (.inr (.inr (.inr (.inr (.inr (.inr (.inr (.inr (rfl))))))))))⟩

def ItemsAt (H : Hp) (xs : List V) (its : List (Option (Str × List Int))) : Prop := xs.length = its.length ∧ ∀ (i : Nat) (v : V), xs[i]? = some v → ∃ (a : Addr) (it : Option (Str × List Int)), v = V.ref a ∧ its[i]? = some it ∧ H a = some (.tup (itV it)) ∧ (itV it).length ≤ 100
theorem ItemsAt.ex {H H' : Hp} {xs : List V} {its : List (Option (Str × List Int))} (e : Ex H H') (h : ItemsAt H xs its) : ItemsAt H' xs its := ⟨h.1, fun i v hv => by
  obtain ⟨a, it, h1, h2, h3, h4⟩ := h.2 i v hv
  exact ⟨a, it, h1, h2, e _ _ h3, h4⟩⟩
def wrT (its : List (Option (Str × List Int))) : Str := Txt.join "\n" (its.map txI)
def sp_write_deeds (K : PySem.W.Frag) : Sp := fun vs H Q E => ∃ (p : Addr) (xs : List V) (its : List (Option (Str × List Int))), vs = [.ref p] ∧ SqL K H p xs ∧ ItemsAt H xs its ∧ its.length ≤ 100 ∧
  ((∀ (j : Nat) jt, its[j]? = some jt → okI jt = true) → ∀ H', Ex H H' → Q (.str (wrT its)) H') ∧
  ∀ (i : Nat) (a : Addr) it, xs[i]? = some (V.ref a) → its[i]? = some it → okI it = false → (∀ j, j < i → ∀ jt, its[j]? = some jt → okI jt = true) → BD K E a H
def parseL (ws : List Str) : Option (Str × List Int) := match ws with
  | [] => none
  | y :: r => if isD y (r.length : Nat) = true ∧ (∀ z ∈ r, okN (tl z) = true) then some (y, r.map fun z => valN (tl z)) else none
def parse (x : Str) : Option (Str × List Int) := parseL (Txt.split x " ")
theorem parse_eq {x y : Str} {ws : List Str} (h : Txt.split x " " = y :: ws) : parse x = if isD y (ws.length : Nat) = true ∧ (∀ z ∈ ws, okN (tl z) = true) then some (y, ws.map fun z => valN (tl z)) else none := by
  unfold parse
  rw [h]
  rfl
def sp_read_deed (K : PySem.W.Frag) : Sp := fun vs H Q E => ∃ (x : Str) (l : Int), vs = [.str x, .int l] ∧ x.length ≤ 16000000 ∧ (∀ d, parse x = some d → ∀ p H', Ex H H' → H p = none → H' p = some (.tup (itV (some d))) → Q (.ref p) H') ∧ (parse x = none → BT K E l H)
def sp_line_deed (K : PySem.W.Frag) : Sp := fun vs H Q E => ∃ (x : Str), vs = [.str x] ∧ x.length ≤ 16000000 ∧ (∀ d, parse x = some d → ∀ p H', Ex H H' → H p = none → H' p = some (.tup (itV (some d))) → Q (.ref p) H') ∧ (parse x = none → ∀ H', Ex H H' → Q .non H')
theorem txI_len {it : Option (Str × List Int)} (h : okI it = true) (hl : (itV it).length ≤ 100) : (txI it).length ≤ 1000 := by
  cases it with
  | none => cases h
  | some d =>
    obtain ⟨x, ns⟩ := d
    rw [okI_some, Bool.and_eq_true, List.all_eq_true] at h
    have hl : (V.str x :: ns.map V.int).length ≤ 100 := hl
    simp at hl
    exact Nat.le_trans (join_len _ _) (tx_bound (isD_len h.1) (by omega) fun n hn => of_decide_eq_true (h.2 n hn))

def rows (x : Str) : List Str := if x = "" then [] else Txt.split x "\n"
def dtI (d : Str × List Int) : Dt := .tup (.str d.1 :: d.2.map Dt.int)
def dtItem : Option (Str × List Int) → Dt
  | none => .tup []
  | some d => dtI d
def outR (x : Str) : Dt := match runO ((rows x).map parse) 0 with
  | .inl ds => .tup [.str "read", .lst (ds.map dtI)]
  | .inr i => .tup [.str "bad text", .int ((i : Nat) + 1)]
theorem outR_ok {x : Str} {ds : List (Str × List Int)} (h : (rows x).map parse = ds.map some) : outR x = .tup [.str "read", .lst (ds.map dtI)] := by
  unfold outR
  rw [runO_ok h]
theorem outR_bad {x : Str} {i : Nat} (h : ((rows x).map parse)[i]? = some none) (hb : ∀ j, j < i → ((rows x).map parse)[j]? ≠ some none) : outR x = .tup [.str "bad text", .int ((i : Nat) + 1)] := by
  unfold outR
  rw [runO_bad h hb, Nat.zero_add]
def okO (it : Option (Str × List Int)) : Option Unit := if okI it = true then some () else none
def outW (its : List (Option (Str × List Int))) : Dt := match runO (its.map okO) 0 with
  | .inl _ => .tup [.str "text", .str (wrT its)]
  | .inr i => .tup [.str "bad deed", dtItem (its[i]?.getD none)]
theorem outW_ok {its : List (Option (Str × List Int))} (h : ∀ (j : Nat) jt, its[j]? = some jt → okI jt = true) : outW its = .tup [.str "text", .str (wrT its)] := by
  unfold outW
  have e : its.map okO = (its.map fun _ => ()).map some := by
    rw [List.map_map]
    refine List.map_congr_left fun it hm => ?_
    obtain ⟨j, hj, e⟩ := List.getElem_of_mem hm
    unfold okO
    rw [if_pos (h j it (by rw [← e]; exact List.getElem?_eq_getElem hj))]
    rfl
  rw [runO_ok e]
theorem outW_bad {its : List (Option (Str × List Int))} {i : Nat} {it : Option (Str × List Int)} (h : its[i]? = some it) (hb : okI it = false) (hall : ∀ j, j < i → ∀ jt, its[j]? = some jt → okI jt = true) : outW its = .tup [.str "bad deed", dtItem it] := by
  unfold outW
  have e1 : (its.map okO)[i]? = some none := by
    rw [List.getElem?_map, h]
    show some (okO it) = some none
    unfold okO
    rw [if_neg (by rw [hb]; decide)]
  have e2 : ∀ j, j < i → (its.map okO)[j]? ≠ some none := fun j hj e => by
    rw [List.getElem?_map, Option.map_eq_some_iff] at e
    obtain ⟨jt, h1, h2⟩ := e
    unfold okO at h2
    rw [if_pos (hall j hj jt h1)] at h2
    cases h2
  rw [runO_bad e1 e2, Nat.zero_add]
  show Dt.tup [Dt.str "bad deed", dtItem (its[i]?.getD none)] = _
  rw [h]
  rfl
theorem rpa_ints {H : Hp} : ∀ ns : List Int, RpA H (ns.map V.int) (ns.map Dt.int)
  | [] => .nil
  | n :: ns => .cons (.int n) (rpa_ints ns)
theorem rp_item {H : Hp} {a : Addr} : ∀ {it : Option (Str × List Int)}, H a = some (.tup (itV it)) → Rp H (.ref a) (dtItem it)
  | none, h => .tup h .nil
  | some (x, ns), h => .tup (xs := .str x :: ns.map V.int) h (.cons (.str x) (rpa_ints ns))
/-- tuples that stand for deeds -/
def TupsAt (H : Hp) (as : List V) (ds : List (Str × List Int)) : Prop := as.length = ds.length ∧ ∀ (j : Nat) (v : V), as[j]? = some v → ∃ (a : Addr) (d : Str × List Int), v = V.ref a ∧ ds[j]? = some d ∧ H a = some (.tup (itV (some d)))
theorem TupsAt.nil {H : Hp} : TupsAt H [] [] := ⟨rfl, fun j v h => by simp at h⟩
theorem TupsAt.ex {H H' : Hp} {as : List V} {ds : List (Str × List Int)} (e : Ex H H') (h : TupsAt H as ds) : TupsAt H' as ds := ⟨h.1, fun j v hv => by
  obtain ⟨a, d, h1, h2, h3⟩ := h.2 j v hv
  exact ⟨a, d, h1, h2, e _ _ h3⟩⟩
theorem TupsAt.exB {H H' : Hp} {st sc : Addr} {as : List V} {ds : List (Str × List Int)} (dr : Drw H st sc) (e : ExB st H H') (h : TupsAt H as ds) : TupsAt H' as ds := ⟨h.1, fun j v hv => by
  obtain ⟨a, d, h1, h2, h3⟩ := h.2 j v hv
  exact ⟨a, d, h1, h2, e _ _ (dr.neT h3) h3⟩⟩
theorem TupsAt.put {H : Hp} {D : Addr} {l : List V} {o : HO} {as : List V} {ds : List (Str × List Int)} (hD : H D = some (.lst l)) (h : TupsAt H as ds) : TupsAt (upd H D o) as ds := ⟨h.1, fun j v hv => by
  obtain ⟨a, d, h1, h2, h3⟩ := h.2 j v hv
  exact ⟨a, d, h1, h2, lk_ne (fun e => by rw [e, hD] at h3; cases h3) h3⟩⟩
theorem TupsAt.snoc {H : Hp} {as : List V} {ds : List (Str × List Int)} {a : Addr} {d : Str × List Int} (h : TupsAt H as ds) (ha : H a = some (.tup (itV (some d)))) : TupsAt H (as ++ [.ref a]) (ds ++ [d]) := by
  refine ⟨by simp [h.1], fun j v hv => ?_⟩
  rcases Nat.lt_or_ge j as.length with hj | hj
  · rw [List.getElem?_append_left hj] at hv
    obtain ⟨b, d', h1, h2, h3⟩ := h.2 j v hv
    exact ⟨b, d', h1, by rw [List.getElem?_append_left (by rw [← h.1]; exact hj)]; exact h2, h3⟩
  · rw [List.getElem?_append_right hj] at hv
    have e : j - as.length = 0 := by
      rcases Nat.eq_zero_or_pos (j - as.length) with e | e
      · exact e
      · rw [List.getElem?_eq_none (by simp; omega)] at hv; cases hv
    rw [e] at hv
    cases hv
    exact ⟨a, d, rfl, by rw [List.getElem?_append_right (by rw [← h.1]; exact hj), ← h.1, e]; rfl, ha⟩
theorem TupsAt.rpa {H : Hp} : ∀ {as : List V} {ds : List (Str × List Int)}, TupsAt H as ds → RpA H as (ds.map dtI)
  | [], [], _ => .nil
  | [], _ :: _, h => by have := h.1; simp at this
  | _ :: _, [], h => by have := h.1; simp at this
  | v :: as, d :: ds, h => by
    obtain ⟨a, d', h1, h2, h3⟩ := h.2 0 v rfl
    cases h2
    subst h1
    exact .cons (rp_item h3) (TupsAt.rpa ⟨by have := h.1; simpa using this, fun j v hv => h.2 (j + 1) v (by simpa using hv)⟩)
theorem TupsAt.items {H : Hp} {as : List V} {ds : List (Str × List Int)} (h : TupsAt H as ds) (hl : ∀ d ∈ ds, d.2.length ≤ 99) : ItemsAt H as (ds.map some) := ⟨by rw [List.length_map]; exact h.1, fun i v hv => by
  obtain ⟨a, d, h1, h2, h3⟩ := h.2 i v hv
  refine ⟨a, some d, h1, by rw [List.getElem?_map, h2]; rfl, h3, ?_⟩
  have := hl d (List.mem_of_getElem? h2)
  simp [itV]
  omega⟩
def sp_read_deeds (K : PySem.W.Frag) : Sp := fun vs H Q E => ∃ (x : Str), vs = [.str x] ∧ x.length ≤ 16000000 ∧ (∀ ds, (rows x).map parse = ds.map some → ∀ p as H', Ex H H' → H p = none → H' p = some (.lst as) → TupsAt H' as ds → Q (.ref p) H') ∧
  ∀ i : Nat, ((rows x).map parse)[i]? = some none → (∀ j, j < i → ((rows x).map parse)[j]? ≠ some none) → BT K E ((i : Nat) + 1) H
def sp_law_read : Sp := fun vs H Q _ => ∃ (x : Str), vs = [.str x] ∧ x.length ≤ 16000000 ∧ ∀ v H', Ex H H' → Rp H' v (outR x) → Q v H'
def sp_law_write (K : PySem.W.Frag) : Sp := fun vs H Q _ => ∃ (p : Addr) (xs : List V) (its : List (Option (Str × List Int))), vs = [.ref p] ∧ SqL K H p xs ∧ ItemsAt H xs its ∧ its.length ≤ 100 ∧ ∀ v H', Ex H H' → Rp H' v (outW its) → Q v H'
theorem str_ne {x : Str} (h : ¬ x = "") : rows x = Txt.split x "\n" := by
  unfold rows
  rw [if_neg h]
theorem str_e : rows "" = [] := by
  unfold rows
  rw [if_pos rfl]

theorem isDL_itV {it : Option (Str × List Int)} : isDL (itV it) = match it with
  | none => false
  | some (x, ns) => isD x (ns.length : Nat) := by
  cases it with
  | none => rfl
  | some d =>
    obtain ⟨x, ns⟩ := d
    show isD x ((ns.map V.int).length : Nat) = _
    rw [List.length_map]
theorem hdS_itV {it : Option (Str × List Int)} : hdS (itV it) := by
  cases it with
  | none => exact .inl rfl
  | some d => exact .inr ⟨d.1, d.2.map V.int, rfl⟩
theorem okI_all {x : Str} {ns : List Int} (h : isD x (ns.length : Nat) = true) (hN : ∀ n ∈ ns, 0 ≤ n ∧ n ≤ 999) : okI (some (x, ns)) = true := by
  rw [okI_some, h, Bool.true_and]
  exact List.all_eq_true.mpr fun n hn => decide_eq_true (hN n hn)
theorem okI_bad {x : Str} {ns : List Int} {n : Int} (hn : n ∈ ns) (hb : ¬ (0 ≤ n ∧ n ≤ 999)) : okI (some (x, ns)) = false := by
  rw [okI_some]
  cases q : ns.all fun n => decide (0 ≤ n ∧ n ≤ 999) with
  | false => rw [Bool.and_false]
  | true => exact absurd (of_decide_eq_true (List.all_eq_true.mp q n hn)) hb
theorem okI_parts {d : Str × List Int} (h : okI (some d) = true) : isD d.1 (d.2.length : Nat) = true ∧ ∀ n ∈ d.2, 0 ≤ n ∧ n ≤ 999 := by
  obtain ⟨x, ns⟩ := d
  rw [okI_some, Bool.and_eq_true, List.all_eq_true] at h
  exact ⟨h.1, fun n hn => of_decide_eq_true (h.2 n hn)⟩
def TT (b : Bool) (B : Nat) (H : Hp) (v : V) : Prop := if b = true then ∃ y, v = V.str y ∧ y.length ≤ B else ∃ (a : Addr) (it : Option (Str × List Int)), v = V.ref a ∧ H a = some (.tup (itV it)) ∧ (itV it).length ≤ 100
theorem TT.exB {b : Bool} {B : Nat} {H H' : Hp} {st sc : Addr} {v : V} (d : Drw H st sc) (e : ExB st H H') (h : TT b B H v) : TT b B H' v := by
  cases b with
  | true => exact h
  | false =>
    obtain ⟨a, it, h1, h2, h3⟩ := h
    exact ⟨a, it, h1, e _ _ (d.neT h2) h2, h3⟩
theorem TT.put {b : Bool} {B : Nat} {H : Hp} {q : Addr} {l : List V} {o : HO} {v : V} (hq : H q = some (.lst l)) (h : TT b B H v) : TT b B (upd H q o) v := by
  cases b with
  | true => exact h
  | false =>
    obtain ⟨a, it, h1, h2, h3⟩ := h
    exact ⟨a, it, h1, lk_ne (fun e => by rw [e, hq] at h2; cases h2) h2, h3⟩
theorem TT.new {b : Bool} {B : Nat} {H : Hp} {q : Addr} {o : HO} {v : V} (hq : H q = none) (h : TT b B H v) : TT b B (upd H q o) v := by
  cases b with
  | true => exact h
  | false =>
    obtain ⟨a, it, h1, h2, h3⟩ := h
    exact ⟨a, it, h1, lk_new hq h2, h3⟩
theorem mem_ins {α : Type} {ys : List α} {k : Nat} {y v : α} (h : v ∈ ys.take k ++ [y] ++ ys.drop k) : v ∈ ys ∨ v = y := by
  rcases List.mem_append.mp h with h | h
  · rcases List.mem_append.mp h with h | h
    · exact .inl (List.mem_of_mem_take h)
    · exact .inr (List.mem_singleton.mp h)
  · exact .inl (List.mem_of_mem_drop h)
def sp_with_odd : Sp := fun vs H Q _ => ∃ (st sc p : Addr) (xs : List V) (b : Bool) (B : Nat), vs = [.ref st, .ref p, .int (if b = true then 19 else 16), .bl b] ∧ Drw H st sc ∧ H p = some (.lst xs) ∧ 20 ≤ B ∧ xs.length ≤ 1000 ∧ (∀ v ∈ xs, TT b B H v) ∧
  ∀ q ys H', H q = none → H' q = some (.lst ys) → ys.length ≤ xs.length + 3 → (∀ v ∈ ys, TT b B H' v) → Drw H' st sc → ExB st H H' → Q (.ref q) H'
theorem cutS_len {z : Str} {lo hi : Option Int} : (cutS z lo hi).length ≤ z.length := by
  unfold cutS
  simp only [Str.length, List.size_toArray, List.length_take, List.length_drop, Array.length_toList]
  omega
theorem add_len (a b : Str) : (a ++ b).length = a.length + b.length := by rw [len_tl, tl_append, List.length_append, ← len_tl, ← len_tl]
def sp_spoiled : Sp := fun vs H Q _ => ∃ (st sc : Addr) (x : Str), vs = [.ref st, .str x] ∧ Drw H st sc ∧ x.length ≤ 1000000 ∧ ∀ (y : Str) H', y.length ≤ 2 * x.length + 2 → Drw H' st sc → ExB st H H' → Q (.str y) H'
theorem sum_ins {ys : List Str} {k : Nat} {y : Str} : ((ys.take k ++ [y] ++ ys.drop k).map (·.length)).sum = (ys.map (·.length)).sum + y.length := by
  have e : (ys.map (·.length)).sum = ((ys.take k ++ ys.drop k).map (·.length)).sum := by rw [List.take_append_drop]
  rw [e]
  simp only [List.map_append, List.sum_append, List.map_cons, List.map_nil, List.sum_cons, List.sum_nil]
  omega
def BadRow (x : Str) : Prop := ∃ i : Nat, ((rows x).map parse)[i]? = some none
def sp_base : Sp := fun vs H Q _ => ∃ (x : Str), vs = [.str x] ∧ x.length ≤ 16000000 ∧ BadRow x ∧ ∀ H', Ex H H' → Q (.bl true) H'
def okDs (ds : List (Str × List Int)) : Prop := ds.length ≤ 20 ∧ ∀ d ∈ ds, okI (some d) = true ∧ d.2.length ≤ 50
def sp_lists_stand : Sp := fun vs H Q _ => ∃ (p : Addr) (as : List V) (ds : List (Str × List Int)), vs = [.ref p, .str (wrT (ds.map some))] ∧ H p = some (.lst as) ∧ TupsAt H as ds ∧ okDs ds ∧ ∀ H', Ex H H' → Q (.bl true) H'

theorem joinL_free {c : Nat} {S : List Nat} (hS : c ∉ S) : ∀ ps : List (List Nat), (∀ p ∈ ps, c ∉ p) → c ∉ joinL S ps
  | [], _ => by simp [joinL]
  | [p], h => h p (List.mem_singleton.mpr rfl)
  | p :: q :: r, h => by
    have := joinL_free hS (q :: r) fun z hz => h z (List.mem_cons_of_mem _ hz)
    simp only [joinL, List.mem_append, not_or]
    exact ⟨h p (List.mem_cons_self ..), hS, this⟩
theorem word_free {x : Str} {c : Int} (h : isD x c = true) : 32 ∉ tl x ∧ 10 ∉ tl x ∧ x ≠ "" := by
  rcases isD_word h with rfl | rfl | rfl | rfl | rfl | rfl | rfl | rfl | rfl | rfl | rfl <;> exact ⟨by decide +kernel, by decide +kernel, by decide +kernel⟩
theorem okN_all : ∀ k, k < 1000 → okN (numL k) = true := by decide +kernel
theorem num_free {n : Int} (h : 0 ≤ n) (h1 : n ≤ 999) : 32 ∉ tl (nmS n) ∧ 10 ∉ tl (nmS n) ∧ okN (tl (nmS n)) = true ∧ valN (tl (nmS n)) = n := by
  rw [tl_nmS h]
  refine ⟨numL_free (by omega), numL_free (by omega), okN_all _ (by omega), ?_⟩
  unfold valN
  rw [numL_val]
  omega
theorem split_tx {d : Str × List Int} (h : okI (some d) = true) : Txt.split (txI (some d)) " " = d.1 :: d.2.map nmS := by
  obtain ⟨h1, h2⟩ := okI_parts h
  refine split_join sp_sp.1 sp_sp.2 (by simp) fun p hp => ?_
  rcases List.mem_cons.mp hp with rfl | hp
  · exact (word_free h1).1
  · obtain ⟨n, hn, rfl⟩ := List.mem_map.mp hp
    exact (num_free (h2 n hn).1 (h2 n hn).2).1
theorem parse_tx {d : Str × List Int} (h : okI (some d) = true) : parse (txI (some d)) = some d := by
  obtain ⟨h1, h2⟩ := okI_parts h
  rw [parse_eq (split_tx h), if_pos]
  · rw [List.map_map]
    have e : d.2.map ((fun z => valN (tl z)) ∘ nmS) = d.2 := by
      have : d.2.map ((fun z => valN (tl z)) ∘ nmS) = d.2.map id := List.map_congr_left fun n hn => (num_free (h2 n hn).1 (h2 n hn).2).2.2.2
      rw [this, List.map_id]
    rw [e]
  · refine ⟨by rw [List.length_map]; exact h1, fun z hz => ?_⟩
    obtain ⟨n, hn, rfl⟩ := List.mem_map.mp hz
    exact (num_free (h2 n hn).1 (h2 n hn).2).2.2.1
theorem split_empty {s : Str} {c : Nat} (hs : tl s = [c]) (hk : s.cps.all (· < 256) = true) : Txt.split "" s = [("" : Str)] := by
  refine map_tl_inj ?_
  rw [split_spl _ s (by rw [hs]; simp) (kind_ok hk)]
  exact spl_nil _ _ _
theorem tx_free {d : Str × List Int} (h : okI (some d) = true) : 10 ∉ tl (txI (some d)) ∧ txI (some d) ≠ "" := by
  obtain ⟨h1, h2⟩ := okI_parts h
  constructor
  · show 10 ∉ tl (Txt.join " " (d.1 :: d.2.map nmS))
    rw [join_eq, tl_join]
    refine joinL_free (by rw [sp_sp.1]; decide) _ fun p hp => ?_
    rw [List.map_cons] at hp
    rcases List.mem_cons.mp hp with rfl | hp
    · exact (word_free h1).2.1
    · obtain ⟨z, hz, rfl⟩ := List.mem_map.mp hp
      obtain ⟨n, hn, rfl⟩ := List.mem_map.mp hz
      exact (num_free (h2 n hn).1 (h2 n hn).2).2.1
  · intro e
    have := split_tx h
    rw [e, split_empty sp_sp.1 sp_sp.2] at this
    injection this with h3 _
    exact (word_free h1).2.2 h3.symm
/-- the texts of valid deeds are read back -/
theorem read_back {ds : List (Str × List Int)} (h : ∀ d ∈ ds, okI (some d) = true) : (rows (wrT (ds.map some))).map parse = ds.map some := by
  cases ds with
  | nil => exact by rw [show wrT ([].map some) = "" from rfl, str_e]; rfl
  | cons d r =>
    have hs : Txt.split (wrT ((d :: r).map some)) "\n" = ((d :: r).map some).map txI := by
      refine split_join sp_nl.1 sp_nl.2 (by simp) fun p hp => ?_
      rw [List.map_map] at hp
      obtain ⟨e, he, rfl⟩ := List.mem_map.mp hp
      exact (tx_free (h e he)).1
    have hne : ¬ wrT ((d :: r).map some) = "" := fun e => by
      rw [e, split_empty sp_nl.1 sp_nl.2] at hs
      rw [List.map_cons, List.map_cons] at hs
      injection hs with h3 _
      exact (tx_free (h d (List.mem_cons_self ..))).2 h3.symm
    rw [str_ne hne, hs, List.map_map, List.map_map]
    exact List.map_congr_left fun e he => parse_tx (h e he)
theorem spl_end {c : Nat} : ∀ (l acc : List Nat), [] ∈ spl [c] 0 acc (l ++ [c])
  | [], acc => by
    rw [List.nil_append, spl_hit (show pre [c] [c] = true from pre_self [c] [])]
    exact List.mem_cons_of_mem _ (by rw [spl_nil]; exact List.mem_singleton.mpr rfl)
  | d :: r, acc => by
    rw [List.cons_append]
    cases h : pre [c] (d :: (r ++ [c])) with
    | true => rw [spl_hit h]; exact List.mem_cons_of_mem _ (spl_end r [])
    | false => rw [spl_miss h]; exact spl_end r _
theorem parse_empty : parse "" = none := by
  rw [parse_eq (split_empty sp_sp.1 sp_sp.2), if_neg]
  exact fun h => by have := h.1; revert this; decide +kernel
theorem bad_nl {x : Str} : BadRow (x ++ "\n") := by
  have hne : ¬ (x ++ ("\n" : Str)) = "" := fun e => by
    have := congrArg Str.length e
    rw [add_len] at this
    have h1 : ("\n" : Str).length = 1 := by decide +kernel
    have h2 : ("" : Str).length = 0 := by decide +kernel
    omega
  have hm : ([] : List Nat) ∈ (Txt.split (x ++ "\n") "\n").map tl := by
    rw [split_spl _ _ (by rw [sp_nl.1]; simp) (kind_ok sp_nl.2), tl_append, sp_nl.1]
    exact spl_end _ _
  obtain ⟨y, hy, e⟩ := List.mem_map.mp hm
  have e : y = "" := ext_tl e
  subst e
  obtain ⟨i, hi, e⟩ := List.getElem_of_mem hy
  refine ⟨i, ?_⟩
  rw [str_ne hne, List.getElem?_map, List.getElem?_eq_getElem hi, e]
  show some (parse "") = some none
  rw [parse_empty]
theorem first_bad {α : Type} : ∀ {l : List (Option α)} {i : Nat}, l[i]? = some none → ∃ k : Nat, l[k]? = some none ∧ ∀ j, j < k → l[j]? ≠ some none
  | none :: l, _, _ => ⟨0, rfl, fun j hj => absurd hj (Nat.not_lt_zero _)⟩
  | some a :: l, 0, h => by simp at h
  | some a :: l, i + 1, h => by
    obtain ⟨k, h1, h2⟩ := first_bad (l := l) (i := i) (by simpa using h)
    refine ⟨k + 1, by simpa using h1, fun j hj => ?_⟩
    cases j with
    | zero => simp
    | succ j => simpa using h2 j (by omega)
  | [], i, h => by simp at h
/-! sizes, for _law_same -/
theorem Dsz.up : ∀ {n : Nat} {d : Dt}, Dsz n d → Dsz (n + 1) d
  | 0, d, h => by
    have h : d.dep = 0 := h
    intro l hl
    rcases hl with rfl | rfl <;> (unfold Dt.dep at h; omega)
  | n + 1, d, h => fun l hl => ⟨(h l hl).1, fun e he => Dsz.up ((h l hl).2 e he)⟩
theorem Dsz.sc {n : Nat} {d : Dt} (h : d.dep = 0) : Dsz n d := by
  induction n with
  | zero => exact h
  | succ n ih => exact Dsz.up ih
theorem Dsz.t {n : Nat} {l : List Dt} (h : l.length ≤ 1000000) (he : ∀ e ∈ l, Dsz n e) : Dsz (n + 1) (.tup l) := by
  intro m hm
  rcases hm with e | e
  · cases e
  · cases e; exact ⟨h, he⟩
theorem Dsz.l {n : Nat} {l : List Dt} (h : l.length ≤ 1000000) (he : ∀ e ∈ l, Dsz n e) : Dsz (n + 1) (.lst l) := by
  intro m hm
  rcases hm with e | e
  · cases e; exact ⟨h, he⟩
  · cases e
theorem dsz_d {d : Str × List Int} (h : d.2.length ≤ 900000) : Dsz 1 (dtI d) := by
  refine Dsz.t (by simp; omega) fun e he => ?_
  rcases List.mem_cons.mp he with rfl | he
  · exact Dsz.sc (by unfold Dt.dep; rfl)
  · obtain ⟨n, _, rfl⟩ := List.mem_map.mp he
    exact Dsz.sc (by unfold Dt.dep; rfl)
theorem dsz_item {it : Option (Str × List Int)} (h : (itV it).length ≤ 100) : Dsz 1 (dtItem it) := by
  cases it with
  | none => exact Dsz.t (by simp) fun e he => by simp at he
  | some d => exact dsz_d (by simp [itV] at h; omega)
theorem parse_size {x : Str} {d : Str × List Int} (h : parse x = some d) : d.2.length ≤ x.length := by
  obtain ⟨y, ws, e⟩ := split_ne (x := x) sp_sp.1 sp_sp.2
  have hl := (split_le (x := x) sp_sp.1 sp_sp.2).1
  rw [parse_eq e] at h
  rw [e] at hl
  split at h
  · cases h
    simp at hl ⊢
    omega
  · cases h
theorem runO_inl {α : Type} : ∀ {l : List (Option α)} {i : Nat} {ds : List α}, runO l i = .inl ds → l = ds.map some
  | [], i, ds, h => by cases h; rfl
  | none :: l, i, ds, h => by cases h
  | some a :: l, i, ds, h => by
    have h : (match runO l (i + 1) with | Sum.inl l => (Sum.inl (a :: l) : Sum (List α) Nat) | Sum.inr j => Sum.inr j) = .inl ds := h
    split at h
    · rename_i m e
      cases h
      rw [runO_inl e]
      rfl
    · cases h
theorem dsz_outR {x : Str} (h : x.length ≤ 800000) : Dsz 3 (outR x) := by
  have hr : (rows x).length ≤ x.length + 1 ∧ ∀ y ∈ rows x, y.length ≤ x.length := by
    by_cases e : x = ""
    · rw [e, str_e]; exact ⟨by simp, fun y hy => by simp at hy⟩
    · rw [str_ne e]; exact split_le sp_nl.1 sp_nl.2
  unfold outR
  split
  · rename_i ds e
    have e := runO_inl e
    have hl := congrArg List.length e
    simp at hl
    refine Dsz.t (by simp) fun d hd => ?_
    simp only [List.mem_cons, List.not_mem_nil, or_false] at hd
    rcases hd with rfl | rfl
    · exact Dsz.sc (by unfold Dt.dep; rfl)
    · refine Dsz.l (by simp; omega) fun d hd => ?_
      obtain ⟨c, hc, rfl⟩ := List.mem_map.mp hd
      have hm : some c ∈ (rows x).map parse := by rw [e]; exact List.mem_map_of_mem hc
      obtain ⟨y, hy, ey⟩ := List.mem_map.mp hm
      have := parse_size ey
      have := hr.2 y hy
      exact dsz_d (by omega)
  · refine Dsz.t (by simp) fun d hd => ?_
    simp only [List.mem_cons, List.not_mem_nil, or_false] at hd
    rcases hd with rfl | rfl <;> exact Dsz.sc (by unfold Dt.dep; rfl)
theorem dsz_outW {its : List (Option (Str × List Int))} (h : ∀ it ∈ its, (itV it).length ≤ 100) : Dsz 3 (outW its) := by
  unfold outW
  split
  · refine Dsz.t (by simp) fun d hd => ?_
    simp only [List.mem_cons, List.not_mem_nil, or_false] at hd
    rcases hd with rfl | rfl <;> exact Dsz.sc (by unfold Dt.dep; rfl)
  · refine Dsz.t (by simp) fun d hd => ?_
    simp only [List.mem_cons, List.not_mem_nil, or_false] at hd
    rcases hd with rfl | rfl
    · exact Dsz.sc (by unfold Dt.dep; rfl)
    · refine Dsz.up (dsz_item ?_)
      rename_i i _
      cases e : its[i]? with
      | none => exact (by decide : (0 : Nat) ≤ 100)
      | some it => exact h it (List.mem_of_getElem? e)
theorem ItemsAt.rpa {H : Hp} : ∀ {xs : List V} {its : List (Option (Str × List Int))}, ItemsAt H xs its → RpA H xs (its.map dtItem)
  | [], [], _ => .nil
  | [], _ :: _, h => by have := h.1; simp at this
  | _ :: _, [], h => by have := h.1; simp at this
  | v :: as, d :: ds, h => by
    obtain ⟨a, d', h1, h2, h3, _⟩ := h.2 0 v rfl
    cases h2
    subst h1
    exact .cons (rp_item h3) (ItemsAt.rpa ⟨by have := h.1; simpa using this, fun j v hv => h.2 (j + 1) v (by simpa using hv)⟩)
theorem ItemsAt.sz {H : Hp} {xs : List V} {its : List (Option (Str × List Int))} (h : ItemsAt H xs its) : ∀ it ∈ its, (itV it).length ≤ 100 := fun it hm => by
  obtain ⟨j, hj, e⟩ := List.getElem_of_mem hm
  have hj2 : its[j]? = some it := by rw [← e]; exact List.getElem?_eq_getElem hj
  obtain ⟨a, it', _, h3, _, h5⟩ := h.2 j (xs[j]'(by rw [h.1]; exact hj)) (List.getElem?_eq_getElem _)
  rw [hj2] at h3; cases h3
  exact h5
theorem wr_len {ds : List (Str × List Int)} (h : okDs ds) : (wrT (ds.map some)).length ≤ 30000 := by
  have hb := sum_le (b := 1000) (ys := (ds.map some).map txI) fun y hy => by
    obtain ⟨it, hm, rfl⟩ := List.mem_map.mp hy
    obtain ⟨d, hd, rfl⟩ := List.mem_map.mp hm
    exact txI_len (h.2 d hd).1 (by have := (h.2 d hd).2; simp [itV]; omega)
  have h1 := join_len "\n" ((ds.map some).map txI)
  have h2 : ("\n" : Str).length = 1 := by decide +kernel
  have h3 := h.1
  unfold wrT
  rw [h2] at h1
  simp only [List.length_map] at h1 hb
  omega

theorem dsz_ds {ds : List (Str × List Int)} (h : okDs ds) : Dsz 3 (.lst (ds.map dtI)) := Dsz.up (Dsz.l (by have := h.1; simp; omega) fun d hd => by
  obtain ⟨c, hc, rfl⟩ := List.mem_map.mp hd
  have := (h.2 c hc).2
  exact dsz_d (by omega))
theorem ds_items (ds : List (Str × List Int)) : (ds.map some).map dtItem = ds.map dtI := by
  rw [List.map_map]
  rfl
theorem sn_inj {α : Type} : ∀ {l m : List α}, l.map some = m.map some → l = m
  | [], [], _ => rfl
  | [], b :: m, h => by simp at h
  | a :: l, [], h => by simp at h
  | a :: l, b :: m, h => by
    simp only [List.map_cons, List.cons.injEq, Option.some.injEq] at h
    rw [h.1, sn_inj h.2]
theorem tt_strs {B : Nat} {H : Hp} : ∀ {ys : List V}, (∀ v ∈ ys, TT true B H v) → ∃ zs : List Str, ys = zs.map V.str ∧ ∀ z ∈ zs, z.length ≤ B
  | [], _ => ⟨[], rfl, fun _ h => by simp at h⟩
  | v :: ys, h => by
    obtain ⟨zs, e, hz⟩ := tt_strs (ys := ys) fun w hw => h w (List.mem_cons_of_mem _ hw)
    obtain ⟨y, rfl, hy⟩ := h v (List.mem_cons_self ..)
    refine ⟨y :: zs, by rw [e]; rfl, fun z hz2 => ?_⟩
    rcases List.mem_cons.mp hz2 with rfl | hz2
    · exact hy
    · exact hz z hz2
theorem tt_items {B : Nat} {H : Hp} : ∀ {ys : List V}, (∀ v ∈ ys, TT false B H v) → ∃ its, ItemsAt H ys its
  | [], _ => ⟨[], rfl, fun i v h => by simp at h⟩
  | v :: ys, h => by
    obtain ⟨its, e, hz⟩ := tt_items (ys := ys) fun w hw => h w (List.mem_cons_of_mem _ hw)
    obtain ⟨a, it, rfl, h1, h2⟩ := h v (List.mem_cons_self ..)
    refine ⟨it :: its, by simp [e], fun i w hw => ?_⟩
    cases i with
    | zero => cases hw; exact ⟨a, it, rfl, rfl, h1, h2⟩
    | succ i => exact hz i w (by simpa using hw)
def sp_law (K : PySem.W.Frag) : Sp := fun vs H Q _ => ∃ (a : Addr) (ns : List Int), vs = [.ref a] ∧ SqL K H a (ns.map V.int) ∧ ∀ H', Q (.bl true) H'

theorem inV_s {x : Str} {l : List Str} : inV (.str x) (l.map V.str) = true ↔ x ∈ l := by
  unfold inV
  rw [List.any_map, List.any_eq_true]
  constructor
  · rintro ⟨y, hy, h⟩
    have : y = x := by simpa [eqV] using h
    rw [← this]; exact hy
  · intro h
    exact ⟨x, h, by simp [eqV]⟩
theorem inV_n {x : Str} {l : List Str} (h : inV (.str x) (l.map V.str) = false) : x ∉ l := fun m => by rw [inV_s.mpr m] at h; cases h
theorem inV_bl : ∀ n : Nat, inV (.bl false) (List.replicate n (.bl true)) = false
  | 0 => rfl
  | n + 1 => by
    have := inV_bl n
    unfold inV at this ⊢
    rw [List.replicate_succ, List.any_cons, this]
    rfl
theorem flat_bl (n : Nat) : (List.replicate n (V.bl true)).all flatV = true := by
  rw [List.all_eq_true]
  intro v hv
  rw [List.eq_of_mem_replicate hv]
  rfl
def f2 (x : Str) : Int := if x = "admit" then 3 else if x = "make" ∨ x = "end" then 1 else 2
theorem cal_read_number (G : Gs P w K mg) (K_BadText : ErrK P w K mg base "BadText" 2 1 mk_BadText) : Cal P w K mg base (3 + 1) "read_number" (sp_read_number K) := by
  refine mkCal G.d_read_number sc_read_number (fun _ _ _ _ _ _ us hl => match us, hl with | [_, _], _ => rfl) (fun vs H Q E h => ?_) (fun f cdv A outer s H vs Q E hr h => ?_)
  · obtain ⟨x, l, rfl, _⟩ := h; rfl
  · have tk : Takes (cxOf (L2.CX P w) P w K mg base N_read_number "read_number" (defScope s_read_number) f cdv A outer s H E) (fun cls d _ H => E cls d H) := takes_of rfl rfl rfl rfl
    refine ⟨_, (pss_cons (ps_if (PW.pt (pw_or (pt_cmpR op_eq (pv 0) pe_str (nomark _)) (pw_or1 (pt_cmpR op_gt (pe_callB call_lenSQ (by rfl) G.b_len (by decide +kernel) (pa_cons (pv 0) pa_nil)) (pe_gC G.c_MOST_DIGITS) (nomark _)))))
     (pss_one (ps_raise rfl tk (pmk_fk K_BadText (hr.mono (by first | decide | omega)) (by exact (pa_cons (pv 1) pa_nil)))))
     pss_nil)
    (pss_cons (ps_if (PW.pt (pw_and (pt_cmpR op_eq (pe_ix ix_str (pv 0) pe_int (fun _ _ => rfl)) pe_str (nomark _)) (pw_and1 (pt_cmpR op_gt (pe_callB call_lenSQ (by rfl) G.b_len (by decide +kernel) (pa_cons (pv 0) pa_nil)) pe_int (nomark _)))))
     (pss_one (ps_raise rfl tk (pmk_fk K_BadText (hr.mono (by first | decide | omega)) (by exact (pa_cons (pv 1) pa_nil)))))
     pss_nil)
    (pss_cons (ps_for (passes_of rfl) rfl (pi_str (pv 0)) (pg_name (i := 2) sc_read_number.nd rfl (Or.inl rfl))
     (pss_one (ps_if (pt_cmpR op_ninQ (pv 2) (pe_gC G.c_DIGITS) (by rfl))
      (pss_one (ps_raise rfl tk (pmk_fk K_BadText (hr.mono (by first | decide | omega)) (by exact (pa_cons (pv 1) pa_nil)))))
      pss_nil)))
    (pss_one (ps_ret (pe_callTy call_intSQ (by rfl) G.b_int (by decide +kernel) (pa_cons (pv 0) pa_nil))))))), ?_⟩
    obtain ⟨x, l, rfl, hx, h1, h2⟩ := h
    have hl := len_tl x
    walk_at "vs"
    refine vc_ifd (fun e => ?_) (fun e => ?_) <;> walk_at "vs"
    · exact BT.mk (h2 (okN_bad fun q => by have := str_nil.mp e; omega))
    have e : (tl x).length ≠ 0 := fun h => e (str_nil.mpr h)
    refine vc_ifd (fun e2 => ?_) (fun e2 => ?_) <;> walk_at "vs"
    · exact BT.mk (h2 (okN_bad fun q => by omega))
    obtain ⟨c, a0, hc⟩ := at0 e
    refine vc_ixS hx a0 ?_
    walk_at "vs"
    refine vc_ifd (fun e3 => ?_) (fun e3 => ?_) <;> walk_at "vs"
    all_goals try rw [digs_one] at e3
    · refine vc_ifd (fun e4 => ?_) (fun e4 => ?_) <;> walk_at "vs"
      · exact BT.mk (h2 (okN_bad fun q => q.2.2.1 ⟨by rw [hc, e3], by omega⟩))
      have n4 : ¬ ((tl x).head? = some 48 ∧ 1 < (tl x).length) := fun q => e4 (by omega)
      refine lp_str (fun i σ' H' => H' = H ∧ (∃ v, σ' = [some (.str x), some (.int l), v]) ∧ ∀ j c, j < i → (tl x)[j]? = some c → c ∈ digs) ⟨rfl, ⟨none, rfl⟩, fun j _ h => absurd h (Nat.not_lt_zero _)⟩ (fun i c σ' H' hc ⟨e, ⟨v, es⟩, hall⟩ => ?_) (fun σ' H' ⟨e, ⟨v, es⟩, hall⟩ => ?_)
      · subst e; subst es
        walk_at "vs"
        refine vc_ifn (fun e => ?_) (fun e => ?_) <;> walk_at "vs"
        · exact BT.mk (h2 (okN_bad fun q => e (q.2.2.2 c (List.mem_of_getElem? hc))))
        refine ⟨rfl, ⟨_, rfl⟩, fun j d hj hd => ?_⟩
        rcases Nat.lt_succ_iff_lt_or_eq.mp hj with hj | rfl
        · exact hall j d hj hd
        · rw [hc] at hd; cases hd; exact e
      · subst e; subst es
        have ok : okN (tl x) = true := okN_iff.mpr ⟨by omega, by omega, n4, fun c hc => by obtain ⟨j, hj, e⟩ := List.getElem_of_mem hc; exact hall j c hj (by rw [← e]; exact List.getElem?_eq_getElem hj)⟩
        walk_at "vs"
        exact vc_intS (okN_int ok).1 (okN_int ok).2 (h1 ok)
    have n4 : ¬ ((tl x).head? = some 48 ∧ 1 < (tl x).length) := fun q => e3 (by rw [hc] at q; exact Option.some.inj q.1)
    refine lp_str (fun i σ' H' => H' = H ∧ (∃ v, σ' = [some (.str x), some (.int l), v]) ∧ ∀ j c, j < i → (tl x)[j]? = some c → c ∈ digs) ⟨rfl, ⟨none, rfl⟩, fun j _ h => absurd h (Nat.not_lt_zero _)⟩ (fun i c σ' H' hc ⟨e, ⟨v, es⟩, hall⟩ => ?_) (fun σ' H' ⟨e, ⟨v, es⟩, hall⟩ => ?_)
    · subst e; subst es
      walk_at "vs"
      refine vc_ifn (fun e => ?_) (fun e => ?_) <;> walk_at "vs"
      · exact BT.mk (h2 (okN_bad fun q => e (q.2.2.2 c (List.mem_of_getElem? hc))))
      refine ⟨rfl, ⟨_, rfl⟩, fun j d hj hd => ?_⟩
      rcases Nat.lt_succ_iff_lt_or_eq.mp hj with hj | rfl
      · exact hall j d hj hd
      · rw [hc] at hd; cases hd; exact e
    · subst e; subst es
      have ok : okN (tl x) = true := okN_iff.mpr ⟨by omega, by omega, n4, fun c hc => by obtain ⟨j, hj, e⟩ := List.getElem_of_mem hc; exact hall j c hj (by rw [← e]; exact List.getElem?_eq_getElem hj)⟩
      walk_at "vs"
      exact vc_intS (okN_int ok).1 (okN_int ok).2 (h1 ok)

theorem cal_is_yard_form (G : Gs P w K mg) : Cal P w K mg base (0 + 1) "is_yard_form" sp_is_deed := by
  refine mkCal G.d_is_yard_form sc_is_yard_form (fun _ _ _ _ _ _ us hl => match us, hl with | [_, _], _ => rfl) (fun vs H Q E h => ?_) (fun f cdv A outer s H vs Q E hr h => ?_)
  · obtain ⟨x, l, rfl, _⟩ := h; rfl
  · have tk : Takes (cxOf (L2.CX P w) P w K mg base N_is_yard_form "is_yard_form" (defScope s_is_yard_form) f cdv A outer s H E) (fun cls d _ H => E cls d H) := takes_of rfl rfl rfl rfl
    refine ⟨_, (pss_cons (ps_if (pt_cmpR (op_inKD G.D_LEAST) (pv 0) (pe_glob (v := .ref (ga K "LEAST")) rfl G.c_LEAST rfl) (by rfl))
     (pss_one (ps_ret (pe_cmpR op_ge (pv 1) (pe_ix ix_kdict (pe_glob (v := .ref (ga K "LEAST")) rfl G.c_LEAST rfl) (pv 0) (fun _ _ => rfl)) (nomark _))))
     pss_nil)
    (pss_one (ps_ret (pe_and (pe_cmpR (op_inKD G.D_FORMS) (pv 0) (pe_glob (v := .ref (ga K "FORMS")) rfl G.c_FORMS rfl) (by rfl)) (pe_one (pe_cmpR op_eq (pe_ix ix_kdict (pe_glob (v := .ref (ga K "FORMS")) rfl G.c_FORMS rfl) (pv 0) (fun _ _ => rfl)) (pv 1) (nomark _))))))), ?_⟩
    obtain ⟨x, c, rfl, h1⟩ := h
    walk_at "vs"
    refine vc_ifd (fun e => ?_) (fun e => ?_) <;> walk_at "vs"
    · simp only [List.map_cons, List.map_nil, List.mem_cons, List.not_mem_nil, or_false] at e
      rcases e with rfl | rfl | rfl
      · refine vc_ixK (v := .int 1) G.D_LEAST (by simp) ?_
        walk_at "vs"
        rw [isD_bear] at h1
        exact h1
      · refine vc_ixK (v := .int 2) G.D_LEAST (by simp) ?_
        walk_at "vs"
        rw [isD_wait] at h1
        exact h1
      · refine vc_ixK (v := .int 2) G.D_LEAST (by simp) ?_
        walk_at "vs"
        rw [isD_any] at h1
        exact h1
    refine vc_ifd (fun e2 => ?_) (fun e2 => ?_) <;> walk_at "vs"
    · simp only [List.map_cons, List.map_nil, List.mem_cons, List.not_mem_nil, or_false] at e2
      rcases e2 with rfl | rfl | rfl | rfl | rfl | rfl | rfl | rfl
      · refine vc_ixK (v := .int 1) G.D_FORMS (by simp) ?_
        walk_at "vs"
        rw [isD_make, decide_eq_decide.mpr (eq_comm (a := c))] at h1
        exact h1
      · refine vc_ixK (v := .int 1) G.D_FORMS (by simp) ?_
        walk_at "vs"
        rw [isD_end, decide_eq_decide.mpr (eq_comm (a := c))] at h1
        exact h1
      · refine vc_ixK (v := .int 2) G.D_FORMS (by simp) ?_
        walk_at "vs"
        rw [isD_keep, decide_eq_decide.mpr (eq_comm (a := c))] at h1
        exact h1
      · refine vc_ixK (v := .int 2) G.D_FORMS (by simp) ?_
        walk_at "vs"
        rw [isD_enter, decide_eq_decide.mpr (eq_comm (a := c))] at h1
        exact h1
      · refine vc_ixK (v := .int 2) G.D_FORMS (by simp) ?_
        walk_at "vs"
        rw [isD_sign, decide_eq_decide.mpr (eq_comm (a := c))] at h1
        exact h1
      · refine vc_ixK (v := .int 2) G.D_FORMS (by simp) ?_
        walk_at "vs"
        rw [isD_stay, decide_eq_decide.mpr (eq_comm (a := c))] at h1
        exact h1
      · refine vc_ixK (v := .int 2) G.D_FORMS (by simp) ?_
        walk_at "vs"
        rw [isD_leave, decide_eq_decide.mpr (eq_comm (a := c))] at h1
        exact h1
      · refine vc_ixK (v := .int 3) G.D_FORMS (by simp) ?_
        walk_at "vs"
        rw [isD_admit, decide_eq_decide.mpr (eq_comm (a := c))] at h1
        exact h1
    · simp only [List.map_cons, List.map_nil, List.mem_cons, List.not_mem_nil, or_false] at e e2
      rw [isD_not (fun q => by simp only [not_or] at e e2; rcases q with q | q | q | q | q | q | q | q | q | q | q <;> simp_all)] at h1
      exact h1

theorem cal_is_yard_deed (G : Gs P w K mg) (c_is_yard_form : Cal P w K mg base 1 "is_yard_form" sp_is_deed) : Cal P w K mg base (1 + 1) "is_yard_deed" sp_yard_deed := by
  refine mkCal G.d_is_yard_deed sc_is_yard_deed (fun _ _ _ _ _ _ us hl => match us, hl with | [_], _ => rfl) (fun vs H Q E h => ?_) (fun f cdv A outer s H vs Q E hr h => ?_)
  · obtain ⟨x, l, rfl, _⟩ := h; rfl
  · have tk : Takes (cxOf (L2.CX P w) P w K mg base N_is_yard_deed "is_yard_deed" (defScope s_is_yard_deed) f cdv A outer s H E) (fun cls d _ H => E cls d H) := takes_of rfl rfl rfl rfl
    refine ⟨_, (pss_one (ps_ret (pe_and (pe_cmpR op_gt (pe_callB call_lenQ (by rfl) G.b_len (by decide +kernel) (pa_cons (pv 0) pa_nil)) pe_int (nomark _)) (pe_one (pe_cal tk c_is_yard_form (hr.mono (by first | decide | omega)) (by exact (pa_cons (pe_ix ix_tup (pv 0) pe_int (fun _ _ => rfl)) (pa_cons (pe_op op_sub (pe_callB call_lenQ (by rfl) G.b_len (by decide +kernel) (pa_cons (pv 0) pa_nil)) pe_int) pa_nil)))))))), ?_⟩
    obtain ⟨a, it, rfl, ha, q⟩ := h
    cases it with
    | none =>
      have ha : H a = some (.tup []) := ha
      walk_at "vs"
      exact q
    | some d =>
    obtain ⟨x, ns⟩ := d
    have ha : H a = some (.tup (.str x :: ns.map V.int)) := ha
    have hl : (V.str x :: ns.map V.int).length = ns.length + 1 := by simp
    walk_at "vs"
    refine vc_ifd (fun _ => ?_) (fun e => absurd (by rw [hl]; omega) e)
    walk_at "vs"
    refine vc_ixT (sqT ha) atI_0 ?_
    walk_at "vs"
    refine ⟨_, _, rfl, ?_⟩
    rw [hl, show ((ns.length + 1 : Nat) : Int) - 1 = (ns.length : Nat) from by omega]
    exact q

theorem cal__law_is_number (G : Gs P w K mg) : Cal P w K mg base (0 + 1) "_law_is_number" sp_is_number := by
  refine mkCal G.d__law_is_number sc__law_is_number (fun _ _ _ _ _ _ us hl => match us, hl with | [_], _ => rfl) (fun vs H Q E h => ?_) (fun f cdv A outer s H vs Q E hr h => ?_)
  · obtain ⟨x, rfl, _⟩ := h; rfl
  · have tk : Takes (cxOf (L2.CX P w) P w K mg base N__law_is_number "_law_is_number" (defScope s__law_is_number) f cdv A outer s H E) (fun cls d _ H => E cls d H) := takes_of rfl rfl rfl rfl
    refine ⟨_, (pss_one (ps_ret (pe_and (pe_callB call_isi (by rfl) G.b_isinstance (by decide +kernel) (pa_cons (pv 0) (pa_cons (pe_bltn (v := .ty "int") rfl G.b_int (by decide +kernel) rfl) pa_nil))) (pe_one (pe_not (pe_callB call_isi (by rfl) G.b_isinstance (by decide +kernel) (pa_cons (pv 0) (pa_cons (pe_bltn (v := .ty "bool") rfl G.b_bool (by decide +kernel) rfl) pa_nil)))))))), ?_⟩
    obtain ⟨v, rfl, ⟨i, rfl⟩, h1⟩ := h
    walk_at "vs"
    exact h1

theorem cal__law_start (G : Gs P w K mg) : Cal P w K mg base (0 + 1) "_law_start" (sp_start K) := by
  refine mkCal G.d__law_start sc__law_start (fun _ _ _ _ _ _ us hl => match us, hl with | [_], _ => rfl) (fun vs H Q E h => ?_) (fun f cdv A outer s H vs Q E hr h => ?_)
  · obtain ⟨x, l, rfl, _⟩ := h; rfl
  · have tk : Takes (cxOf (L2.CX P w) P w K mg base N__law_start "_law_start" (defScope s__law_start) f cdv A outer s H E) (fun cls d _ H => E cls d H) := takes_of rfl rfl rfl rfl
    refine ⟨_, (pss_one (ps_ret (pe_lst (pa_cons (pe_callTy call_listQ (by rfl) G.b_list (by decide +kernel) (pa_cons (pv 0) pa_nil)) (pa_cons pe_int (pa_cons pe_int (pa_cons pe_int (pa_cons pe_int pa_nil)))))))), ?_⟩
    obtain ⟨a, ns, rfl, h1, h2⟩ := h
    walk_at "vs"
    refine vc_listL h1 fun sc nsc => ?_
    walk_at "vs"
    refine vc_kL (Nat.le_of_ble_eq_true rfl) fun st nst => ?_
    have nst0 : H st = none := by
      have hne : st ≠ sc := fun e => by rw [e, upd_same] at nst; cases nst
      rwa [upd_ne hne] at nst
    have hne : sc ≠ st := fun e => by rw [← e, upd_same] at nst; cases nst
    walk_at "vs"
    exact h2 st sc _ ((Ex.new nsc).trans (Ex.new nst)) nst0 nsc ⟨ns, 0, 0, 0, 0, upd_same, hne, by rw [upd_ne hne]; exact upd_same, Int.le_refl 0⟩

theorem cal__law_draw (G : Gs P w K mg) : Cal P w K mg base (0 + 1) "_law_draw" sp_draw := by
  refine mkCal G.d__law_draw sc__law_draw (fun _ _ _ _ _ _ us hl => match us, hl with | [_, _], _ => rfl) (fun vs H Q E h => ?_) (fun f cdv A outer s H vs Q E hr h => ?_)
  · obtain ⟨x, y, l, rfl, _⟩ := h; rfl
  · have tk : Takes (cxOf (L2.CX P w) P w K mg base N__law_draw "_law_draw" (defScope s__law_draw) f cdv A outer s H E) (fun cls d _ H => E cls d H) := takes_of rfl rfl rfl rfl
    refine ⟨_, (Evl.pss_cut (ps_if (pt_cmpR op_eq (pe_ix ix_list (pv 0) pe_int (fun _ _ => rfl)) pe_int (nomark _))
     (pss_cons (ps_if (pt_cmpR op_ge (pe_ix ix_list (pv 0) pe_int (fun _ _ => rfl)) (pe_callB call_lenQ (by rfl) G.b_len (by decide +kernel) (pa_cons (pe_ix ix_list (pv 0) pe_int (fun _ _ => rfl)) pa_nil)) (nomark _))
      (pss_one (ps_ret pe_int))
      pss_nil)
     (pss_cons (ps_asg (pe_ix ix_seq (pe_ix ix_list (pv 0) pe_int (fun _ _ => rfl)) (pe_ix ix_list (pv 0) pe_int (fun _ _ => rfl)) (fun _ _ => rfl)) (pg_sub (pv 0) pe_int set_list))
     (pss_cons (ps_asg (pe_op op_add (pe_ix ix_list (pv 0) pe_int (fun _ _ => rfl)) pe_int) (pg_sub (pv 0) pe_int set_list))
     (pss_cons (ps_asg pe_int (pg_sub (pv 0) pe_int set_list))
     (pss_cons (ps_asg pe_int (pg_sub (pv 0) pe_int set_list))
     (pss_one (ps_if (pt_cmpR op_ge (pe_ix ix_list (pv 0) pe_int (fun _ _ => rfl)) (pe_op op_pow pe_int pe_int) (nomark _))
      (pss_cons (ps_asg pe_int (pg_sub (pv 0) pe_int set_list))
      (pss_one (ps_asg pe_int (pg_sub (pv 0) pe_int set_list))))
      pss_nil)))))))
     pss_nil)
    (pss_cons (ps_asg (pe_op op_sub (pe_ix ix_list (pv 0) pe_int (fun _ _ => rfl)) pe_int) (pg_sub (pv 0) pe_int set_list))
    (pss_cons (ps_if (pt_cmpR op_eq (pe_ix ix_list (pv 0) pe_int (fun _ _ => rfl)) pe_int (nomark _))
     (pss_cons (ps_set (i := 2) sc__law_draw.nd rfl (Or.inl rfl) (pe_op op_mod (pe_callTy call_intQ (by rfl) G.b_int (by decide +kernel) (pa_cons (pe_ix ix_list (pv 0) pe_int (fun _ _ => rfl)) pa_nil)) (pv 1)))
     (pss_cons (ps_asg (pe_op op_fdiv (pe_callTy call_intQ (by rfl) G.b_int (by decide +kernel) (pa_cons (pe_ix ix_list (pv 0) pe_int (fun _ _ => rfl)) pa_nil)) (pv 1)) (pg_sub (pv 0) pe_int set_list))
     (Evl.pss_cut (ps_if (pt_cmpR op_eq (pe_ix ix_list (pv 0) pe_int (fun _ _ => rfl)) pe_int (nomark _))
      (pss_one (ps_asg pe_int (pg_sub (pv 0) pe_int set_list)))
      pss_nil)
     (pss_one (ps_ret (pv 2))))))
     pss_nil)
    (pss_cons (ps_set (i := 3) sc__law_draw.nd rfl (Or.inl rfl) (pe_op op_mod (pe_callTy call_intQ (by rfl) G.b_int (by decide +kernel) (pa_cons (pe_op op_add (pe_op op_add (pe_op op_mul (pe_ix ix_list (pv 0) pe_int (fun _ _ => rfl)) pe_int) (pe_op op_mul (pe_ix ix_list (pv 0) pe_int (fun _ _ => rfl)) pe_int)) pe_int) pa_nil)) pe_int))
    (pss_cons (ps_set (i := 3) sc__law_draw.nd rfl (Or.inl rfl) (pe_op op_mod (pe_callTy call_intQ (by rfl) G.b_int (by decide +kernel) (pa_cons (pe_op op_add (pe_op op_add (pe_op op_mul (pv 3) pe_int) (pe_op op_fdiv (pv 3) pe_int)) pe_int) pa_nil)) pe_int))
    (pss_one (ps_ret (pe_op op_mod (pe_callTy call_intQ (by rfl) G.b_int (by decide +kernel) (pa_cons (pv 3) pa_nil)) (pv 1))))))))), ?_⟩
    obtain ⟨st, sc, m, rfl, hm0, hm1, ⟨ns, i, v, k, f, hst, hne, hsc, hi⟩, q⟩ := h
    refine ⟨fun σ' H' => σ' = [some (.ref st), some (.int m), none, none] ∧ ExB st H H' ∧ ∃ i v k f, H' st = some (.lst [.ref sc, .int i, .int v, .int k, .int f]) ∧ 0 ≤ i, ?_, fun σ' H' ⟨es, eb, i, v, k, f, hst, hi⟩ => ?_⟩
    · walk_at "vs"
      refine vc_ifd (fun e => ?_) (fun e => ?_) <;> walk_at "vs"
      · have hl : (ns.map V.int).length = ns.length := List.length_map ..
        refine vc_ifd (fun e2 => ?_) (fun e2 => ?_) <;> walk_at "vs"
        · exact q 0 H (Int.le_refl 0) hm0 ⟨ns, i, v, k, f, hst, hne, hsc, hi⟩ (ExB.refl _ _)
        obtain ⟨x, hx, _, hm⟩ := atI_ex (xs := ns.map V.int) hi (by omega)
        obtain ⟨y, _, rfl⟩ := List.mem_map.mp hm
        refine vc_ixqL (sqL hsc) hx ?_
        walk_at "vs"
        refine vc_ifd (fun e3 => ?_) (fun e3 => ?_) <;> walk_at "vs"
        · exact ⟨rfl, (((((ExB.refl st H).put.put).put).put).put).put, _, _, _, _, upd_same, by omega⟩
        · exact ⟨rfl, (((ExB.refl st H).put.put).put).put, _, _, _, _, upd_same, by omega⟩
      · exact ⟨rfl, ExB.refl _ _, i, v, k, f, hst, hi⟩
    · subst es
      have hsc' := eb _ _ hne hsc
      walk_at "vs"
      refine vc_ifd (fun e => ?_) (fun e => ?_) <;> walk_at "vs"
      · have fin : ∀ (r a b c : Int) (H2 : Hp), 0 ≤ r → r < m → ExB st H' H2 → H2 st = some (.lst [.ref sc, .int i, .int a, .int b, .int c]) → Q (.int r) H2 := fun r a b c H2 r0 r1 e h => q r H2 r0 r1 ⟨ns, i, a, b, c, h, hne, e _ _ hne hsc', hi⟩ (eb.trans e)
        refine ⟨fun σ2 H2 => (∃ u, σ2 = [some (.ref st), some (.int m), some (.int (v % m)), u]) ∧ ExB st H' H2 ∧ ∃ a b c, H2 st = some (.lst [.ref sc, .int i, .int a, .int b, .int c]), ?_, fun σ2 H2 ⟨⟨u, es⟩, eb2, a, b, c, h2⟩ => ?_⟩
        all_goals walk_at "vs"
        · refine vc_ifd (fun e2 => ?_) (fun e2 => ?_) <;> walk_at "vs"
          · exact ⟨⟨_, rfl⟩, (((ExB.refl st H').put).put).put, _, _, _, upd_same⟩
          · exact ⟨⟨_, rfl⟩, ((ExB.refl st H').put).put, _, _, _, upd_same⟩
        · subst es
          walk_at "vs"
          exact fin _ _ _ _ H2 (Int.emod_nonneg _ (by omega)) (Int.emod_lt_of_pos _ hm0) eb2 h2
      · exact q _ _ (Int.emod_nonneg _ (by omega)) (Int.emod_lt_of_pos _ hm0) ⟨ns, i, _, _, _, upd_same, hne, by rw [upd_ne hne]; exact hsc', hi⟩ (eb.trans (ExB.refl st H').put)

theorem cal__law_same (G : Gs P w K mg) (n : Nat) (c__law_is_number : Cal P w K mg base 1 "_law_is_number" sp_is_number) (c__law_same : Cal P w K mg base (n + 1) "_law_same" (pv_same n)) : Cal P w K mg base ((n + 1) + 1) "_law_same" (sp_same n) := by
  refine mkCal G.d__law_same sc__law_same (fun _ _ _ _ _ _ us hl => match us, hl with | [_, _], _ => rfl) (fun vs H Q E h => ?_) (fun f cdv A outer s H vs Q E hr h => ?_)
  · obtain ⟨x, y, d, rfl, _⟩ := h; rfl
  · have tk : Takes (cxOf (L2.CX P w) P w K mg base N__law_same "_law_same" (defScope s__law_same) f cdv A outer s H E) (fun cls d _ H => E cls d H) := takes_of rfl rfl rfl rfl
    refine ⟨_, (pss_cons (ps_if (PW.pt (pw_or (pt_val (pe_callB call_isi (by rfl) G.b_isinstance (by decide +kernel) (pa_cons (pv 1) (pa_cons (pe_bltn (v := .ty "list") rfl G.b_list (by decide +kernel) rfl) pa_nil)))) (pw_or1 (pt_val (pe_callB call_isi (by rfl) G.b_isinstance (by decide +kernel) (pa_cons (pv 1) (pa_cons (pe_bltn (v := .ty "tuple") rfl G.b_tuple (by decide +kernel) rfl) pa_nil)))))))
     (pss_cons (ps_if (PW.pt (pw_or (pt_cmpR op_ne (pe_callB call_isi (by rfl) G.b_isinstance (by decide +kernel) (pa_cons (pv 0) (pa_cons (pe_bltn (v := .ty "list") rfl G.b_list (by decide +kernel) rfl) pa_nil))) (pe_callB call_isi (by rfl) G.b_isinstance (by decide +kernel) (pa_cons (pv 1) (pa_cons (pe_bltn (v := .ty "list") rfl G.b_list (by decide +kernel) rfl) pa_nil))) (nomark _)) (pw_or1 (pt_cmpR op_ne (pe_callB call_isi (by rfl) G.b_isinstance (by decide +kernel) (pa_cons (pv 0) (pa_cons (pe_bltn (v := .ty "tuple") rfl G.b_tuple (by decide +kernel) rfl) pa_nil))) (pe_callB call_isi (by rfl) G.b_isinstance (by decide +kernel) (pa_cons (pv 1) (pa_cons (pe_bltn (v := .ty "tuple") rfl G.b_tuple (by decide +kernel) rfl) pa_nil))) (nomark _)))))
      (pss_one (ps_ret pe_bl))
      pss_nil)
     (pss_cons (ps_if (pt_cmpR op_ne (pe_callB call_lenQ (by rfl) G.b_len (by decide +kernel) (pa_cons (pv 0) pa_nil)) (pe_callB call_lenQ (by rfl) G.b_len (by decide +kernel) (pa_cons (pv 1) pa_nil)) (nomark _))
      (pss_one (ps_ret pe_bl))
      pss_nil)
     (pss_one (ps_ret (pe_cmpR op_notIn_seq pe_bl (pe_lcX (own := [("k", 2)]) (g := gName 2) (tt := tYes) rfl rfl tk rfl sc__law_same.nd (pi_range1 rfl G.b_range (pa_cons (pe_callB call_lenQ (by rfl) G.b_len (by decide +kernel) (pa_cons (pv 1) pa_nil)) pa_nil)) (blkOk_by (own := [("k", 2)]) (N := N__law_same) (sc := defScope s__law_same) (by decide +kernel)) (fun _ _ _ _ _ _ => (pg_name (i := 2) sc__law_same.nd rfl (Or.inl rfl))) (fun _ _ _ _ _ _ => pts_nil) (fun _ _ _ _ _ _ tkb => (pe_cal tkb c__law_same (hr.mono (by first | decide | omega)) (by exact (pa_cons (pe_ix (r := rIx K) ix_seq (pv 0) (pv 2) (fun _ _ => rfl)) (pa_cons (pe_ix (r := rIx K) ix_seq (pv 1) (pv 2) (fun _ _ => rfl)) pa_nil)))))) (by rfl))))))
     pss_nil)
    (pss_cons (ps_if (PW.pt (pw_or (pt_cmpR op_isNQ (pv 1) pe_non (nomark _)) (pw_or1 (pt_val (pe_callB call_isi (by rfl) G.b_isinstance (by decide +kernel) (pa_cons (pv 1) (pa_cons (pe_bltn (v := .ty "bool") rfl G.b_bool (by decide +kernel) rfl) pa_nil)))))))
     (pss_one (ps_ret (pe_and (pe_or (pe_cmpR op_isNQ (pv 0) pe_non (nomark _)) (pe_one (pe_callB call_isi (by rfl) G.b_isinstance (by decide +kernel) (pa_cons (pv 0) (pa_cons (pe_bltn (v := .ty "bool") rfl G.b_bool (by decide +kernel) rfl) pa_nil))))) (pe_one (pe_cmpR op_eq (pv 0) (pv 1) (nomark _))))))
     pss_nil)
    (pss_cons (ps_if (pt_val (pe_callB call_isi (by rfl) G.b_isinstance (by decide +kernel) (pa_cons (pv 1) (pa_cons (pe_bltn (v := .ty "str") rfl G.b_str (by decide +kernel) rfl) pa_nil))))
     (pss_one (ps_ret (pe_and (pe_callB call_isi (by rfl) G.b_isinstance (by decide +kernel) (pa_cons (pv 0) (pa_cons (pe_bltn (v := .ty "str") rfl G.b_str (by decide +kernel) rfl) pa_nil))) (pe_one (pe_cmpR op_eq (pv 0) (pv 1) (nomark _))))))
     pss_nil)
    (pss_one (ps_ret (pe_and (pe_cal tk c__law_is_number (hr.mono (by first | decide | omega)) (by exact (pa_cons (pv 0) pa_nil))) (pe_one (pe_cmpR op_eq (pv 0) (pv 1) (nomark _))))))))), ?_⟩
    obtain ⟨x, y, d, rfl, hd, r1, r2, q⟩ := h
    cases d with
    | non => cases r1; cases r2; walk_at "vs"; exact q H (Ex.refl H)
    | bl b => cases r1; cases r2; walk_at "vs"; rw [decide_eq_true rfl]; exact q H (Ex.refl H)
    | int i =>
      cases r1; cases r2; walk_at "vs"
      refine ⟨_, rfl, ⟨_, rfl⟩, ?_⟩
      walk_at "vs"
      rw [decide_eq_true rfl]; exact q H (Ex.refl H)
    | str s => cases r1; cases r2; walk_at "vs"; rw [decide_eq_true rfl]; exact q H (Ex.refl H)
    | lst l =>
      cases r1 with
      | @lst a1 xs _ h1 ra =>
      cases r2 with
      | @lst a2 ys _ h2 rb =>
      cases n with
      | zero => exact absurd hd (by unfold Dsz Dt.dep; exact Nat.succ_ne_zero _)
      | succ n =>
      obtain ⟨hl, he⟩ := hd l (by first | exact .inl rfl | exact .inr rfl)
      have e1 := ra.len
      have e2 := rb.len
      walk_at "vs"
      refine vc_ifn (fun e => absurd (by rw [e1, e2]) e) (fun e => ?_)
      walk_at "vs"
      refine vc_rC (j := ((ys.length : Nat) : Int)) (by omega) (by omega) ?_
      rw [Int.toNat_natCast]
      intro D nD
      refine lc_rangeQ (fun i H2 => Ex H H2 ∧ H2 D = some (.lst (List.replicate i (.bl true)))) ⟨Ex.new nD, upd_same⟩ (fun i H2 hi ⟨e3, hD⟩ => ?_) (fun H2 ⟨e3, hD⟩ => ?_)
      · obtain ⟨x, hx, hx2, _⟩ := atI_ex (xs := xs) (i := (i : Nat)) (by omega) (by omega)
        obtain ⟨y, hy, hy2, _⟩ := atI_ex (xs := ys) (i := (i : Nat)) (by omega) (by omega)
        rw [Int.toNat_natCast] at hx2 hy2
        obtain ⟨d, hd1, hd2⟩ := ra.get i hx2
        obtain ⟨d', hd3, hd4⟩ := rb.get i hy2
        rw [hd1] at hd3; cases hd3
        have h1' := e3 _ _ h1
        have h2' := e3 _ _ h2
        walk_at "vs"
        refine vc_ixqL (by walk_at "lk") hx ?_
        walk_at "vs"
        refine vc_ixqL (by walk_at "lk") hy ?_
        walk_at "vs"
        refine ⟨_, _, d, rfl, he d (List.mem_of_getElem? hd1), hd2.ex e3, hd4.ex e3, fun H3 e4 => ?_⟩
        refine ⟨_, e4 _ _ hD, ?_, (e3.trans e4).mut nD, ?_⟩
        · have : sizeLine = 16777216 := rfl
          simp
          omega
        · rw [upd_same, ← List.replicate_succ']
      · refine vc_inL (sqL hD) rfl (flat_bl _) ?_
        walk_at "vs"
        have := q H2 e3
        rw [show (if true = true then !inV (V.bl false) (List.replicate ys.length (.bl true)) else inV (V.bl false) (List.replicate ys.length (.bl true))) = true from by rw [inV_bl]; rfl]
        exact this
    | tup l =>
      cases r1 with
      | @tup a1 xs _ h1 ra =>
      cases r2 with
      | @tup a2 ys _ h2 rb =>
      cases n with
      | zero => exact absurd hd (by unfold Dsz Dt.dep; exact Nat.succ_ne_zero _)
      | succ n =>
      obtain ⟨hl, he⟩ := hd l (by first | exact .inl rfl | exact .inr rfl)
      have e1 := ra.len
      have e2 := rb.len
      walk_at "vs"
      refine vc_ifn (fun e => absurd (by rw [e1, e2]) e) (fun e => ?_)
      walk_at "vs"
      refine vc_rC (j := ((ys.length : Nat) : Int)) (by omega) (by omega) ?_
      rw [Int.toNat_natCast]
      intro D nD
      refine lc_rangeQ (fun i H2 => Ex H H2 ∧ H2 D = some (.lst (List.replicate i (.bl true)))) ⟨Ex.new nD, upd_same⟩ (fun i H2 hi ⟨e3, hD⟩ => ?_) (fun H2 ⟨e3, hD⟩ => ?_)
      · obtain ⟨x, hx, hx2, _⟩ := atI_ex (xs := xs) (i := (i : Nat)) (by omega) (by omega)
        obtain ⟨y, hy, hy2, _⟩ := atI_ex (xs := ys) (i := (i : Nat)) (by omega) (by omega)
        rw [Int.toNat_natCast] at hx2 hy2
        obtain ⟨d, hd1, hd2⟩ := ra.get i hx2
        obtain ⟨d', hd3, hd4⟩ := rb.get i hy2
        rw [hd1] at hd3; cases hd3
        have h1' := e3 _ _ h1
        have h2' := e3 _ _ h2
        walk_at "vs"
        refine vc_ixqT (by walk_at "lk") hx ?_
        walk_at "vs"
        refine vc_ixqT (by walk_at "lk") hy ?_
        walk_at "vs"
        refine ⟨_, _, d, rfl, he d (List.mem_of_getElem? hd1), hd2.ex e3, hd4.ex e3, fun H3 e4 => ?_⟩
        refine ⟨_, e4 _ _ hD, ?_, (e3.trans e4).mut nD, ?_⟩
        · have : sizeLine = 16777216 := rfl
          simp
          omega
        · rw [upd_same, ← List.replicate_succ']
      · refine vc_inL (sqL hD) rfl (flat_bl _) ?_
        walk_at "vs"
        have := q H2 e3
        rw [show (if true = true then !inV (V.bl false) (List.replicate ys.length (.bl true)) else inV (V.bl false) (List.replicate ys.length (.bl true))) = true from by rw [inV_bl]; rfl]
        exact this

theorem cal_yard_deed_text (G : Gs P w K mg) (K_BadDeed : ErrK P w K mg base "BadDeed" 2 1 mk_BadDeed) (c_is_yard_deed : Cal P w K mg base 2 "is_yard_deed" sp_yard_deed) : Cal P w K mg base (3 + 1) "yard_deed_text" (sp_deed_text K) := by
  refine mkCal G.d_yard_deed_text sc_yard_deed_text (fun _ _ _ _ _ _ us hl => match us, hl with | [_], _ => rfl) (fun vs H Q E h => ?_) (fun f cdv A outer s H vs Q E hr h => ?_)
  · obtain ⟨x, l, rfl, _⟩ := h; rfl
  · have tk : Takes (cxOf (L2.CX P w) P w K mg base N_yard_deed_text "yard_deed_text" (defScope s_yard_deed_text) f cdv A outer s H E) (fun cls d _ H => E cls d H) := takes_of rfl rfl rfl rfl
    refine ⟨_, (pss_cons (ps_if (pt_not (pt_val (pe_cal tk c_is_yard_deed (hr.mono (by first | decide | omega)) (by exact (pa_cons (pv 0) pa_nil)))))
     (pss_one (ps_raise rfl tk (pmk_fk K_BadDeed (hr.mono (by first | decide | omega)) (by exact (pa_cons (pv 0) pa_nil)))))
     pss_nil)
    (pss_cons (ps_for (passes_of rfl) rfl (pi_tup (pe_slice sl_tupA (pv 0) (po_some pe_int) po_none)) (pg_name (i := 1) sc_yard_deed_text.nd rfl (Or.inl rfl))
     (pss_one (ps_if (pt_not (pt_chain op_le op_le pe_int (pv 1) (pe_gC G.c_MOST_NUMBER)))
      (pss_one (ps_raise rfl tk (pmk_fk K_BadDeed (hr.mono (by first | decide | omega)) (by exact (pa_cons (pv 0) pa_nil)))))
      pss_nil)))
    (pss_one (ps_ret (pe_joinQ pe_str (pe_op op_cat (pe_lst (pa_cons (pe_ix ix_tup (pv 0) pe_int (fun _ _ => rfl)) pa_nil)) (pe_lcX (own := [("number", 1)]) (g := gName 1) (tt := tYes) rfl rfl tk rfl sc_yard_deed_text.nd (pi_tup (pe_slice sl_tupA (pv 0) (po_some pe_int) po_none)) (blkOk_by (own := [("number", 1)]) (N := N_yard_deed_text) (sc := defScope s_yard_deed_text) (by decide +kernel)) (fun _ _ _ _ _ _ => (pg_name (i := 1) sc_yard_deed_text.nd rfl (Or.inl rfl))) (fun _ _ _ _ _ _ => pts_nil) (fun _ _ _ _ _ _ tkb => (pe_callTy call_strQ (by rfl) G.b_str (by decide +kernel) (pa_cons (pv 1) pa_nil)))))))))), ?_⟩
    obtain ⟨a, it, rfl, ha, hn, h1, h2⟩ := h
    walk_at "vs"
    refine ⟨a, it, rfl, ha, ?_⟩
    walk_at "vs"
    cases it with
    | none =>
      rw [show fmI none = false from rfl]
      walk_at "vs"
      exact BD.mk (h2 rfl)
    | some it =>
    obtain ⟨x, ns⟩ := it
    have ha : H a = some (.tup (.str x :: ns.map V.int)) := ha
    have hl : (V.str x :: ns.map V.int).length = ns.length + 1 := by simp
    have hn : ns.length + 1 ≤ 100 := by rw [← hl]; exact hn
    rw [show fmI (some (x, ns)) = isD x (ns.length : Nat) from rfl]
    refine vc_ifb (fun e => ?_) (fun e => ?_) <;> walk_at "vs"
    · exact BD.mk (h2 (by
        have e : isD x (ns.length : Nat) = false := by simpa using e
        rw [okI_some, e, Bool.false_and]))
    have e : isD x (ns.length : Nat) = true := by simpa using e
    refine vc_slA ha fun r H1 e1 hr1 => ?_
    rw [cutV_tail] at hr1
    walk_at "vs"
    refine lp_tup (xs := ns.map V.int) (fun i σ' H' => H' = H1 ∧ (∃ v, σ' = [some (.ref a), v]) ∧ ∀ j n, j < i → ns[j]? = some n → 0 ≤ n ∧ n ≤ 999) ⟨rfl, ⟨none, rfl⟩, fun _ _ h => absurd h (Nat.not_lt_zero _)⟩ (fun i σ' H' _ ⟨e, _⟩ => by rw [e]; exact sqT hr1) (fun i v σ' H' hv ⟨eh, ⟨u, es⟩, hall⟩ => ?_) (fun σ' H' ⟨eh, ⟨u, es⟩, hall⟩ => ?_)
    · subst eh; subst es
      rw [List.getElem?_map, Option.map_eq_some_iff] at hv
      obtain ⟨n, hv, rfl⟩ := hv
      have bad : ¬ (0 ≤ n ∧ n ≤ 999) → okI (some (x, ns)) = false := fun hb => by
        rw [okI_some, e, Bool.true_and]
        cases q : ns.all fun n => decide (0 ≤ n ∧ n ≤ 999) with
        | false => rfl
        | true => exact absurd (of_decide_eq_true (List.all_eq_true.mp q n (List.mem_of_getElem? hv))) hb
      have ok : (0 ≤ n ∧ n ≤ 999) → ∀ j m, j < i + 1 → ns[j]? = some m → 0 ≤ m ∧ m ≤ 999 := fun hg j m hj hm => by
        rcases Nat.lt_succ_iff_lt_or_eq.mp hj with hj | rfl
        · exact hall j m hj hm
        · rw [hv] at hm; cases hm; exact hg
      walk_at "vs"
      refine vc_ifd (fun g1 => ?_) (fun g1 => ?_) <;> walk_at "vs"
      · refine vc_ifn (fun g2 => ?_) (fun g2 => ?_) <;> walk_at "vs"
        · exact BD.mk ((h2 (bad fun q => g2 q.2)).ex e1)
        · exact ⟨rfl, ⟨_, rfl⟩, ok ⟨g1, g2⟩⟩
      · exact BD.mk ((h2 (bad fun q => g1 q.1)).ex e1)
    · subst eh; subst es
      rw [List.length_map] at hall
      have hN : ∀ n ∈ ns, 0 ≤ n ∧ n ≤ 999 := fun n hn => by
        obtain ⟨j, hj, e⟩ := List.getElem_of_mem hn
        exact hall j n hj (by rw [← e]; exact List.getElem?_eq_getElem hj)
      have ok : okI (some (x, ns)) = true := by
        rw [okI_some, e, Bool.true_and]
        exact List.all_eq_true.mpr fun n hn => decide_eq_true (hN n hn)
      have ha1 := e1 _ _ ha
      walk_at "vs"
      refine vc_ixT (sqT ha1) atI_0 ?_
      walk_at "vs"
      refine vc_kL (Nat.le_of_ble_eq_true rfl) fun l1 nl1 => ?_
      walk_at "vs"
      have e2 : Ex H' (upd H' l1 (.lst [.str x])) := Ex.new nl1
      refine vc_slA (lk_new nl1 ha1) fun r2 H2 e3 hr2 => ?_
      rw [cutV_tail] at hr2
      walk_at "vs"
      intro D nD
      refine lc_tupQ (xs := ns.map V.int) (fun i H3 => Ex H2 H3 ∧ H3 D = some (.lst (((ns.take i).map nmS).map V.str))) ⟨Ex.new nD, upd_same⟩ (fun i H3 _ q => sqT (q.1 _ _ hr2)) (fun i v H3 hv ⟨e4, hD⟩ => ?_) (fun H3 ⟨e4, hD⟩ => ?_)
      · rw [List.getElem?_map, Option.map_eq_some_iff] at hv
        obtain ⟨n, hv, rfl⟩ := hv
        have hb := hN n (List.mem_of_getElem? hv)
        walk_at "vs"
        refine vc_str (lg hb.1 (by omega)) ?_
        refine ⟨_, hD, sz_lt (by simp; omega), Ex.mut e4 nD, ?_⟩
        rw [upd_same, List.take_add_one, hv]
        simp [nmS]
      · rw [List.length_map, List.take_length] at hD
        refine vc_cat (lk_ex e4 (lk_ex e3 upd_same)) hD (by simp; omega) fun l2 nl2 => ?_
        walk_at "vs"
        refine vc_join (ys := x :: ns.map nmS) (sqL upd_same) (Nat.le_trans (tx_bound (isD_len e) (by omega) hN) (by decide)) ?_
        walk_at "vs"
        exact h1 ok _ ((((e1.trans e2).trans e3).trans e4).trans (Ex.new nl2))

theorem cal__law_is_yard_deed (G : Gs P w K mg) : Cal P w K mg base (0 + 1) "_law_is_yard_deed" (sp_lis_deed K) := by
  refine mkCal G.d__law_is_yard_deed sc__law_is_yard_deed (fun _ _ _ _ _ _ us hl => match us, hl with | [_], _ => rfl) (fun vs H Q E h => ?_) (fun f cdv A outer s H vs Q E hr h => ?_)
  · obtain ⟨x, y, rfl, _⟩ := h; rfl
  · have tk : Takes (cxOf (L2.CX P w) P w K mg base N__law_is_yard_deed "_law_is_yard_deed" (defScope s__law_is_yard_deed) f cdv A outer s H E) (fun cls d _ H => E cls d H) := takes_of rfl rfl rfl rfl
    refine ⟨_, (pss_cons (ps_if (pt_cmpR op_lt (pe_callB call_lenQ (by rfl) G.b_len (by decide +kernel) (pa_cons (pv 0) pa_nil)) pe_int (nomark _))
     (pss_one (ps_ret pe_bl))
     pss_nil)
    (pss_cons (ps_if (pt_cmpR op_in_seq (pe_ix ix_seq (pv 0) pe_int (fun _ _ => rfl)) (pe_lst (pa_cons pe_str (pa_cons pe_str pa_nil))) (by rfl))
     (pss_one (ps_ret (pe_cmpR op_eq (pe_callB call_lenQ (by rfl) G.b_len (by decide +kernel) (pa_cons (pv 0) pa_nil)) pe_int (nomark _))))
     pss_nil)
    (pss_cons (ps_if (pt_cmpR op_in_seq (pe_ix ix_seq (pv 0) pe_int (fun _ _ => rfl)) (pe_lst (pa_cons pe_str (pa_cons pe_str (pa_cons pe_str (pa_cons pe_str (pa_cons pe_str pa_nil)))))) (by rfl))
     (pss_one (ps_ret (pe_cmpR op_eq (pe_callB call_lenQ (by rfl) G.b_len (by decide +kernel) (pa_cons (pv 0) pa_nil)) pe_int (nomark _))))
     pss_nil)
    (pss_cons (ps_if (pt_cmpR op_eq (pe_ix ix_seq (pv 0) pe_int (fun _ _ => rfl)) pe_str (nomark _))
     (pss_one (ps_ret (pe_cmpR op_eq (pe_callB call_lenQ (by rfl) G.b_len (by decide +kernel) (pa_cons (pv 0) pa_nil)) pe_int (nomark _))))
     pss_nil)
    (pss_one (ps_ret (pe_or (pe_cmpR op_eq (pe_ix ix_seq (pv 0) pe_int (fun _ _ => rfl)) pe_str (nomark _)) (pe_one (pe_and (pe_cmpR op_in_seq (pe_ix ix_seq (pv 0) pe_int (fun _ _ => rfl)) (pe_lst (pa_cons pe_str (pa_cons pe_str pa_nil))) (by rfl)) (pe_one (pe_cmpR op_gt (pe_callB call_lenQ (by rfl) G.b_len (by decide +kernel) (pa_cons (pv 0) pa_nil)) pe_int (nomark _)))))))))))), ?_⟩
    obtain ⟨a, xs, rfl, h, hs, q⟩ := h
    rcases h with h | h
    · walk_at "vs"
      refine vc_ifd (fun e => ?_) (fun e => ?_) <;> walk_at "vs"
      · have : isDL xs = false := by
          rcases hs with rfl | ⟨x, r, rfl⟩
          · rfl
          · exact isD_1 (by simp at e; omega)
        rw [this] at q
        exact q H (Ex.refl H)
      rcases hs with rfl | ⟨x, r, rfl⟩
      · exact absurd (by decide) e
      have hl : (V.str x :: r).length = r.length + 1 := rfl
      rw [hl] at e
      rw [show isDL (V.str x :: r) = isD x (r.length : Nat) from rfl] at q
      refine vc_ixqL h atI_0 ?_
      walk_at "vs"
      refine vc_kL (Nat.le_of_ble_eq_true rfl) fun l1 n1 => ?_
      have e1 : Ex H (upd H l1 (.lst [V.str "make", .str "end"])) := Ex.new n1
      have hq1 : (upd H l1 (.lst [V.str "make", .str "end"])) l1 = some (.lst [V.str "make", .str "end"]) := upd_same
      have h1 := Evl.ex_l e1 h
      generalize (upd H l1 (.lst [V.str "make", .str "end"])) = H1 at *
      refine vc_inL (sqL hq1) rfl rfl ?_
      walk_at "vs"
      refine vc_ifb (fun c1 => ?_) (fun c1 => ?_) <;> walk_at "vs"
      · have c1 := inV_s.mp (show inV (.str x) ((["make", "end"] : List Str).map V.str) = true from c1)
        simp only [List.mem_cons, List.not_mem_nil, or_false] at c1
        have : isD x (r.length : Nat) = decide (((V.str x :: r).length : Int) = 2) := by
          rcases c1 with rfl | rfl
          · rw [isD_make]; exact decide_eq_decide.mpr (by rw [hl]; omega)
          · rw [isD_end]; exact decide_eq_decide.mpr (by rw [hl]; omega)
        rw [← this]
        exact q _ e1
      have c1 := inV_n (show inV (.str x) ((["make", "end"] : List Str).map V.str) = false from c1)
      refine vc_ixqL h1 atI_0 ?_
      walk_at "vs"
      refine vc_kL (Nat.le_of_ble_eq_true rfl) fun l2 n2 => ?_
      have e2 : Ex H (upd H1 l2 (.lst [V.str "keep", .str "enter", .str "sign", .str "stay", .str "leave"])) := e1.trans (Ex.new n2)
      have hq2 : (upd H1 l2 (.lst [V.str "keep", .str "enter", .str "sign", .str "stay", .str "leave"])) l2 = some (.lst [V.str "keep", .str "enter", .str "sign", .str "stay", .str "leave"]) := upd_same
      have h2 := Evl.ex_l e2 h
      generalize (upd H1 l2 (.lst [V.str "keep", .str "enter", .str "sign", .str "stay", .str "leave"])) = H2 at *
      refine vc_inL (sqL hq2) rfl rfl ?_
      walk_at "vs"
      refine vc_ifb (fun c2 => ?_) (fun c2 => ?_) <;> walk_at "vs"
      · have c2 := inV_s.mp (show inV (.str x) ((["keep", "enter", "sign", "stay", "leave"] : List Str).map V.str) = true from c2)
        simp only [List.mem_cons, List.not_mem_nil, or_false] at c2
        have : isD x (r.length : Nat) = decide (((V.str x :: r).length : Int) = 3) := by
          rcases c2 with rfl | rfl | rfl | rfl | rfl
          · rw [isD_keep]; exact decide_eq_decide.mpr (by rw [hl]; omega)
          · rw [isD_enter]; exact decide_eq_decide.mpr (by rw [hl]; omega)
          · rw [isD_sign]; exact decide_eq_decide.mpr (by rw [hl]; omega)
          · rw [isD_stay]; exact decide_eq_decide.mpr (by rw [hl]; omega)
          · rw [isD_leave]; exact decide_eq_decide.mpr (by rw [hl]; omega)
        rw [← this]
        exact q _ e2
      have c2 := inV_n (show inV (.str x) ((["keep", "enter", "sign", "stay", "leave"] : List Str).map V.str) = false from c2)
      refine vc_ixqL h2 atI_0 ?_
      walk_at "vs"
      refine vc_ifd (fun c3 => ?_) (fun c3 => ?_) <;> walk_at "vs"
      · have : isD x (r.length : Nat) = decide (((V.str x :: r).length : Int) = 4) := by
          subst c3; rw [isD_admit]; exact decide_eq_decide.mpr (by rw [hl]; omega)
        rw [← this]
        exact q _ e2
      refine vc_ixqL h2 atI_0 ?_
      walk_at "vs"
      refine vc_ifd (fun c4 => ?_) (fun c4 => ?_) <;> walk_at "vs"
      · have : isD x (r.length : Nat) = true := by rw [c4, isD_bear]; exact decide_eq_true (by omega)
        rw [this] at q
        exact q _ e2
      refine vc_ixqL h2 atI_0 ?_
      walk_at "vs"
      refine vc_kL (Nat.le_of_ble_eq_true rfl) fun l3 n3 => ?_
      have e3 : Ex H (upd H2 l3 (.lst [V.str "wait", .str "any"])) := e2.trans (Ex.new n3)
      have hq3 : (upd H2 l3 (.lst [V.str "wait", .str "any"])) l3 = some (.lst [V.str "wait", .str "any"]) := upd_same
      have h3 := Evl.ex_l e3 h
      generalize (upd H2 l3 (.lst [V.str "wait", .str "any"])) = H3 at *
      refine vc_inL (sqL hq3) rfl rfl ?_
      walk_at "vs"
      refine vc_ifb (fun c5 => ?_) (fun c5 => ?_) <;> walk_at "vs"
      · have c5 := inV_s.mp (show inV (.str x) ((["wait", "any"] : List Str).map V.str) = true from c5)
        simp only [List.mem_cons, List.not_mem_nil, or_false] at c5
        have : isD x (r.length : Nat) = decide (2 < ((V.str x :: r).length : Int)) := by
          rcases c5 with rfl | rfl
          · rw [isD_wait]; exact decide_eq_decide.mpr (by rw [hl]; omega)
          · rw [isD_any]; exact decide_eq_decide.mpr (by rw [hl]; omega)
        rw [← this]
        exact q _ e3
      · have c5 := inV_n (show inV (.str x) ((["wait", "any"] : List Str).map V.str) = false from c5)
        have : isD x (r.length : Nat) = false := isD_not fun w => by
          simp only [List.mem_cons, List.not_mem_nil, or_false, not_or] at c1 c2 c5
          rcases w with w | w | w | w | w | w | w | w | w | w | w <;> simp_all
        rw [this] at q
        exact q _ e3
    · walk_at "vs"
      refine vc_ifd (fun e => ?_) (fun e => ?_) <;> walk_at "vs"
      · have : isDL xs = false := by
          rcases hs with rfl | ⟨x, r, rfl⟩
          · rfl
          · exact isD_1 (by simp at e; omega)
        rw [this] at q
        exact q H (Ex.refl H)
      rcases hs with rfl | ⟨x, r, rfl⟩
      · exact absurd (by decide) e
      have hl : (V.str x :: r).length = r.length + 1 := rfl
      rw [hl] at e
      rw [show isDL (V.str x :: r) = isD x (r.length : Nat) from rfl] at q
      refine vc_ixqT h atI_0 ?_
      walk_at "vs"
      refine vc_kL (Nat.le_of_ble_eq_true rfl) fun l1 n1 => ?_
      have e1 : Ex H (upd H l1 (.lst [V.str "make", .str "end"])) := Ex.new n1
      have hq1 : (upd H l1 (.lst [V.str "make", .str "end"])) l1 = some (.lst [V.str "make", .str "end"]) := upd_same
      have h1 := Evl.ex_t e1 h
      generalize (upd H l1 (.lst [V.str "make", .str "end"])) = H1 at *
      refine vc_inL (sqL hq1) rfl rfl ?_
      walk_at "vs"
      refine vc_ifb (fun c1 => ?_) (fun c1 => ?_) <;> walk_at "vs"
      · have c1 := inV_s.mp (show inV (.str x) ((["make", "end"] : List Str).map V.str) = true from c1)
        simp only [List.mem_cons, List.not_mem_nil, or_false] at c1
        have : isD x (r.length : Nat) = decide (((V.str x :: r).length : Int) = 2) := by
          rcases c1 with rfl | rfl
          · rw [isD_make]; exact decide_eq_decide.mpr (by rw [hl]; omega)
          · rw [isD_end]; exact decide_eq_decide.mpr (by rw [hl]; omega)
        rw [← this]
        exact q _ e1
      have c1 := inV_n (show inV (.str x) ((["make", "end"] : List Str).map V.str) = false from c1)
      refine vc_ixqT h1 atI_0 ?_
      walk_at "vs"
      refine vc_kL (Nat.le_of_ble_eq_true rfl) fun l2 n2 => ?_
      have e2 : Ex H (upd H1 l2 (.lst [V.str "keep", .str "enter", .str "sign", .str "stay", .str "leave"])) := e1.trans (Ex.new n2)
      have hq2 : (upd H1 l2 (.lst [V.str "keep", .str "enter", .str "sign", .str "stay", .str "leave"])) l2 = some (.lst [V.str "keep", .str "enter", .str "sign", .str "stay", .str "leave"]) := upd_same
      have h2 := Evl.ex_t e2 h
      generalize (upd H1 l2 (.lst [V.str "keep", .str "enter", .str "sign", .str "stay", .str "leave"])) = H2 at *
      refine vc_inL (sqL hq2) rfl rfl ?_
      walk_at "vs"
      refine vc_ifb (fun c2 => ?_) (fun c2 => ?_) <;> walk_at "vs"
      · have c2 := inV_s.mp (show inV (.str x) ((["keep", "enter", "sign", "stay", "leave"] : List Str).map V.str) = true from c2)
        simp only [List.mem_cons, List.not_mem_nil, or_false] at c2
        have : isD x (r.length : Nat) = decide (((V.str x :: r).length : Int) = 3) := by
          rcases c2 with rfl | rfl | rfl | rfl | rfl
          · rw [isD_keep]; exact decide_eq_decide.mpr (by rw [hl]; omega)
          · rw [isD_enter]; exact decide_eq_decide.mpr (by rw [hl]; omega)
          · rw [isD_sign]; exact decide_eq_decide.mpr (by rw [hl]; omega)
          · rw [isD_stay]; exact decide_eq_decide.mpr (by rw [hl]; omega)
          · rw [isD_leave]; exact decide_eq_decide.mpr (by rw [hl]; omega)
        rw [← this]
        exact q _ e2
      have c2 := inV_n (show inV (.str x) ((["keep", "enter", "sign", "stay", "leave"] : List Str).map V.str) = false from c2)
      refine vc_ixqT h2 atI_0 ?_
      walk_at "vs"
      refine vc_ifd (fun c3 => ?_) (fun c3 => ?_) <;> walk_at "vs"
      · have : isD x (r.length : Nat) = decide (((V.str x :: r).length : Int) = 4) := by
          subst c3; rw [isD_admit]; exact decide_eq_decide.mpr (by rw [hl]; omega)
        rw [← this]
        exact q _ e2
      refine vc_ixqT h2 atI_0 ?_
      walk_at "vs"
      refine vc_ifd (fun c4 => ?_) (fun c4 => ?_) <;> walk_at "vs"
      · have : isD x (r.length : Nat) = true := by rw [c4, isD_bear]; exact decide_eq_true (by omega)
        rw [this] at q
        exact q _ e2
      refine vc_ixqT h2 atI_0 ?_
      walk_at "vs"
      refine vc_kL (Nat.le_of_ble_eq_true rfl) fun l3 n3 => ?_
      have e3 : Ex H (upd H2 l3 (.lst [V.str "wait", .str "any"])) := e2.trans (Ex.new n3)
      have hq3 : (upd H2 l3 (.lst [V.str "wait", .str "any"])) l3 = some (.lst [V.str "wait", .str "any"]) := upd_same
      have h3 := Evl.ex_t e3 h
      generalize (upd H2 l3 (.lst [V.str "wait", .str "any"])) = H3 at *
      refine vc_inL (sqL hq3) rfl rfl ?_
      walk_at "vs"
      refine vc_ifb (fun c5 => ?_) (fun c5 => ?_) <;> walk_at "vs"
      · have c5 := inV_s.mp (show inV (.str x) ((["wait", "any"] : List Str).map V.str) = true from c5)
        simp only [List.mem_cons, List.not_mem_nil, or_false] at c5
        have : isD x (r.length : Nat) = decide (2 < ((V.str x :: r).length : Int)) := by
          rcases c5 with rfl | rfl
          · rw [isD_wait]; exact decide_eq_decide.mpr (by rw [hl]; omega)
          · rw [isD_any]; exact decide_eq_decide.mpr (by rw [hl]; omega)
        rw [← this]
        exact q _ e3
      · have c5 := inV_n (show inV (.str x) ((["wait", "any"] : List Str).map V.str) = false from c5)
        have : isD x (r.length : Nat) = false := isD_not fun w => by
          simp only [List.mem_cons, List.not_mem_nil, or_false, not_or] at c1 c2 c5
          rcases w with w | w | w | w | w | w | w | w | w | w | w <;> simp_all
        rw [this] at q
        exact q _ e3

theorem cal__law_deed_line (G : Gs P w K mg) : Cal P w K mg base (0 + 1) "_law_deed_line" sp_ldeed_text := by
  refine mkCal G.d__law_deed_line sc__law_deed_line (fun _ _ _ _ _ _ us hl => match us, hl with | [_], _ => rfl) (fun vs H Q E h => ?_) (fun f cdv A outer s H vs Q E hr h => ?_)
  · obtain ⟨a, x, ns, rfl, _⟩ := h; rfl
  · have tk : Takes (cxOf (L2.CX P w) P w K mg base N__law_deed_line "_law_deed_line" (defScope s__law_deed_line) f cdv A outer s H E) (fun cls d _ H => E cls d H) := takes_of rfl rfl rfl rfl
    refine ⟨_, (pss_one (ps_ret (pe_joinQ pe_str (pe_op op_cat (pe_lst (pa_cons (pe_ix ix_tup (pv 0) pe_int (fun _ _ => rfl)) pa_nil)) (pe_lcX (own := [("number", 1)]) (g := gName 1) (tt := tYes) rfl rfl tk rfl sc__law_deed_line.nd (pi_tup (pe_slice sl_tupA (pv 0) (po_some pe_int) po_none)) (blkOk_by (own := [("number", 1)]) (N := N__law_deed_line) (sc := defScope s__law_deed_line) (by decide +kernel)) (fun _ _ _ _ _ _ => (pg_name (i := 1) sc__law_deed_line.nd rfl (Or.inl rfl))) (fun _ _ _ _ _ _ => pts_nil) (fun _ _ _ _ _ _ tkb => (pe_callTy call_strQ (by rfl) G.b_str (by decide +kernel) (pa_cons (pv 1) pa_nil)))))))), ?_⟩
    obtain ⟨a, x, ns, rfl, ha, hx, hl, hN, q⟩ := h
    walk_at "vs"
    refine vc_ixT (sqT ha) atI_0 ?_
    walk_at "vs"
    refine vc_kL (Nat.le_of_ble_eq_true rfl) fun l1 nl1 => ?_
    walk_at "vs"
    have e2 : Ex H (upd H l1 (.lst [.str x])) := Ex.new nl1
    refine vc_slA (lk_new nl1 ha) fun r2 H2 e3 hr2 => ?_
    rw [cutV_tail] at hr2
    walk_at "vs"
    intro D nD
    refine lc_tupQ (xs := ns.map V.int) (fun i H3 => Ex H2 H3 ∧ H3 D = some (.lst (((ns.take i).map nmS).map V.str))) ⟨Ex.new nD, upd_same⟩ (fun i H3 _ q => sqT (q.1 _ _ hr2)) (fun i v H3 hv ⟨e4, hD⟩ => ?_) (fun H3 ⟨e4, hD⟩ => ?_)
    · rw [List.getElem?_map, Option.map_eq_some_iff] at hv
      obtain ⟨n, hv, rfl⟩ := hv
      have hb := hN n (List.mem_of_getElem? hv)
      walk_at "vs"
      refine vc_str (lg hb.1 (by omega)) ?_
      refine ⟨_, hD, sz_lt (by simp; omega), Ex.mut e4 nD, ?_⟩
      rw [upd_same, List.take_add_one, hv]
      simp [nmS]
    · rw [List.length_map, List.take_length] at hD
      refine vc_cat (lk_ex e4 (lk_ex e3 upd_same)) hD (by simp; omega) fun l2 nl2 => ?_
      walk_at "vs"
      refine vc_join (ys := x :: ns.map nmS) (sqL upd_same) (Nat.le_trans (tx_bound hx hl hN) (by decide)) ?_
      walk_at "vs"
      exact q _ (((e2.trans e3).trans e4).trans (Ex.new nl2))

theorem cal__law_is_written (G : Gs P w K mg) : Cal P w K mg base (0 + 1) "_law_is_written" sp_is_written := by
  refine mkCal G.d__law_is_written sc__law_is_written (fun _ _ _ _ _ _ us hl => match us, hl with | [_], _ => rfl) (fun vs H Q E h => ?_) (fun f cdv A outer s H vs Q E hr h => ?_)
  · obtain ⟨x, rfl, _⟩ := h; rfl
  · have tk : Takes (cxOf (L2.CX P w) P w K mg base N__law_is_written "_law_is_written" (defScope s__law_is_written) f cdv A outer s H E) (fun cls d _ H => E cls d H) := takes_of rfl rfl rfl rfl
    refine ⟨_, (pss_cons (ps_if (PW.pt (pw_or (pt_not (pt_chain op_le op_le pe_int (pe_callB call_lenSQ (by rfl) G.b_len (by decide +kernel) (pa_cons (pv 0) pa_nil)) pe_int)) (pw_or1 (PW.pt (pw_and (pt_cmpR op_eq (pe_ix ix_str (pv 0) pe_int (fun _ _ => rfl)) pe_str (nomark _)) (pw_and1 (pt_cmpR op_gt (pe_callB call_lenSQ (by rfl) G.b_len (by decide +kernel) (pa_cons (pv 0) pa_nil)) pe_int (nomark _))))))))
     (pss_one (ps_ret pe_bl))
     pss_nil)
    (pss_cons (ps_for (passes_of rfl) rfl (pi_str (pv 0)) (pg_name (i := 1) sc__law_is_written.nd rfl (Or.inl rfl))
     (pss_one (ps_if (pt_cmpR op_ninQ (pv 1) pe_str (by rfl))
      (pss_one (ps_ret pe_bl))
      pss_nil)))
    (pss_one (ps_ret pe_bl)))), ?_⟩
    obtain ⟨x, rfl, hx, q⟩ := h
    have hl := len_tl x
    have bad : ∀ h, Q (.bl false) H := fun h => by rw [okN_bad h] at q; exact q
    walk_at "vs"
    refine vc_ifd (fun e => ?_) (fun e => ?_) <;> walk_at "vs"
    · refine vc_ifn (fun e2 => ?_) (fun e2 => ?_) <;> walk_at "vs"
      · exact bad fun q => by omega
      have e : (tl x).length ≠ 0 := by omega
      obtain ⟨c, a0, hc⟩ := at0 e
      refine vc_ixS hx a0 ?_
      walk_at "vs"
      refine vc_ifd (fun e3 => ?_) (fun e3 => ?_) <;> walk_at "vs"
      all_goals rw [digs_one] at e3
      · refine vc_ifd (fun e4 => ?_) (fun e4 => ?_) <;> walk_at "vs"
        · exact bad fun q => q.2.2.1 ⟨by rw [hc, e3], by omega⟩
        have n4 : ¬ ((tl x).head? = some 48 ∧ 1 < (tl x).length) := fun q => e4 (by omega)
        refine lp_str (fun i σ' H' => H' = H ∧ (∃ v, σ' = [some (.str x), v]) ∧ ∀ j c, j < i → (tl x)[j]? = some c → c ∈ digs) ⟨rfl, ⟨none, rfl⟩, fun j _ h => absurd h (Nat.not_lt_zero _)⟩ (fun i c σ' H' hc ⟨e, ⟨v, es⟩, hall⟩ => ?_) (fun σ' H' ⟨e, ⟨v, es⟩, hall⟩ => ?_)
        · subst e; subst es
          walk_at "vs"
          rw [show ("0123456789" : Str).cps.toList = digs from rfl]
          refine vc_ifn (fun e => ?_) (fun e => ?_) <;> walk_at "vs"
          · rw [okN_bad fun q => e (q.2.2.2 c (List.mem_of_getElem? hc))] at q
            exact q
          refine ⟨rfl, ⟨_, rfl⟩, fun j d hj hd => ?_⟩
          rcases Nat.lt_succ_iff_lt_or_eq.mp hj with hj | rfl
          · exact hall j d hj hd
          · rw [hc] at hd; cases hd; exact e
        · subst e; subst es
          have ok : okN (tl x) = true := okN_iff.mpr ⟨by omega, by omega, n4, fun c hc => by obtain ⟨j, hj, e⟩ := List.getElem_of_mem hc; exact hall j c hj (by rw [← e]; exact List.getElem?_eq_getElem hj)⟩
          walk_at "vs"
          rw [ok] at q
          exact q
      have n4 : ¬ ((tl x).head? = some 48 ∧ 1 < (tl x).length) := fun q => e3 (by rw [hc] at q; exact Option.some.inj q.1)
      refine lp_str (fun i σ' H' => H' = H ∧ (∃ v, σ' = [some (.str x), v]) ∧ ∀ j c, j < i → (tl x)[j]? = some c → c ∈ digs) ⟨rfl, ⟨none, rfl⟩, fun j _ h => absurd h (Nat.not_lt_zero _)⟩ (fun i c σ' H' hc ⟨e, ⟨v, es⟩, hall⟩ => ?_) (fun σ' H' ⟨e, ⟨v, es⟩, hall⟩ => ?_)
      · subst e; subst es
        walk_at "vs"
        rw [show ("0123456789" : Str).cps.toList = digs from rfl]
        refine vc_ifn (fun e => ?_) (fun e => ?_) <;> walk_at "vs"
        · rw [okN_bad fun q => e (q.2.2.2 c (List.mem_of_getElem? hc))] at q
          exact q
        refine ⟨rfl, ⟨_, rfl⟩, fun j d hj hd => ?_⟩
        rcases Nat.lt_succ_iff_lt_or_eq.mp hj with hj | rfl
        · exact hall j d hj hd
        · rw [hc] at hd; cases hd; exact e
      · subst e; subst es
        have ok : okN (tl x) = true := okN_iff.mpr ⟨by omega, by omega, n4, fun c hc => by obtain ⟨j, hj, e⟩ := List.getElem_of_mem hc; exact hall j c hj (by rw [← e]; exact List.getElem?_eq_getElem hj)⟩
        walk_at "vs"
        rw [ok] at q
        exact q
    · exact bad fun q => by omega

theorem cal__law_text_deed (G : Gs P w K mg) (c__law_draw : Cal P w K mg base 1 "_law_draw" sp_draw) : Cal P w K mg base (1 + 1) "_law_text_deed" sp_text_deed := by
  refine mkCal G.d__law_text_deed sc__law_text_deed (fun _ _ _ _ _ _ us hl => match us, hl with | [_], _ => rfl) (fun vs H Q E h => ?_) (fun f cdv A outer s H vs Q E hr h => ?_)
  · obtain ⟨x, y, rfl, _⟩ := h; rfl
  · have tk : Takes (cxOf (L2.CX P w) P w K mg base N__law_text_deed "_law_text_deed" (defScope s__law_text_deed) f cdv A outer s H E) (fun cls d _ H => E cls d H) := takes_of rfl rfl rfl rfl
    refine ⟨_, (pss_cons (ps_set (i := 1) sc__law_text_deed.nd rfl (Or.inl rfl) (pe_lst (pa_cons pe_str (pa_cons pe_str (pa_cons pe_str (pa_cons pe_str (pa_cons pe_str (pa_cons pe_str (pa_cons pe_str (pa_cons pe_str (pa_cons pe_str (pa_cons pe_str (pa_cons pe_str pa_nil)))))))))))))
    (pss_cons (ps_set (i := 2) sc__law_text_deed.nd rfl (Or.inl rfl) (pe_ix ix_list (pv 1) (pe_cal tk c__law_draw (hr.mono (by first | decide | omega)) (by exact (pa_cons (pv 0) (pa_cons pe_int pa_nil)))) (fun _ _ => rfl)))
    (pss_cons (ps_set (i := 3) sc__law_text_deed.nd rfl (Or.inr rfl) (pe_ix ix_list (pe_lst (pa_cons pe_int (pa_cons pe_int pa_nil))) (pe_cal tk c__law_draw (hr.mono (by first | decide | omega)) (by exact (pa_cons (pv 0) (pa_cons pe_int pa_nil)))) (fun _ _ => rfl)))
    (pss_cons (ps_set (i := 4) sc__law_text_deed.nd rfl (Or.inl rfl) pe_int)
    (Evl.pss_cut (ps_if (PW.pt (pw_or (pt_cmpR op_eq (pv 2) pe_str (nomark _)) (pw_or1 (pt_cmpR op_eq (pv 2) pe_str (nomark _)))))
     (pss_one (ps_set (i := 4) sc__law_text_deed.nd rfl (Or.inl rfl) pe_int))
     pss_nil)
    (Evl.pss_cut (ps_if (pt_cmpR op_eq (pv 2) pe_str (nomark _))
     (pss_one (ps_set (i := 4) sc__law_text_deed.nd rfl (Or.inl rfl) pe_int))
     pss_nil)
    (Evl.pss_cut (ps_if (pt_cmpR op_eq (pv 2) pe_str (nomark _))
     (pss_one (ps_set (i := 4) sc__law_text_deed.nd rfl (Or.inl rfl) (pe_op op_add pe_int (pe_cal tk c__law_draw (hr.mono (by first | decide | omega)) (by exact (pa_cons (pv 0) (pa_cons pe_int pa_nil)))))))
     pss_nil)
    (Evl.pss_cut (ps_if (PW.pt (pw_or (pt_cmpR op_eq (pv 2) pe_str (nomark _)) (pw_or1 (pt_cmpR op_eq (pv 2) pe_str (nomark _)))))
     (pss_one (ps_set (i := 4) sc__law_text_deed.nd rfl (Or.inl rfl) (pe_op op_add pe_int (pe_cal tk c__law_draw (hr.mono (by first | decide | omega)) (by exact (pa_cons (pv 0) (pa_cons pe_int pa_nil)))))))
     pss_nil)
    (pss_one (ps_ret (pe_callTy call_tupleQ (by rfl) G.b_tuple (by decide +kernel) (pa_cons (pe_op op_cat (pe_lst (pa_cons (pv 2) pa_nil)) (pe_lcX (own := [("k", 5)]) (g := gName 5) (tt := tYes) rfl rfl tk rfl sc__law_text_deed.nd (pi_range1 rfl G.b_range (pa_cons (pv 4) pa_nil)) (blkOk_by (own := [("k", 5)]) (N := N__law_text_deed) (sc := defScope s__law_text_deed) (by decide +kernel)) (fun _ _ _ _ _ _ => (pg_name (i := 5) sc__law_text_deed.nd rfl (Or.inl rfl))) (fun _ _ _ _ _ _ => pts_nil) (fun _ _ _ _ _ _ tkb => (pe_cal tkb c__law_draw (hr.mono (by first | decide | omega)) (by exact (pa_cons (pv 0) (pa_cons (pv 3) pa_nil))))))) pa_nil)))))))))))), ?_⟩
    obtain ⟨st, sc, rfl, hd, q⟩ := h
    walk_at "vs"
    refine vc_kL (Nat.le_of_ble_eq_true rfl) fun l nl => ?_
    have hls := hd.ne nl
    walk_at "vs"
    refine ⟨st, sc, 11, rfl, by decide, by decide, hd.ex (Ex.new nl), fun r H1 r0 r1 hd1 eb1 => ?_⟩
    obtain ⟨v, hv, _, hm⟩ := atI_ex (xs := [V.str "make", V.str "bear", V.str "keep", V.str "wait", V.str "any", V.str "enter", V.str "admit", V.str "sign", V.str "stay", V.str "leave", V.str "end"]) r0 r1
    obtain ⟨x, rfl, hx⟩ := in11 hm
    refine vc_ixL (sqL (eb1 _ _ hls upd_same)) hv ?_
    have eb1 : ExB st H H1 := (ExB.of (Ex.new nl)).trans eb1
    walk_at "vs"
    refine vc_kL (Nat.le_of_ble_eq_true rfl) fun l2 nl2 => ?_
    have hl2s := hd1.ne nl2
    walk_at "vs"
    refine ⟨st, sc, 2, rfl, by decide, by decide, hd1.ex (Ex.new nl2), fun r H2 r0 r1 hd2 eb2 => ?_⟩
    have eb3 : ExB st H H2 := (eb1.new nl2).trans eb2
    refine vc_ixLP (fun _ v => v = .int 12 ∨ v = .int 1000) (sqL (eb2 _ _ hl2s upd_same)) r0 r1 (fun v hv => by simpa using hv) fun v hv => ?_
    obtain ⟨m, rfl, m0, m1⟩ : ∃ m, v = .int m ∧ 0 < m ∧ m ≤ 1000 := by
      rcases hv with rfl | rfl
      · exact ⟨12, rfl, by decide, by decide⟩
      · exact ⟨1000, rfl, by decide, by decide⟩
    walk_at "vs"
    refine vc_cut (fun σ' H' => σ' = [some (.ref st), some (.ref l), some (.str x), some (.int m), some (.int (if x = "make" ∨ x = "end" then 1 else 2)), none] ∧ H' = H2) ?_ (fun σ' H' ⟨es, eh⟩ => ?_)
    · walk_at "vs"
      refine vc_ifd (fun c => ?_) (fun c => ?_) <;> walk_at "vs"
      · exact ⟨by rw [if_pos (.inl c)]; rfl, rfl⟩
      refine vc_ifd (fun c2 => ?_) (fun c2 => ?_) <;> walk_at "vs"
      · exact ⟨by rw [if_pos (.inr c2)]; rfl, rfl⟩
      · exact ⟨by rw [if_neg (fun w => w.elim c c2)]; rfl, rfl⟩
    subst es; subst eh
    refine vc_cut (fun σ' H2 => σ' = [some (.ref st), some (.ref l), some (.str x), some (.int m), some (.int (f2 x)), none] ∧ H2 = H') ?_ (fun σ' H2 ⟨es, eh⟩ => ?_)
    · walk_at "vs"
      refine vc_ifd (fun c => ?_) (fun c => ?_) <;> walk_at "vs"
      · exact ⟨by unfold f2; rw [if_pos c]; rfl, rfl⟩
      · exact ⟨by unfold f2; rw [if_neg c], rfl⟩
    subst es; subst eh
    refine vc_cut (fun σ' H' => ∃ k, σ' = [some (.ref st), some (.ref l), some (.str x), some (.int m), some (.int k), none] ∧ (x = "bear" → 1 ≤ k ∧ k ≤ 4) ∧ (¬ x = "bear" → k = f2 x) ∧ Drw H' st sc ∧ ExB st H H') ?_ (fun σ' H3 ⟨k, es, k1, k2, hd3, eb4⟩ => ?_)
    · walk_at "vs"
      refine vc_ifd (fun c => ?_) (fun c => ?_) <;> walk_at "vs"
      · refine ⟨st, sc, 4, rfl, by decide, by decide, hd2, fun r5 H3 r50 r51 hd3 eb4 => ?_⟩
        walk_at "vs"
        exact ⟨_, rfl, fun _ => by omega, fun w => absurd c w, hd3, eb3.trans eb4⟩
      · exact ⟨_, rfl, fun w => absurd w c, fun _ => rfl, hd2, eb3⟩
    subst es
    refine vc_cut (fun σ' H' => ∃ k, σ' = [some (.ref st), some (.ref l), some (.str x), some (.int m), some (.int k), none] ∧ 1 ≤ k ∧ k ≤ 6 ∧ isD x k = true ∧ Drw H' st sc ∧ ExB st H H') ?_ (fun σ' H4 ⟨k, es, k3, k4, hD, hd4, eb5⟩ => ?_)
    · walk_at "vs"
      have fin : ¬ x = "wait" → ¬ x = "any" → 1 ≤ k ∧ k ≤ 6 ∧ isD x k = true := fun n1 n2 => by
        rcases hx with rfl | rfl | rfl | rfl | rfl | rfl | rfl | rfl | rfl | rfl | rfl
        · have h := k2 (by decide +kernel)
          rw [show f2 "make" = 1 from by decide +kernel] at h
          subst h
          exact ⟨by decide, by decide, by rw [isD_make]; decide⟩
        · exact ⟨(k1 rfl).1, by have := (k1 rfl).2; omega, by rw [isD_bear]; exact decide_eq_true (k1 rfl).1⟩
        · have h := k2 (by decide +kernel)
          rw [show f2 "keep" = 2 from by decide +kernel] at h
          subst h
          exact ⟨by decide, by decide, by rw [isD_keep]; decide⟩
        · exact absurd rfl n1
        · exact absurd rfl n2
        · have h := k2 (by decide +kernel)
          rw [show f2 "enter" = 2 from by decide +kernel] at h
          subst h
          exact ⟨by decide, by decide, by rw [isD_enter]; decide⟩
        · have h := k2 (by decide +kernel)
          rw [show f2 "admit" = 3 from by decide +kernel] at h
          subst h
          exact ⟨by decide, by decide, by rw [isD_admit]; decide⟩
        · have h := k2 (by decide +kernel)
          rw [show f2 "sign" = 2 from by decide +kernel] at h
          subst h
          exact ⟨by decide, by decide, by rw [isD_sign]; decide⟩
        · have h := k2 (by decide +kernel)
          rw [show f2 "stay" = 2 from by decide +kernel] at h
          subst h
          exact ⟨by decide, by decide, by rw [isD_stay]; decide⟩
        · have h := k2 (by decide +kernel)
          rw [show f2 "leave" = 2 from by decide +kernel] at h
          subst h
          exact ⟨by decide, by decide, by rw [isD_leave]; decide⟩
        · have h := k2 (by decide +kernel)
          rw [show f2 "end" = 1 from by decide +kernel] at h
          subst h
          exact ⟨by decide, by decide, by rw [isD_end]; decide⟩
      refine vc_ifd (fun c => ?_) (fun c => ?_) <;> walk_at "vs"
      · refine ⟨st, sc, 4, rfl, by decide, by decide, hd3, fun r5 H5 r50 r51 hd5 eb5 => ?_⟩
        walk_at "vs"
        exact ⟨_, rfl, by omega, by omega, by rw [c, isD_wait]; exact decide_eq_true (by omega), hd5, eb4.trans eb5⟩
      refine vc_ifd (fun c2 => ?_) (fun c2 => ?_) <;> walk_at "vs"
      · refine ⟨st, sc, 4, rfl, by decide, by decide, hd3, fun r5 H5 r50 r51 hd5 eb5 => ?_⟩
        walk_at "vs"
        exact ⟨_, rfl, by omega, by omega, by rw [c2, isD_any]; exact decide_eq_true (by omega), hd5, eb4.trans eb5⟩
      obtain ⟨f1, f2, f3⟩ := fin c c2
      exact ⟨_, rfl, f1, f2, f3, hd3, eb4⟩
    subst es
    walk_at "vs"
    refine vc_kL (Nat.le_of_ble_eq_true rfl) fun w1 nw1 => ?_
    have hw1s := hd4.ne nw1
    have hd5 := hd4.ex (Ex.new (o := .lst [V.str x]) nw1)
    have eb6 : ExB st H (upd H4 w1 (.lst [V.str x])) := eb5.new nw1
    have hw1 : (upd H4 w1 (.lst [V.str x])) w1 = some (.lst [V.str x]) := upd_same
    generalize (upd H4 w1 (.lst [V.str x])) = H5 at *
    walk_at "vs"
    refine vc_rC (by omega) (by omega) ?_
    intro D nD
    have hDs := hd5.ne nD
    have hDc := hd5.ne2 nD
    have nD0 := hd5.fresh eb6 nD
    refine lc_rangeQ (fun i H6 => ∃ ns : List Int, H6 D = some (.lst (ns.map V.int)) ∧ ns.length = i ∧ (∀ n ∈ ns, 0 ≤ n ∧ n ≤ 999) ∧ H6 w1 = some (.lst [V.str x]) ∧ Drw H6 st sc ∧ ExB st H H6) ⟨[], upd_same, rfl, fun _ h => by simp at h, lk_new nD hw1, hd5.ex (Ex.new nD), eb6.new nD⟩ (fun i H6 hi ⟨ns, hD1, hl, hN, hw, hd6, eb7⟩ => ?_) (fun H6 ⟨ns, hD1, hl, hN, hw, hd6, eb7⟩ => ?_)
    · walk_at "vs"
      refine ⟨st, sc, m, rfl, m0, by omega, hd6, fun r6 H7 r60 r61 hd7 eb8 => ?_⟩
      have hD7 := eb8 _ _ hDs hD1
      refine ⟨_, hD7, sz_lt (by simp; omega), ns ++ [r6], by rw [upd_same]; simp, by simp [hl], fun n hn => ?_, ?_, hd7.mut hDs hDc, (eb7.trans eb8).mut nD0⟩
      · rcases List.mem_append.mp hn with hn | hn
        · exact hN n hn
        · rw [List.mem_singleton.mp hn]; omega
      · refine lk_ne (fun e => ?_) (eb8 _ _ hw1s hw)
        rw [e, nD] at hw1
        cases hw1
    · refine vc_cat hw hD1 (by simp; omega) fun l3 nl3 => ?_
      walk_at "vs"
      refine vc_tupL (sqL upd_same) fun l4 nl4 => ?_
      walk_at "vs"
      have d6 := hd6.ex (Ex.new (o := .lst ([V.str x] ++ ns.map V.int)) nl3)
      have eb8 : ExB st H (upd H6 l3 (.lst ([V.str x] ++ ns.map V.int))) := eb7.new nl3
      refine q l4 x ns _ ?_ (by omega) (d6.fresh eb8 nl4) upd_same (d6.ex (Ex.new nl4)) (eb8.new nl4)
      rw [okI_some, hl, Int.toNat_of_nonneg (by omega), hD, Bool.true_and]
      exact List.all_eq_true.mpr fun n hn => decide_eq_true (hN n hn)

theorem cal__law_odd_line (G : Gs P w K mg) : Cal P w K mg base (0 + 1) "_law_odd_line" sp_odd_line := by
  refine mkCal G.d__law_odd_line sc__law_odd_line (fun _ _ _ _ _ _ us hl => match us, hl with | [_], _ => rfl) (fun vs H Q E h => ?_) (fun f cdv A outer s H vs Q E hr h => ?_)
  · obtain ⟨x, rfl, _⟩ := h; rfl
  · have tk : Takes (cxOf (L2.CX P w) P w K mg base N__law_odd_line "_law_odd_line" (defScope s__law_odd_line) f cdv A outer s H E) (fun cls d _ H => E cls d H) := takes_of rfl rfl rfl rfl
    refine ⟨_, (pss_cons (ps_set (i := 1) sc__law_odd_line.nd rfl (Or.inl rfl) (pe_lst (pa_cons pe_str (pa_cons pe_str (pa_cons pe_str (pa_cons pe_str (pa_cons pe_str (pa_cons pe_str (pa_cons pe_str (pa_cons pe_str (pa_cons pe_str (pa_cons pe_str pa_nil))))))))))))
    (pss_cons (ps_set (i := 1) sc__law_odd_line.nd rfl (Or.inl rfl) (pe_op op_cat (pv 1) (pe_lst (pa_cons pe_str (pa_cons pe_str (pa_cons pe_str (pa_cons pe_str (pa_cons pe_str (pa_cons pe_str (pa_cons pe_str (pa_cons pe_str (pa_cons pe_str pa_nil))))))))))))
    (pss_one (ps_ret (pe_ix ix_list (pv 1) (pv 0) (fun _ _ => rfl)))))), ?_⟩
    obtain ⟨i, rfl, h0, h1, q⟩ := h
    walk_at "va"
    refine vc_ixLP (fun _ v => strB v = true) (by walk_at "lk") h0 (by exact h1) (List.all_eq_true.mp (by decide +kernel)) fun v hv => ?_
    obtain ⟨y, rfl, hy⟩ := strB_ok hv
    walk_at "vs"
    refine q y _ hy ?_
    walk_at "ex"

theorem cal__law_odd_item (G : Gs P w K mg) : Cal P w K mg base (0 + 1) "_law_odd_item" sp_odd_item := by
  refine mkCal G.d__law_odd_item sc__law_odd_item (fun _ _ _ _ _ _ us hl => match us, hl with | [_], _ => rfl) (fun vs H Q E h => ?_) (fun f cdv A outer s H vs Q E hr h => ?_)
  · obtain ⟨x, rfl, _⟩ := h; rfl
  · have tk : Takes (cxOf (L2.CX P w) P w K mg base N__law_odd_item "_law_odd_item" (defScope s__law_odd_item) f cdv A outer s H E) (fun cls d _ H => E cls d H) := takes_of rfl rfl rfl rfl
    refine ⟨_, (pss_cons (ps_set (i := 1) sc__law_odd_item.nd rfl (Or.inl rfl) (pe_lst (pa_cons (pe_tup pa_nil) (pa_cons (pe_tup (pa_cons pe_str pa_nil)) (pa_cons (pe_tup (pa_cons pe_str (pa_cons pe_int (pa_cons pe_int pa_nil)))) (pa_cons (pe_tup (pa_cons pe_str (pa_cons pe_int pa_nil))) (pa_cons (pe_tup (pa_cons pe_str (pa_cons (pe_un un_neg pe_int) (pa_cons pe_int pa_nil)))) (pa_cons (pe_tup (pa_cons pe_str (pa_cons pe_int (pa_cons pe_int pa_nil)))) (pa_cons (pe_tup (pa_cons pe_str (pa_cons pe_int (pa_cons pe_int (pa_cons pe_int pa_nil))))) pa_nil)))))))))
    (pss_cons (ps_set (i := 1) sc__law_odd_item.nd rfl (Or.inl rfl) (pe_op op_cat (pv 1) (pe_lst (pa_cons (pe_tup (pa_cons pe_str (pa_cons pe_int pa_nil))) (pa_cons (pe_tup (pa_cons pe_str (pa_cons pe_int (pa_cons pe_int (pa_cons (pe_un un_neg pe_int) pa_nil))))) (pa_cons (pe_tup (pa_cons pe_str (pa_cons pe_int (pa_cons pe_int pa_nil)))) (pa_cons (pe_tup (pa_cons pe_str (pa_cons pe_int (pa_cons pe_int (pa_cons pe_int pa_nil))))) (pa_cons (pe_tup (pa_cons pe_str (pa_cons pe_int pa_nil))) (pa_cons (pe_tup (pa_cons pe_str (pa_cons pe_int pa_nil))) pa_nil)))))))))
    (pss_cons (ps_set (i := 1) sc__law_odd_item.nd rfl (Or.inl rfl) (pe_op op_cat (pv 1) (pe_lst (pa_cons (pe_tup (pa_cons pe_str (pa_cons pe_int (pa_cons pe_int (pa_cons pe_int pa_nil))))) (pa_cons (pe_tup (pa_cons pe_str pa_nil)) (pa_cons (pe_tup (pa_cons pe_str (pa_cons pe_int (pa_cons pe_int pa_nil)))) pa_nil))))))
    (pss_one (ps_ret (pe_ix ix_list (pv 1) (pv 0) (fun _ _ => rfl))))))), ?_⟩
    obtain ⟨i, rfl, h0, h1, q⟩ := h
    walk_at "va"
    refine vc_ixLP Item (by walk_at "lk") h0 (by exact h1) ?_ fun v hv => ?_
    · simp only [List.forall_mem_cons, List.forall_mem_append, List.forall_mem_nil, and_true]
      repeat' (first | apply And.intro | exact List.forall_mem_nil _ | (apply Item.mk; walk_at "lk"; rfl))
    · walk_at "vs"
      refine q v _ hv ?_
      walk_at "ex"

theorem cal_write_yard_deeds (G : Gs P w K mg) (c_yard_deed_text : Cal P w K mg base 4 "yard_deed_text" (sp_deed_text K)) : Cal P w K mg base (4 + 1) "write_yard_deeds" (sp_write_deeds K) := by
  refine mkCal G.d_write_yard_deeds sc_write_yard_deeds (fun _ _ _ _ _ _ us hl => match us, hl with | [_], _ => rfl) (fun vs H Q E h => ?_) (fun f cdv A outer s H vs Q E hr h => ?_)
  · obtain ⟨x, y, z, rfl, _⟩ := h; rfl
  · have tk : Takes (cxOf (L2.CX P w) P w K mg base N_write_yard_deeds "write_yard_deeds" (defScope s_write_yard_deeds) f cdv A outer s H E) (fun cls d _ H => E cls d H) := takes_of rfl rfl rfl rfl
    refine ⟨_, (pss_one (ps_ret (pe_joinQ pe_str (pe_lcX (own := [("deed", 1)]) (g := gName 1) (tt := tYes) rfl rfl tk rfl sc_write_yard_deeds.nd (pi_list (pv 0)) (blkOk_by (own := [("deed", 1)]) (N := N_write_yard_deeds) (sc := defScope s_write_yard_deeds) (by decide +kernel)) (fun _ _ _ _ _ _ => (pg_name (i := 1) sc_write_yard_deeds.nd rfl (Or.inl rfl))) (fun _ _ _ _ _ _ => pts_nil) (fun _ _ _ _ _ _ tkb => (pe_cal tkb c_yard_deed_text (hr.mono (by first | decide | omega)) (by exact (pa_cons (pv 1) pa_nil)))))))), ?_⟩
    obtain ⟨p, xs, its, rfl, hp, hI, hl, h1, h2⟩ := h
    walk_at "vs"
    intro D nD
    refine lc_listQ (xs := xs) (fun i H3 => Ex H H3 ∧ H3 D = some (.lst (((its.take i).map txI).map V.str)) ∧ ∀ j, j < i → ∀ jt, its[j]? = some jt → okI jt = true) ⟨Ex.new nD, upd_same, fun _ h => absurd h (Nat.not_lt_zero _)⟩ (fun i H3 _ q => Evl.ex_l q.1 hp) (fun i v H3 hv ⟨e, hD, hall⟩ => ?_) (fun H3 ⟨e, hD, hall⟩ => ?_)
    · obtain ⟨a, it, rfl, hit, hat, hlt⟩ := hI.2 i v hv
      walk_at "vs"
      refine ⟨a, it, rfl, e _ _ hat, hlt, fun ok H4 e4 => ?_, fun bad => (h2 i a it hv hit bad hall).ex e⟩
      refine ⟨_, e4 _ _ hD, sz_lt (by simp; omega), (e.trans e4).mut nD, ?_, fun j hj jt hjt => ?_⟩
      · rw [upd_same, List.take_add_one, hit]
        simp
      · rcases Nat.lt_succ_iff_lt_or_eq.mp hj with hj | rfl
        · exact hall j hj jt hjt
        · rw [hit] at hjt; cases hjt; exact ok
    · have ok : ∀ j jt, its[j]? = some jt → okI jt = true := fun j jt hj => hall j (by rw [hI.1]; exact (List.getElem?_eq_some_iff.mp hj).1) jt hj
      rw [hI.1, List.take_length] at hD
      refine vc_join (ys := its.map txI) (sqL hD) ?_ ?_
      · have hb := sum_le (b := 1000) (ys := its.map txI) fun y hy => by
          obtain ⟨it, hm, rfl⟩ := List.mem_map.mp hy
          obtain ⟨j, hj, e⟩ := List.getElem_of_mem hm
          have hj2 : its[j]? = some it := by rw [← e]; exact List.getElem?_eq_getElem hj
          obtain ⟨a, it', _, h3, _, h5⟩ := hI.2 j (xs[j]'(by rw [hI.1]; exact hj)) (List.getElem?_eq_getElem _)
          rw [hj2] at h3; cases h3
          exact txI_len (ok j it hj2) h5
        have h3 : ("\n" : Str).length = 1 := by decide
        rw [h3, List.length_map] at *
        omega
      · walk_at "vs"
        exact h1 ok H3 e

theorem cal_read_yard_deed (G : Gs P w K mg) (K_BadText : ErrK P w K mg base "BadText" 2 1 mk_BadText) (c_is_yard_form : Cal P w K mg base 1 "is_yard_form" sp_is_deed) (c_read_number : Cal P w K mg base 4 "read_number" (sp_read_number K)) : Cal P w K mg base (4 + 1) "read_yard_deed" (sp_read_deed K) := by
  refine mkCal G.d_read_yard_deed sc_read_yard_deed (fun _ _ _ _ _ _ us hl => match us, hl with | [_, _], _ => rfl) (fun vs H Q E h => ?_) (fun f cdv A outer s H vs Q E hr h => ?_)
  · obtain ⟨x, l, rfl, _⟩ := h; rfl
  · have tk : Takes (cxOf (L2.CX P w) P w K mg base N_read_yard_deed "read_yard_deed" (defScope s_read_yard_deed) f cdv A outer s H E) (fun cls d _ H => E cls d H) := takes_of rfl rfl rfl rfl
    refine ⟨_, (pss_cons (ps_set (i := 2) sc_read_yard_deed.nd rfl (Or.inl rfl) (pe_splitQ (pv 0) pe_str))
    (pss_cons (ps_if (pt_not (pt_val (pe_cal tk c_is_yard_form (hr.mono (by first | decide | omega)) (by exact (pa_cons (pe_ix ix_list (pv 2) pe_int (fun _ _ => rfl)) (pa_cons (pe_op op_sub (pe_callB call_lenQ (by rfl) G.b_len (by decide +kernel) (pa_cons (pv 2) pa_nil)) pe_int) pa_nil))))))
     (pss_one (ps_raise rfl tk (pmk_fk K_BadText (hr.mono (by first | decide | omega)) (by exact (pa_cons (pv 1) pa_nil)))))
     pss_nil)
    (pss_cons (ps_setLcX (i := 3) (own := [("word", 4)]) (g := gName 4) (tt := tYes) rfl rfl tk rfl sc_read_yard_deed.nd rfl rfl (sw_true rfl rfl rfl (by decide +kernel)) (pi_list (pe_slice sl_list (pv 2) (po_some pe_int) po_none)) (blkOk_by (own := [("word", 4)]) (N := N_read_yard_deed) (sc := defScope s_read_yard_deed) (by decide +kernel)) (fun _ _ _ _ _ _ => (pg_name (i := 4) sc_read_yard_deed.nd rfl (Or.inl rfl))) (fun _ _ _ _ _ _ => pts_nil) (fun _ _ _ _ _ _ tkb => (pe_cal tkb c_read_number (hr.mono (by first | decide | omega)) (by exact (pa_cons (pv 4) (pa_cons (pv 1) pa_nil))))))
    (pss_one (ps_ret (pe_tup (pa_cons (pe_ix ix_list (pv 2) pe_int (fun _ _ => rfl)) (StX.pa_star (pv 3) pa_nil)))))))), ?_⟩
    obtain ⟨x, l, rfl, hx, h1, h2⟩ := h
    walk_at "vs"
    refine vc_split rfl (Nat.le_trans (Nat.add_le_add_right hx 2) (by decide)) fun p np => ?_
    obtain ⟨y, ws, hw⟩ := split_ne (x := x) sp_sp.1 sp_sp.2
    obtain ⟨hc, hle⟩ := split_le (x := x) sp_sp.1 sp_sp.2
    rw [hw] at hc hle ⊢
    rw [show (y :: ws).map V.str = V.str y :: ws.map V.str from rfl]
    have pe := parse_eq hw
    have e1 : Ex H (upd H p (.lst (V.str y :: ws.map V.str))) := Ex.new np
    have hl : (V.str y :: ws.map V.str).length = ws.length + 1 := by simp
    walk_at "vs"
    refine vc_ixL (sqL upd_same) atI_0 ?_
    walk_at "vs"
    refine ⟨y, _, rfl, ?_⟩
    rw [hl, show ((ws.length + 1 : Nat) : Int) - 1 = (ws.length : Nat) from by omega]
    walk_at "vs"
    refine vc_ifb (fun e => ?_) (fun e => ?_) <;> walk_at "vs"
    · exact BT.mk ((h2 (by rw [pe, if_neg (fun q => by rw [q.1] at e; cases e)])).ex e1)
    have e : isD y (ws.length : Nat) = true := by simpa using e
    refine vc_slL (sqL upd_same) fun r nr => ?_
    rw [cutV_tail]
    have e2 : Ex H (upd (upd H p (.lst (V.str y :: ws.map V.str))) r (.lst (ws.map V.str))) := e1.trans (Ex.new nr)
    have hp2 : (upd (upd H p (.lst (V.str y :: ws.map V.str))) r (.lst (ws.map V.str))) p = some (.lst (V.str y :: ws.map V.str)) := lk_new nr upd_same
    have hr2 : (upd (upd H p (.lst (V.str y :: ws.map V.str))) r (.lst (ws.map V.str))) r = some (.lst (ws.map V.str)) := upd_same
    generalize (upd (upd H p (.lst (V.str y :: ws.map V.str))) r (.lst (ws.map V.str))) = H2 at *
    walk_at "vs"
    intro D nD
    refine lc_listQ (xs := ws.map V.str) (fun i H3 => Ex H2 H3 ∧ H3 D = some (.lst (((ws.take i).map fun z => valN (tl z)).map V.int)) ∧ ∀ z ∈ ws.take i, okN (tl z) = true) ⟨Ex.new nD, upd_same, fun _ h => by simp at h⟩ (fun i H3 _ q => sqL (q.1 _ _ hr2)) (fun i v H3 hv ⟨e3, hD, hall⟩ => ?_) (fun H3 ⟨e3, hD, hall⟩ => ?_)
    · rw [List.getElem?_map, Option.map_eq_some_iff] at hv
      obtain ⟨z, hv, rfl⟩ := hv
      have hm := List.mem_of_getElem? hv
      have hi : i < ws.length := (List.getElem?_eq_some_iff.mp hv).1
      walk_at "vs"
      refine ⟨z, l, rfl, Nat.le_trans (hle z (List.mem_cons_of_mem _ hm)) (Nat.le_trans hx (by decide)), fun ok => ?_, fun bad => ?_⟩
      · refine ⟨_, hD, ?_, Ex.mut e3 nD, ?_, fun z' hz' => ?_⟩
        · have : sizeLine = 16777216 := rfl
          simp at hc ⊢
          omega
        · rw [upd_same, List.take_add_one, hv]
          simp
        · rw [List.take_add_one, hv] at hz'
          rcases List.mem_append.mp hz' with h | h
          · exact hall z' h
          · simp at h; rw [h]; exact ok
      · exact (h2 (by rw [pe, if_neg (fun q => by have := q.2 z hm; rw [this] at bad; cases bad)])).ex (e2.trans e3)
    · have hp3 := e3 _ _ hp2
      rw [List.length_map, List.take_length] at hD hall
      walk_at "vs"
      refine vc_ixL (sqL hp3) atI_0 ?_
      walk_at "vs"
      refine ⟨?_, fun q nq => ?_⟩
      · have : sizeLine = 16777216 := rfl
        simp at hc ⊢
        omega
      walk_at "vs"
      refine h1 (y, ws.map fun z => valN (tl z)) (by rw [pe, if_pos ⟨e, hall⟩]) q _ ((e2.trans e3).trans (Ex.new nq)) (Evl.fresh_back (e2.trans e3) nq) ?_
      rw [upd_same]
      simp [itV]

theorem cal__law_line_deed (G : Gs P w K mg) (c__law_is_yard_deed : Cal P w K mg base 1 "_law_is_yard_deed" (sp_lis_deed K)) (c__law_is_written : Cal P w K mg base 1 "_law_is_written" sp_is_written) : Cal P w K mg base (1 + 1) "_law_line_deed" (sp_line_deed K) := by
  refine mkCal G.d__law_line_deed sc__law_line_deed (fun _ _ _ _ _ _ us hl => match us, hl with | [_], _ => rfl) (fun vs H Q E h => ?_) (fun f cdv A outer s H vs Q E hr h => ?_)
  · obtain ⟨x, rfl, _⟩ := h; rfl
  · have tk : Takes (cxOf (L2.CX P w) P w K mg base N__law_line_deed "_law_line_deed" (defScope s__law_line_deed) f cdv A outer s H E) (fun cls d _ H => E cls d H) := takes_of rfl rfl rfl rfl
    refine ⟨_, (pss_cons (ps_set (i := 1) sc__law_line_deed.nd rfl (Or.inl rfl) (pe_splitQ (pv 0) pe_str))
    (pss_cons (ps_if (pt_not (pt_val (pe_cal tk c__law_is_yard_deed (hr.mono (by first | decide | omega)) (by exact (pa_cons (pv 1) pa_nil)))))
     (pss_one (ps_ret pe_non))
     pss_nil)
    (pss_cons (ps_set (i := 2) sc__law_line_deed.nd rfl (Or.inl rfl) (pe_lst pa_nil))
    (pss_cons (ps_for (passes_of rfl) rfl (pi_list (pe_slice sl_list (pv 1) (po_some pe_int) po_none)) (pg_name (i := 3) sc__law_line_deed.nd rfl (Or.inl rfl))
     (pss_cons (ps_if (pt_not (pt_val (pe_cal tk c__law_is_written (hr.mono (by first | decide | omega)) (by exact (pa_cons (pv 3) pa_nil)))))
      (pss_one (ps_ret pe_non))
      pss_nil)
     (pss_one (ps_expr (pe_bm PySem.F.plainAttrs_list PySem.F.slot_list_append PySem.F.type_list_append mt_append (pv 2) (pa_cons (pe_callTy call_intSQ (by rfl) G.b_int (by decide +kernel) (pa_cons (pv 3) pa_nil)) pa_nil))))))
    (pss_one (ps_ret (pe_callTy call_tupleQ (by rfl) G.b_tuple (by decide +kernel) (pa_cons (pe_op op_cat (pe_lst (pa_cons (pe_ix ix_list (pv 1) pe_int (fun _ _ => rfl)) pa_nil)) (pv 2)) pa_nil)))))))), ?_⟩
    obtain ⟨x, rfl, hx, h1, h2⟩ := h
    walk_at "vs"
    refine vc_split rfl (Nat.le_trans (Nat.add_le_add_right hx 2) (by decide)) fun p np => ?_
    obtain ⟨y, ws, hw⟩ := split_ne (x := x) sp_sp.1 sp_sp.2
    obtain ⟨hc, hle⟩ := split_le (x := x) sp_sp.1 sp_sp.2
    rw [hw] at hc hle ⊢
    rw [show (y :: ws).map V.str = V.str y :: ws.map V.str from rfl]
    have pe := parse_eq hw
    have e1 : Ex H (upd H p (.lst (V.str y :: ws.map V.str))) := Ex.new np
    have hl : (ws.map V.str).length = ws.length := by simp
    have hp1 : (upd H p (.lst (V.str y :: ws.map V.str))) p = some (.lst (V.str y :: ws.map V.str)) := upd_same
    walk_at "vs"
    refine ⟨p, _, rfl, .inl (sqL upd_same), .inr ⟨_, _, rfl⟩, fun H2 e2 => ?_⟩
    have hp2 := e2 _ _ hp1
    have e2 := e1.trans e2
    show ∃ k, V.bl (isD y ((ws.map V.str).length : Nat)) = .bl k ∧ _
    rw [hl]
    walk_at "vs"
    refine vc_ifb (fun e => ?_) (fun e => ?_) <;> walk_at "vs"
    · exact h2 (by rw [pe, if_neg (fun q => by rw [q.1] at e; cases e)]) _ e2
    have e : isD y (ws.length : Nat) = true := by simpa using e
    refine vc_kL (Nat.le_of_ble_eq_true rfl) fun n nn => ?_
    have nn0 := Evl.fresh_back e2 nn
    walk_at "vs"
    refine vc_slL (sqL (lk_new nn hp2)) fun r nr => ?_
    rw [cutV_tail]
    have e3 : Ex H (upd (upd H2 n (.lst [])) r (.lst (ws.map V.str))) := (e2.trans (Ex.new nn)).trans (Ex.new nr)
    have hp3 : (upd (upd H2 n (.lst [])) r (.lst (ws.map V.str))) p = some (.lst (V.str y :: ws.map V.str)) := lk_new nr (lk_new nn hp2)
    have hn3 : (upd (upd H2 n (.lst [])) r (.lst (ws.map V.str))) n = some (.lst []) := lk_new nr upd_same
    have hr3 : (upd (upd H2 n (.lst [])) r (.lst (ws.map V.str))) r = some (.lst (ws.map V.str)) := upd_same
    have nrn : r ≠ n := fun q => by rw [q, upd_same] at nr; cases nr
    have npn : p ≠ n := fun q => by rw [q, nn] at hp2; cases hp2
    generalize (upd (upd H2 n (.lst [])) r (.lst (ws.map V.str))) = H3 at *
    walk_at "vs"
    refine lp_list (xs := ws.map V.str) (fun i σ' H' => (∃ u, σ' = [some (.str x), some (.ref p), some (.ref n), u]) ∧ Ex H H' ∧ H' r = some (.lst (ws.map V.str)) ∧ H' p = some (.lst (V.str y :: ws.map V.str)) ∧ H' n = some (.lst (((ws.take i).map fun z => valN (tl z)).map V.int)) ∧ ∀ z ∈ ws.take i, okN (tl z) = true) ⟨⟨none, rfl⟩, e3, hr3, hp3, hn3, fun _ h => by simp at h⟩ (fun i σ' H' _ q => sqL q.2.2.1) (fun i v σ' H' hv ⟨⟨u, es⟩, e4, hr4, hp4, hn4, hall⟩ => ?_) (fun σ' H' ⟨⟨u, es⟩, e4, hr4, hp4, hn4, hall⟩ => ?_)
    · subst es
      rw [List.getElem?_map, Option.map_eq_some_iff] at hv
      obtain ⟨z, hv, rfl⟩ := hv
      have hm := List.mem_of_getElem? hv
      have hi : i < ws.length := (List.getElem?_eq_some_iff.mp hv).1
      walk_at "vs"
      refine ⟨z, rfl, Nat.le_trans (hle z (List.mem_cons_of_mem _ hm)) (Nat.le_trans hx (by decide)), ?_⟩
      walk_at "vs"
      refine vc_ifb (fun bad => ?_) (fun ok => ?_) <;> walk_at "vs"
      · exact h2 (by rw [pe, if_neg (fun q => by have := q.2 z hm; rw [this] at bad; cases bad)]) _ e4
      have ok : okN (tl z) = true := by simpa using ok
      refine vc_intS (okN_int ok).1 (okN_int ok).2 ?_
      walk_at "vs"
      refine vc_app hn4 ?_ ?_
      · have : sizeLine = 16777216 := rfl
        simp at hc ⊢
        omega
      walk_at "vs"
      refine ⟨⟨_, rfl⟩, Ex.mut e4 nn0, lk_ne nrn hr4, lk_ne npn hp4, ?_, fun z' hz' => ?_⟩
      · rw [upd_same, List.take_add_one, hv]
        simp
      · rw [List.take_add_one, hv] at hz'
        rcases List.mem_append.mp hz' with h | h
        · exact hall z' h
        · simp at h; rw [h]; exact ok
    · subst es
      rw [List.length_map, List.take_length] at hn4 hall
      walk_at "vs"
      refine vc_ixL (sqL hp4) atI_0 ?_
      walk_at "vs"
      refine vc_kL (Nat.le_of_ble_eq_true rfl) fun l nl => ?_
      walk_at "vs"
      refine ⟨l, n, _, _, rfl, rfl, upd_same, lk_new nl hn4, ?_, fun l2 nl2 => ?_⟩
      · have : sizeLine = 16777216 := rfl
        simp at hc ⊢
        omega
      walk_at "vs"
      refine vc_tupL (sqL upd_same) fun q nq => ?_
      walk_at "vs"
      have e5 := (e4.trans (Ex.new (o := .lst [V.str y]) nl)).trans (Ex.new (o := .lst ([V.str y] ++ (ws.map fun z => valN (tl z)).map V.int)) nl2)
      refine h1 (y, ws.map fun z => valN (tl z)) (by rw [pe, if_pos ⟨e, hall⟩]) q _ (e5.trans (Ex.new nq)) (Evl.fresh_back e5 nq) ?_
      rw [upd_same]
      simp [itV]

theorem cal_read_yard_deeds (G : Gs P w K mg) (c_read_yard_deed : Cal P w K mg base 5 "read_yard_deed" (sp_read_deed K)) : Cal P w K mg base (5 + 1) "read_yard_deeds" (sp_read_deeds K) := by
  refine mkCal G.d_read_yard_deeds sc_read_yard_deeds (fun _ _ _ _ _ _ us hl => match us, hl with | [_], _ => rfl) (fun vs H Q E h => ?_) (fun f cdv A outer s H vs Q E hr h => ?_)
  · obtain ⟨x, rfl, _⟩ := h; rfl
  · have tk : Takes (cxOf (L2.CX P w) P w K mg base N_read_yard_deeds "read_yard_deeds" (defScope s_read_yard_deeds) f cdv A outer s H E) (fun cls d _ H => E cls d H) := takes_of rfl rfl rfl rfl
    refine ⟨_, (pss_cons (ps_if (pt_cmpR op_eq (pv 0) pe_str (nomark _))
     (pss_one (ps_ret (pe_lst pa_nil)))
     pss_nil)
    (pss_one (ps_ret (pe_lcX (own := [("index", 1), ("row", 2)]) (g := gTup K 2 (gCons (gName 1) (gCons (gName 2) gNil))) (tt := tYes) rfl rfl tk rfl sc_read_yard_deeds.nd (pi_enum (by rfl) G.b_enumerate (pa_cons (pe_splitQ (pv 0) pe_str) pa_nil)) (blkOk_by (own := [("index", 1), ("row", 2)]) (N := N_read_yard_deeds) (sc := defScope s_read_yard_deeds) (by decide +kernel)) (fun _ _ _ _ _ _ => (pg_tup (by rfl) (pgs_cons (pg_name (i := 1) sc_read_yard_deeds.nd rfl (Or.inl rfl)) (pgs_cons (pg_name (i := 2) sc_read_yard_deeds.nd rfl (Or.inl rfl)) pgs_nil)))) (fun _ _ _ _ _ _ => pts_nil) (fun _ _ _ _ _ _ tkb => (pe_cal tkb c_read_yard_deed (hr.mono (by first | decide | omega)) (by exact (pa_cons (pv 2) (pa_cons (pe_op op_add (pv 1) pe_int) pa_nil))))))))), ?_⟩
    obtain ⟨x, rfl, hx, h1, h2⟩ := h
    walk_at "vs"
    refine vc_ifd (fun e => ?_) (fun e => ?_) <;> walk_at "vs"
    · refine vc_kL (Nat.le_of_ble_eq_true rfl) fun p np => ?_
      walk_at "vs"
      exact h1 [] (by rw [e, str_e]; rfl) p [] _ (Ex.new np) np upd_same .nil
    have er := str_ne e
    refine vc_split rfl (Nat.le_trans (Nat.add_le_add_right hx 2) (by decide)) fun p np => ?_
    obtain ⟨hc, hle⟩ := split_le (x := x) sp_nl.1 sp_nl.2
    rw [← er] at hc hle ⊢
    have e1 : Ex H (upd H p (.lst ((rows x).map V.str))) := Ex.new np
    have hp1 : (upd H p (.lst ((rows x).map V.str))) p = some (.lst ((rows x).map V.str)) := upd_same
    generalize (upd H p (.lst ((rows x).map V.str))) = H1 at *
    walk_at "vs"
    intro D nD
    have nD0 := Evl.fresh_back e1 nD
    refine lc_enumQ (xs := (rows x).map V.str) (fun i H3 => Ex H1 H3 ∧ ∃ as ds, H3 D = some (.lst as) ∧ TupsAt H3 as ds ∧ ((rows x).take i).map parse = ds.map some) ⟨Ex.new nD, [], [], upd_same, .nil, rfl⟩ (fun i H3 _ q => sqL (q.1 _ _ hp1)) (fun i v T H3 hv ⟨e3, as, ds, hD, ha, hds⟩ nT => ?_) (fun H3 ⟨e3, as, ds, hD, ha, hds⟩ => ?_)
    · rw [List.getElem?_map, Option.map_eq_some_iff] at hv
      obtain ⟨z, hv, rfl⟩ := hv
      have hm := List.mem_of_getElem? hv
      have hi : i < (rows x).length := (List.getElem?_eq_some_iff.mp hv).1
      have hpa : ((rows x).map parse)[i]? = some (parse z) := by rw [List.getElem?_map, hv]; rfl
      have hbe : ∀ j, j < i → ((rows x).map parse)[j]? ≠ some none := fun j hj q => by
        have e4 : (((rows x).take i).map parse)[j]? = ((rows x).map parse)[j]? := by rw [List.map_take, List.getElem?_take, if_pos hj]
        rw [← e4, hds, List.getElem?_map, Option.map_eq_some_iff] at q
        obtain ⟨_, _, q⟩ := q
        cases q
      have e4 : Ex H3 (upd H3 T (.tup [.int (i : Nat), .str z])) := Ex.new nT
      walk_at "vs"
      refine ⟨z, _, rfl, Nat.le_trans (hle z hm) hx, fun d hd q H5 e5 nq hq => ?_, fun hn => ?_⟩
      · have hDs : TupsAt H5 as ds := (ha.ex e4).ex e5
        have h5 := e5 _ _ (e4 _ _ hD)
        refine ⟨as, h5, ?_, Ex.mut (e3.trans (e4.trans e5)) nD, as ++ [.ref q], ds ++ [d], upd_same, (hDs.snoc hq).put h5, ?_⟩
        · have : sizeLine = 16777216 := rfl
          have h6 := congrArg List.length hds
          simp at h6
          rw [ha.1]
          omega
        · rw [List.take_add_one, hv, List.map_append, hds, List.map_append]
          simp [hd]
      · exact (h2 i (by rw [hpa, hn]) hbe).ex (e1.trans (e3.trans e4))
    · rw [List.length_map, List.take_length] at hds
      exact h1 ds hds D as H3 (e1.trans e3) nD0 hD ha

theorem cal__law_read_due (G : Gs P w K mg) (c__law_line_deed : Cal P w K mg base 2 "_law_line_deed" (sp_line_deed K)) : Cal P w K mg base (2 + 1) "_law_read_due" sp_law_read := by
  refine mkCal G.d__law_read_due sc__law_read_due (fun _ _ _ _ _ _ us hl => match us, hl with | [_], _ => rfl) (fun vs H Q E h => ?_) (fun f cdv A outer s H vs Q E hr h => ?_)
  · obtain ⟨x, rfl, _⟩ := h; rfl
  · have tk : Takes (cxOf (L2.CX P w) P w K mg base N__law_read_due "_law_read_due" (defScope s__law_read_due) f cdv A outer s H E) (fun cls d _ H => E cls d H) := takes_of rfl rfl rfl rfl
    refine ⟨_, (pss_cons (ps_set (i := 1) sc__law_read_due.nd rfl (Or.inl rfl) (pe_lst pa_nil))
    (pss_cons (ps_if (pt_cmpR op_eq (pv 0) pe_str (nomark _))
     (pss_one (ps_ret (pe_tup (pa_cons pe_str (pa_cons (pv 1) pa_nil)))))
     pss_nil)
    (pss_cons (ps_set (i := 2) sc__law_read_due.nd rfl (Or.inl rfl) (pe_splitQ (pv 0) pe_str))
    (pss_cons (ps_for (passes_of rfl) rfl (pi_range1 rfl G.b_range (pa_cons (pe_callB call_lenQ (by rfl) G.b_len (by decide +kernel) (pa_cons (pv 2) pa_nil)) pa_nil)) (pg_name (i := 3) sc__law_read_due.nd rfl (Or.inl rfl))
     (pss_cons (ps_set (i := 4) sc__law_read_due.nd rfl (Or.inl rfl) (pe_cal tk c__law_line_deed (hr.mono (by first | decide | omega)) (by exact (pa_cons (pe_ix ix_list (pv 2) (pv 3) (fun _ _ => rfl)) pa_nil))))
     (pss_cons (ps_if (pt_cmpR op_isNQ (pv 4) pe_non (nomark _))
      (pss_one (ps_ret (pe_tup (pa_cons pe_str (pa_cons (pe_op op_add (pv 3) pe_int) pa_nil)))))
      pss_nil)
     (pss_one (ps_expr (pe_bm PySem.F.plainAttrs_list PySem.F.slot_list_append PySem.F.type_list_append mt_append (pv 1) (pa_cons (pv 4) pa_nil)))))))
    (pss_one (ps_ret (pe_tup (pa_cons pe_str (pa_cons (pv 1) pa_nil))))))))), ?_⟩
    obtain ⟨x, rfl, hx, q⟩ := h
    walk_at "vs"
    refine vc_kL (Nat.le_of_ble_eq_true rfl) fun n nn => ?_
    walk_at "vs"
    refine vc_ifd (fun e => ?_) (fun e => ?_) <;> walk_at "vs"
    · refine vc_kT (Nat.le_of_ble_eq_true rfl) fun t nt => ?_
      walk_at "vs"
      refine q _ _ ((Ex.new nn).trans (Ex.new nt)) ?_
      rw [outR_ok (ds := []) (by rw [e, str_e]; rfl)]
      exact .tup upd_same (.cons (.str _) (.cons (.lst (lk_new nt upd_same) .nil) .nil))
    have er := str_ne e
    refine vc_split rfl (Nat.le_trans (Nat.add_le_add_right hx 2) (by decide)) fun p np => ?_
    obtain ⟨hc, hle⟩ := split_le (x := x) sp_nl.1 sp_nl.2
    rw [← er] at hc hle ⊢
    have e1 : Ex H (upd (upd H n (.lst [])) p (.lst ((rows x).map V.str))) := (Ex.new nn).trans (Ex.new np)
    have hn1 : (upd (upd H n (.lst [])) p (.lst ((rows x).map V.str))) n = some (.lst []) := lk_new np upd_same
    have hp1 : (upd (upd H n (.lst [])) p (.lst ((rows x).map V.str))) p = some (.lst ((rows x).map V.str)) := upd_same
    have npn : p ≠ n := fun q => by rw [q, upd_same] at np; cases np
    generalize (upd (upd H n (.lst [])) p (.lst ((rows x).map V.str))) = H1 at *
    have hl : ((rows x).map V.str).length = (rows x).length := by simp
    walk_at "vs"
    rw [hl]
    refine vc_rL (by omega) (by omega) ?_
    rw [Int.toNat_natCast]
    refine lp_range0 (fun i σ' H' => (∃ u w, σ' = [some (.str x), some (.ref n), some (.ref p), u, w]) ∧ Ex H H' ∧ H' p = some (.lst ((rows x).map V.str)) ∧ ∃ as ds, H' n = some (.lst as) ∧ TupsAt H' as ds ∧ ((rows x).take i).map parse = ds.map some) ⟨⟨none, none, rfl⟩, e1, hp1, [], [], hn1, .nil, rfl⟩ (fun i σ' H' hi ⟨⟨u, w, es⟩, e3, hp3, as, ds, hD, ha, hds⟩ => ?_) (fun σ' H' ⟨⟨u, w, es⟩, e3, hp3, as, ds, hD, ha, hds⟩ => ?_)
    · subst es
      obtain ⟨v, hv, hv2, _⟩ := atI_ex (xs := (rows x).map V.str) (i := (i : Nat)) (by omega) (by rw [hl]; omega)
      rw [Int.toNat_natCast, List.getElem?_map, Option.map_eq_some_iff] at hv2
      obtain ⟨z, hz, rfl⟩ := hv2
      have hpa : ((rows x).map parse)[i]? = some (parse z) := by rw [List.getElem?_map, hz]; rfl
      have hbe : ∀ j, j < i → ((rows x).map parse)[j]? ≠ some none := fun j hj q => by
        have e4 : (((rows x).take i).map parse)[j]? = ((rows x).map parse)[j]? := by rw [List.map_take, List.getElem?_take, if_pos hj]
        rw [← e4, hds, List.getElem?_map, Option.map_eq_some_iff] at q
        obtain ⟨_, _, q⟩ := q
        cases q
      walk_at "vs"
      refine vc_ixL (sqL hp3) hv ?_
      walk_at "vs"
      refine ⟨z, rfl, Nat.le_trans (hle z (List.mem_of_getElem? hz)) hx, fun d hd t H5 e5 nt ht => ?_, fun hn H5 e5 => ?_⟩
      · have h5 := e5 _ _ hD
        walk_at "vs"
        refine vc_app h5 ?_ ?_
        · have : sizeLine = 16777216 := rfl
          have h6 := congrArg List.length hds
          simp at h6
          rw [ha.1]
          omega
        walk_at "vs"
        refine ⟨⟨_, _, rfl⟩, Ex.mut (e3.trans e5) nn, lk_ne npn (e5 _ _ hp3), as ++ [.ref t], ds ++ [d], upd_same, ((ha.ex e5).snoc ht).put h5, ?_⟩
        rw [List.take_add_one, hz, List.map_append, hds, List.map_append]
        simp [hd]
      · walk_at "vs"
        refine vc_kT (Nat.le_of_ble_eq_true rfl) fun t nt => ?_
        walk_at "vs"
        refine q _ _ ((e3.trans e5).trans (Ex.new nt)) ?_
        rw [outR_bad (by rw [hpa, hn]) hbe]
        exact .tup upd_same (.cons (.str _) (.cons (.int _) .nil))
    · subst es
      rw [List.take_length] at hds
      walk_at "vs"
      refine vc_kT (Nat.le_of_ble_eq_true rfl) fun t nt => ?_
      walk_at "vs"
      refine q _ _ (e3.trans (Ex.new nt)) ?_
      rw [outR_ok hds]
      exact .tup upd_same (.cons (.str _) (.cons (.lst (lk_new nt hD) (ha.ex (Ex.new nt)).rpa) .nil))

theorem cal__law_read (G : Gs P w K mg) (c_read_yard_deeds : Cal P w K mg base 6 "read_yard_deeds" (sp_read_deeds K)) : Cal P w K mg base (6 + 1) "_law_read" sp_law_read := by
  refine mkCal G.d__law_read sc__law_read (fun _ _ _ _ _ _ us hl => match us, hl with | [_], _ => rfl) (fun vs H Q E h => ?_) (fun f cdv A outer s H vs Q E hr h => ?_)
  · obtain ⟨x, rfl, _⟩ := h; rfl
  · have tk : Takes (cxOf (L2.CX P w) P w K mg base N__law_read "_law_read" (defScope s__law_read) f cdv A outer s H E) (fun cls d _ H => E cls d H) := takes_of rfl rfl rfl rfl
    refine ⟨_, (pss_one (ps_try_as (i := 1) rfl rfl sc__law_read.nd rfl rfl ⟨rfl, by decide, .inl G.k_BadText⟩ tk
     (fun W pn xe tkt _ => (pss_one (ps_ret (pe_tup (pa_cons pe_str (pa_cons (pe_cal tkt c_read_yard_deeds (hr.mono (by first | decide | omega)) (by exact (pa_cons (pv 0) pa_nil))) pa_nil))))))
     (fun a oe cls d pn hz hf => (pss_one (ps_ret (pe_tup (pa_cons (pe_xfE hz hf (pv 1)) (pa_cons (pe_xfE hz hf (pv 1)) pa_nil)))))))), ?_⟩
    obtain ⟨x, rfl, hx, q⟩ := h
    walk_at "vs"
    refine ⟨x, rfl, hx, fun ds hds p as H1 e1 np hp ha => ?_, fun i hi hb d H1 e1 nd => ?_⟩
    · walk_at "vs"
      refine vc_kT (Nat.le_of_ble_eq_true rfl) fun t nt => ?_
      walk_at "vs"
      refine q _ _ (e1.trans (Ex.new nt)) ?_
      rw [outR_ok hds]
      exact .tup upd_same (.cons (.str _) (.cons (.lst (lk_new nt hp) (ha.ex (Ex.new nt)).rpa) .nil))
    · refine ⟨true, G.e_BadText_BadText, fun _ a na => ?_, fun h => by cases h⟩
      walk_at "vs"
      refine vc_xfE (xfB_ok G.x_BadText) G.r_BadText rfl upd_same rfl ?_
      walk_at "vs"
      refine vc_xfE (xfB_ok G.x_BadText) G.H_BadText.n_line rfl upd_same rfl ?_
      walk_at "vs"
      refine vc_kT (Nat.le_of_ble_eq_true rfl) fun t nt => ?_
      walk_at "vs"
      refine q _ _ ((e1.trans (Ex.new nd)).trans (Ex.new nt)) ?_
      rw [outR_bad hi hb]
      exact .tup upd_same (.cons (.str _) (.cons (.int _) .nil))

theorem cal__law_write_due (G : Gs P w K mg) (c__law_is_yard_deed : Cal P w K mg base 1 "_law_is_yard_deed" (sp_lis_deed K)) (c__law_deed_line : Cal P w K mg base 1 "_law_deed_line" sp_ldeed_text) : Cal P w K mg base (1 + 1) "_law_write_due" (sp_law_write K) := by
  refine mkCal G.d__law_write_due sc__law_write_due (fun _ _ _ _ _ _ us hl => match us, hl with | [_], _ => rfl) (fun vs H Q E h => ?_) (fun f cdv A outer s H vs Q E hr h => ?_)
  · obtain ⟨x, y, z, rfl, _⟩ := h; rfl
  · have tk : Takes (cxOf (L2.CX P w) P w K mg base N__law_write_due "_law_write_due" (defScope s__law_write_due) f cdv A outer s H E) (fun cls d _ H => E cls d H) := takes_of rfl rfl rfl rfl
    refine ⟨_, (pss_cons (ps_set (i := 1) sc__law_write_due.nd rfl (Or.inl rfl) (pe_lst pa_nil))
    (pss_cons (ps_for (passes_of rfl) rfl (pi_list (pv 0)) (pg_name (i := 2) sc__law_write_due.nd rfl (Or.inl rfl))
     (pss_cons (ps_if (pt_not (pt_val (pe_cal tk c__law_is_yard_deed (hr.mono (by first | decide | omega)) (by exact (pa_cons (pv 2) pa_nil)))))
      (pss_one (ps_ret (pe_tup (pa_cons pe_str (pa_cons (pv 2) pa_nil)))))
      pss_nil)
     (pss_cons (ps_for (passes_of rfl) rfl (pi_tup (pe_slice sl_tupA (pv 2) (po_some pe_int) po_none)) (pg_name (i := 3) sc__law_write_due.nd rfl (Or.inl rfl))
      (pss_one (ps_if (pt_not (pt_chain op_le op_le pe_int (pv 3) pe_int))
       (pss_one (ps_ret (pe_tup (pa_cons pe_str (pa_cons (pv 2) pa_nil)))))
       pss_nil)))
     (pss_one (ps_expr (pe_bm PySem.F.plainAttrs_list PySem.F.slot_list_append PySem.F.type_list_append mt_append (pv 1) (pa_cons (pe_cal tk c__law_deed_line (hr.mono (by first | decide | omega)) (by exact (pa_cons (pv 2) pa_nil))) pa_nil)))))))
    (pss_one (ps_ret (pe_tup (pa_cons pe_str (pa_cons (pe_joinQ pe_str (pv 1)) pa_nil))))))), ?_⟩
    obtain ⟨p, xs, its, rfl, hp, hI, hl, q⟩ := h
    walk_at "vs"
    refine vc_kL (Nat.le_of_ble_eq_true rfl) fun l nl => ?_
    have e1 : Ex H (upd H l (.lst [])) := Ex.new nl
    have hp1 := Evl.ex_l e1 hp
    walk_at "vs"
    refine lp_list (xs := xs) (fun i σ' H' => (∃ u w, σ' = [some (.ref p), some (.ref l), u, w]) ∧ Ex H H' ∧ H' l = some (.lst (((its.take i).map txI).map V.str)) ∧ ∀ j, j < i → ∀ jt, its[j]? = some jt → okI jt = true) ⟨⟨none, none, rfl⟩, e1, upd_same, fun _ h => absurd h (Nat.not_lt_zero _)⟩ (fun i σ' H' _ q => Evl.ex_l q.2.1 hp) (fun i v σ' H' hv ⟨⟨u, w, es⟩, e2, hl2, hall⟩ => ?_) (fun σ' H' ⟨⟨u, w, es⟩, e2, hl2, hall⟩ => ?_)
    · subst es
      obtain ⟨a, it, rfl, hit, hat, hlt⟩ := hI.2 i v hv
      have hat2 := e2 _ _ hat
      have bad : ∀ σ3 H3, Ex H' H3 → okI it = false → tTup (tCons (tC (.str "bad deed")) (tCons (tC (.ref a)) tNil)) σ3 H3 Q := fun σ3 H3 e3 hb => by
        walk_at "vs"
        refine vc_kT (Nat.le_of_ble_eq_true rfl) fun t nt => ?_
        refine q _ _ ((e2.trans e3).trans (Ex.new nt)) ?_
        rw [outW_bad hit hb hall]
        exact .tup upd_same (.cons (.str _) (.cons (rp_item (lk_new nt (e3 _ _ hat2))) .nil))
      walk_at "vs"
      refine ⟨a, itV it, rfl, .inr (sqT hat2), hdS_itV, fun H3 e3 => ?_⟩
      rw [isDL_itV]
      cases it with
      | none =>
        walk_at "vs"
        refine vc_kT (Nat.le_of_ble_eq_true rfl) fun t nt => ?_
        have := bad [] H3 e3 rfl
        exact (show kT _ H3 Q from this).2 t nt
      | some d =>
      obtain ⟨x, ns⟩ := d
      have hat2 : H' a = some (.tup (.str x :: ns.map V.int)) := hat2
      have hns : ns.length ≤ 99 := by simp [itV] at hlt; omega
      show ∃ k, V.bl (isD x (ns.length : Nat)) = .bl k ∧ _
      walk_at "vs"
      refine vc_ifb (fun e => ?_) (fun e => ?_) <;> walk_at "vs"
      · have := bad [] H3 e3 (by rw [okI_some]; simp at e; rw [e]; rfl)
        exact this
      have hD : isD x (ns.length : Nat) = true := by simpa using e
      refine vc_slA (e3 _ _ hat2) fun r H4 e4 hr4 => ?_
      rw [cutV_tail] at hr4
      have hl4 := e4 _ _ (e3 _ _ hl2)
      walk_at "vs"
      refine lp_tup (xs := ns.map V.int) (fun k σ' H5 => H5 = H4 ∧ (∃ w, σ' = [some (.ref p), some (.ref l), some (.ref a), w]) ∧ ∀ j n, j < k → ns[j]? = some n → 0 ≤ n ∧ n ≤ 999) ⟨rfl, ⟨_, rfl⟩, fun _ _ h => absurd h (Nat.not_lt_zero _)⟩ (fun i σ' H' _ ⟨e, _⟩ => by rw [e]; exact sqT hr4) (fun k v σ' H5 hv ⟨eh, ⟨w, es⟩, hNs⟩ => ?_) (fun σ' H5 ⟨eh, ⟨w, es⟩, hNs⟩ => ?_)
      · subst eh; subst es
        rw [List.getElem?_map, Option.map_eq_some_iff] at hv
        obtain ⟨n, hv, rfl⟩ := hv
        have hm := List.mem_of_getElem? hv
        walk_at "vs"
        refine vc_ifd (fun g1 => ?_) (fun g1 => ?_) <;> walk_at "vs"
        · refine vc_ifn (fun g2 => ?_) (fun g2 => ?_) <;> walk_at "vs"
          · exact bad [] _ (e3.trans e4) (okI_bad hm fun q => g2 q.2)
          · refine ⟨rfl, ⟨_, rfl⟩, fun j m hj hm => ?_⟩
            rcases Nat.lt_succ_iff_lt_or_eq.mp hj with hj | rfl
            · exact hNs j m hj hm
            · rw [hv] at hm; cases hm; exact ⟨g1, g2⟩
        · exact bad [] _ (e3.trans e4) (okI_bad hm fun q => g1 q.1)
      · subst eh; subst es
        rw [List.length_map] at hNs
        have hN : ∀ n ∈ ns, 0 ≤ n ∧ n ≤ 999 := fun n hn => by
          obtain ⟨j, hj, e⟩ := List.getElem_of_mem hn
          exact hNs j n hj (by rw [← e]; exact List.getElem?_eq_getElem hj)
        walk_at "vs"
        refine ⟨a, x, ns, rfl, e4 _ _ (e3 _ _ hat2), isD_len hD, by omega, hN, fun H6 e6 => ?_⟩
        have hl6 := e6 _ _ hl4
        walk_at "vs"
        refine vc_app hl6 (sz_lt (by simp; omega)) ?_
        walk_at "vs"
        refine ⟨⟨_, _, rfl⟩, Ex.mut (e2.trans (e3.trans (e4.trans e6))) nl, ?_, fun j hj jt hjt => ?_⟩
        · rw [upd_same, List.take_add_one, hit]
          simp
        · rcases Nat.lt_succ_iff_lt_or_eq.mp hj with hj | rfl
          · exact hall j hj jt hjt
          · rw [hit] at hjt; cases hjt; exact okI_all hD hN
    · subst es
      have ok : ∀ (j : Nat) jt, its[j]? = some jt → okI jt = true := fun j jt hj => hall j (by rw [hI.1]; exact (List.getElem?_eq_some_iff.mp hj).1) jt hj
      rw [hI.1, List.take_length] at hl2
      walk_at "vs"
      refine vc_join (ys := its.map txI) (sqL hl2) ?_ ?_
      · have hb := sum_le (b := 1000) (ys := its.map txI) fun y hy => by
          obtain ⟨it, hm, rfl⟩ := List.mem_map.mp hy
          obtain ⟨j, hj, e⟩ := List.getElem_of_mem hm
          have hj2 : its[j]? = some it := by rw [← e]; exact List.getElem?_eq_getElem hj
          obtain ⟨a, it', _, h3, _, h5⟩ := hI.2 j (xs[j]'(by rw [hI.1]; exact hj)) (List.getElem?_eq_getElem _)
          rw [hj2] at h3; cases h3
          exact txI_len (ok j it hj2) h5
        have h3 : ("\n" : Str).length = 1 := by decide
        rw [h3, List.length_map] at *
        omega
      · walk_at "vs"
        refine vc_kT (Nat.le_of_ble_eq_true rfl) fun t nt => ?_
        walk_at "vs"
        refine q _ _ (e2.trans (Ex.new nt)) ?_
        rw [outW_ok ok]
        exact .tup upd_same (.cons (.str _) (.cons (.str _) .nil))

theorem cal__law_written (G : Gs P w K mg) (c_write_yard_deeds : Cal P w K mg base 5 "write_yard_deeds" (sp_write_deeds K)) : Cal P w K mg base (5 + 1) "_law_written" (sp_law_write K) := by
  refine mkCal G.d__law_written sc__law_written (fun _ _ _ _ _ _ us hl => match us, hl with | [_], _ => rfl) (fun vs H Q E h => ?_) (fun f cdv A outer s H vs Q E hr h => ?_)
  · obtain ⟨x, y, z, rfl, _⟩ := h; rfl
  · have tk : Takes (cxOf (L2.CX P w) P w K mg base N__law_written "_law_written" (defScope s__law_written) f cdv A outer s H E) (fun cls d _ H => E cls d H) := takes_of rfl rfl rfl rfl
    refine ⟨_, (pss_one (ps_try_as (i := 1) rfl rfl sc__law_written.nd rfl rfl ⟨rfl, by decide, .inl G.k_BadDeed⟩ tk
     (fun W pn xe tkt _ => (pss_one (ps_ret (pe_tup (pa_cons pe_str (pa_cons (pe_cal tkt c_write_yard_deeds (hr.mono (by first | decide | omega)) (by exact (pa_cons (pv 0) pa_nil))) pa_nil))))))
     (fun a oe cls d pn hz hf => (pss_one (ps_ret (pe_tup (pa_cons (pe_xfE hz hf (pv 1)) (pa_cons (pe_xfE hz hf (pv 1)) pa_nil)))))))), ?_⟩
    obtain ⟨p, xs, its, rfl, hp, hI, hl, q⟩ := h
    walk_at "vs"
    refine ⟨p, xs, its, rfl, hp, hI, hl, fun ok H1 e1 => ?_, fun i a it hv hit hb hall d H1 e1 nd => ?_⟩
    · walk_at "vs"
      refine vc_kT (Nat.le_of_ble_eq_true rfl) fun t nt => ?_
      walk_at "vs"
      refine q _ _ (e1.trans (Ex.new nt)) ?_
      rw [outW_ok ok]
      exact .tup upd_same (.cons (.str _) (.cons (.str _) .nil))
    · refine ⟨true, G.e_BadDeed_BadDeed, fun _ ea na => ?_, fun h => by cases h⟩
      obtain ⟨a', it', h1, h2, h3, _⟩ := hI.2 i _ hv
      cases h1
      rw [hit] at h2
      cases h2
      walk_at "vs"
      refine vc_xfE (xfB_ok G.x_BadDeed) G.r_BadDeed rfl upd_same rfl ?_
      walk_at "vs"
      refine vc_xfE (xfB_ok G.x_BadDeed) G.H_BadDeed.n_deed rfl upd_same rfl ?_
      walk_at "vs"
      refine vc_kT (Nat.le_of_ble_eq_true rfl) fun t nt => ?_
      walk_at "vs"
      refine q _ _ ((e1.trans (Ex.new nd)).trans (Ex.new nt)) ?_
      rw [outW_bad hit hb hall]
      exact .tup upd_same (.cons (.str _) (.cons (rp_item (lk_new nt (lk_new nd (e1 _ _ h3)))) .nil))

theorem cal__law_with_odd (G : Gs P w K mg) (c__law_draw : Cal P w K mg base 1 "_law_draw" sp_draw) (c__law_odd_line : Cal P w K mg base 1 "_law_odd_line" sp_odd_line) (c__law_odd_item : Cal P w K mg base 1 "_law_odd_item" sp_odd_item) : Cal P w K mg base (1 + 1) "_law_with_odd" sp_with_odd := by
  refine mkCal G.d__law_with_odd sc__law_with_odd (fun _ _ _ _ _ _ us hl => match us, hl with | [_, _, _, _], _ => rfl) (fun vs H Q E h => ?_) (fun f cdv A outer s H vs Q E hr h => ?_)
  · obtain ⟨x, y, z, w, b, B, rfl, _⟩ := h; rfl
  · have tk : Takes (cxOf (L2.CX P w) P w K mg base N__law_with_odd "_law_with_odd" (defScope s__law_with_odd) f cdv A outer s H E) (fun cls d _ H => E cls d H) := takes_of rfl rfl rfl rfl
    refine ⟨_, (pss_cons (ps_set (i := 4) sc__law_with_odd.nd rfl (Or.inl rfl) (pe_callTy call_listQ (by rfl) G.b_list (by decide +kernel) (pa_cons (pv 1) pa_nil)))
    (pss_cons (ps_for (passes_of rfl) rfl (pi_range1 rfl G.b_range (pa_cons (pe_op op_add pe_int (pe_cal tk c__law_draw (hr.mono (by first | decide | omega)) (by exact (pa_cons (pv 0) (pa_cons pe_int pa_nil))))) pa_nil)) (pg_name (i := 5) sc__law_with_odd.nd rfl (Or.inl rfl))
     (pss_cons (ps_set (i := 6) sc__law_with_odd.nd rfl (Or.inl rfl) (pe_cal tk c__law_draw (hr.mono (by first | decide | omega)) (by exact (pa_cons (pv 0) (pa_cons (pe_op op_add (pe_callB call_lenQ (by rfl) G.b_len (by decide +kernel) (pa_cons (pv 4) pa_nil)) pe_int) pa_nil)))))
     (pss_cons (ps_set (i := 7) sc__law_with_odd.nd rfl (Or.inl rfl) (pe_cal tk c__law_draw (hr.mono (by first | decide | omega)) (by exact (pa_cons (pv 0) (pa_cons (pv 2) pa_nil)))))
     (pss_one (ps_if (pt_val (pv 3))
      (pss_one (ps_expr (pe_bm PySem.F.plainAttrs_list PySem.F.slot_list_insert PySem.F.type_list_insert mt_insertQ (pv 4) (pa_cons (pv 6) (pa_cons (pe_cal tk c__law_odd_line (hr.mono (by first | decide | omega)) (by exact (pa_cons (pv 7) pa_nil))) pa_nil)))))
      (pss_one (ps_expr (pe_bm PySem.F.plainAttrs_list PySem.F.slot_list_insert PySem.F.type_list_insert mt_insertQ (pv 4) (pa_cons (pv 6) (pa_cons (pe_cal tk c__law_odd_item (hr.mono (by first | decide | omega)) (by exact (pa_cons (pv 7) pa_nil))) pa_nil))))))))))
    (pss_one (ps_ret (pv 4))))), ?_⟩
    obtain ⟨st, sc, p, xs, b, B, rfl, hd, hp, hB, hl, hT, q⟩ := h
    cases b with
    | true =>
      walk_at "vs"
      refine vc_listL (sqL hp) fun q0 nq => ?_
      have dq := hd.ex (Ex.new (o := .lst xs) nq)
      have q0s := hd.ne nq
      have q0c := hd.ne2 nq
      walk_at "vs"
      refine ⟨st, sc, 3, rfl, by decide, by decide, dq, fun r H1 r0 r1 hd1 eb1 => ?_⟩
      have hq1 : H1 q0 = some (.lst xs) := eb1 _ _ q0s upd_same
      have eb1 : ExB st H H1 := (ExB.of (Ex.new nq)).trans eb1
      walk_at "vs"
      refine vc_rL (by omega) (by omega) ?_
      refine lp_range0 (fun i σ' H' => ∃ (ys : List V) (u w1 w2 : Option V), σ' = [some (.ref st), some (.ref p), some (.int 19), some (.bl true), some (.ref q0), u, w1, w2] ∧ H' q0 = some (.lst ys) ∧ ys.length = xs.length + i ∧ (∀ v ∈ ys, TT true B H' v) ∧ Drw H' st sc ∧ ExB st H H') ⟨xs, none, none, none, rfl, hq1, rfl, fun v hv => TT.exB hd eb1 (hT v hv), hd1, eb1⟩ (fun i σ' H' hi ⟨ys, u, w1, w2, es, hq2, hly, hT2, hd2, eb2⟩ => ?_) (fun σ' H' ⟨ys, u, w1, w2, es, hq2, hly, hT2, hd2, eb2⟩ => ?_)
      · subst es
        walk_at "vs"
        refine ⟨st, sc, _, rfl, by omega, by omega, hd2, fun r3 H3 r30 r31 hd3 eb3 => ?_⟩
        have hq3 := eb3 _ _ q0s hq2
        walk_at "vs"
        refine ⟨st, sc, 19, rfl, by decide, by decide, hd3, fun r4 H4 r40 r41 hd4 eb4 => ?_⟩
        have hq4 := eb4 _ _ q0s hq3
        walk_at "vs"
        refine ⟨r4, rfl, r40, r41, fun y H5 hy e5 => ?_⟩
        walk_at "vs"
        have hq5 := e5 _ _ hq4
        have eb5 := (eb3.trans eb4).trans (ExB.of e5)
        refine vc_ins hq5 (sz_lt (by omega)) r30 (by omega) ?_
        walk_at "vs"
        refine ⟨ys.take r3.toNat ++ [.str y] ++ ys.drop r3.toNat, _, _, _, rfl, upd_same, ?_, fun v hv => ?_, (hd4.ex e5).mut q0s q0c, (eb2.trans eb5).mut nq⟩
        · simp only [List.length_append, List.length_take, List.length_drop, List.length_cons, List.length_nil]
          omega
        · rcases mem_ins hv with hv | rfl
          · exact (TT.exB hd2 eb5 (hT2 v hv)).put hq5
          · refine TT.put hq5 ?_
            exact ⟨y, rfl, by omega⟩
      · subst es
        walk_at "vs"
        exact q q0 ys H' nq hq2 (by omega) hT2 hd2 eb2
    | false =>
      walk_at "vs"
      refine vc_listL (sqL hp) fun q0 nq => ?_
      have dq := hd.ex (Ex.new (o := .lst xs) nq)
      have q0s := hd.ne nq
      have q0c := hd.ne2 nq
      walk_at "vs"
      refine ⟨st, sc, 3, rfl, by decide, by decide, dq, fun r H1 r0 r1 hd1 eb1 => ?_⟩
      have hq1 : H1 q0 = some (.lst xs) := eb1 _ _ q0s upd_same
      have eb1 : ExB st H H1 := (ExB.of (Ex.new nq)).trans eb1
      walk_at "vs"
      refine vc_rL (by omega) (by omega) ?_
      refine lp_range0 (fun i σ' H' => ∃ (ys : List V) (u w1 w2 : Option V), σ' = [some (.ref st), some (.ref p), some (.int 16), some (.bl false), some (.ref q0), u, w1, w2] ∧ H' q0 = some (.lst ys) ∧ ys.length = xs.length + i ∧ (∀ v ∈ ys, TT false B H' v) ∧ Drw H' st sc ∧ ExB st H H') ⟨xs, none, none, none, rfl, hq1, rfl, fun v hv => TT.exB hd eb1 (hT v hv), hd1, eb1⟩ (fun i σ' H' hi ⟨ys, u, w1, w2, es, hq2, hly, hT2, hd2, eb2⟩ => ?_) (fun σ' H' ⟨ys, u, w1, w2, es, hq2, hly, hT2, hd2, eb2⟩ => ?_)
      · subst es
        walk_at "vs"
        refine ⟨st, sc, _, rfl, by omega, by omega, hd2, fun r3 H3 r30 r31 hd3 eb3 => ?_⟩
        have hq3 := eb3 _ _ q0s hq2
        walk_at "vs"
        refine ⟨st, sc, 16, rfl, by decide, by decide, hd3, fun r4 H4 r40 r41 hd4 eb4 => ?_⟩
        have hq4 := eb4 _ _ q0s hq3
        walk_at "vs"
        refine ⟨r4, rfl, r40, r41, fun y H5 hy e5 => ?_⟩
        walk_at "vs"
        have hq5 := e5 _ _ hq4
        have eb5 := (eb3.trans eb4).trans (ExB.of e5)
        refine vc_ins hq5 (sz_lt (by omega)) r30 (by omega) ?_
        walk_at "vs"
        refine ⟨ys.take r3.toNat ++ [y] ++ ys.drop r3.toNat, _, _, _, rfl, upd_same, ?_, fun v hv => ?_, (hd4.ex e5).mut q0s q0c, (eb2.trans eb5).mut nq⟩
        · simp only [List.length_append, List.length_take, List.length_drop, List.length_cons, List.length_nil]
          omega
        · rcases mem_ins hv with hv | rfl
          · exact (TT.exB hd2 eb5 (hT2 v hv)).put hq5
          · refine TT.put hq5 ?_
            obtain ⟨a, zs, e1, h2, h3⟩ := hy
            obtain ⟨it, rfl, h4⟩ := itemB_ok h3
            exact ⟨a, it, e1, h2, by omega⟩
      · subst es
        walk_at "vs"
        exact q q0 ys H' nq hq2 (by omega) hT2 hd2 eb2

theorem cal__law_spoiled (G : Gs P w K mg) (c__law_draw : Cal P w K mg base 1 "_law_draw" sp_draw) : Cal P w K mg base (1 + 1) "_law_spoiled" sp_spoiled := by
  refine mkCal G.d__law_spoiled sc__law_spoiled (fun _ _ _ _ _ _ us hl => match us, hl with | [_, _], _ => rfl) (fun vs H Q E h => ?_) (fun f cdv A outer s H vs Q E hr h => ?_)
  · obtain ⟨x, y, z, rfl, _⟩ := h; rfl
  · have tk : Takes (cxOf (L2.CX P w) P w K mg base N__law_spoiled "_law_spoiled" (defScope s__law_spoiled) f cdv A outer s H E) (fun cls d _ H => E cls d H) := takes_of rfl rfl rfl rfl
    refine ⟨_, (pss_cons (ps_set (i := 2) sc__law_spoiled.nd rfl (Or.inl rfl) pe_str)
    (pss_cons (ps_set (i := 3) sc__law_spoiled.nd rfl (Or.inl rfl) (pe_cal tk c__law_draw (hr.mono (by first | decide | omega)) (by exact (pa_cons (pv 0) (pa_cons (pe_op op_add (pe_callB call_lenSQ (by rfl) G.b_len (by decide +kernel) (pa_cons (pv 1) pa_nil)) pe_int) pa_nil)))))
    (pss_cons (ps_set (i := 4) sc__law_spoiled.nd rfl (Or.inl rfl) (pe_ix ix_str (pv 2) (pe_cal tk c__law_draw (hr.mono (by first | decide | omega)) (by exact (pa_cons (pv 0) (pa_cons (pe_callB call_lenSQ (by rfl) G.b_len (by decide +kernel) (pa_cons (pv 2) pa_nil)) pa_nil)))) (fun _ _ => rfl)))
    (pss_cons (ps_set (i := 5) sc__law_spoiled.nd rfl (Or.inl rfl) (pe_cal tk c__law_draw (hr.mono (by first | decide | omega)) (by exact (pa_cons (pv 0) (pa_cons pe_int pa_nil)))))
    (pss_cons (ps_if (pt_cmpR op_eq (pv 5) pe_int (nomark _))
     (pss_one (ps_ret (pe_op op_addSQ (pe_op op_addSQ (pe_slice sl_str (pv 1) po_none (po_some (pv 3))) (pv 4)) (pe_slice sl_str (pv 1) (po_some (pv 3)) po_none))))
     pss_nil)
    (pss_cons (ps_if (pt_cmpR op_eq (pv 5) pe_int (nomark _))
     (pss_one (ps_ret (pe_op op_addSQ (pe_slice sl_str (pv 1) po_none (po_some (pv 3))) (pe_slice sl_str (pv 1) (po_some (pe_op op_add (pv 3) pe_int)) po_none))))
     pss_nil)
    (pss_cons (ps_if (pt_cmpR op_eq (pv 5) pe_int (nomark _))
     (pss_one (ps_ret (pe_op op_addSQ (pe_op op_addSQ (pe_slice sl_str (pv 1) po_none (po_some (pv 3))) (pv 4)) (pe_slice sl_str (pv 1) (po_some (pe_op op_add (pv 3) pe_int)) po_none))))
     pss_nil)
    (pss_cons (ps_if (pt_cmpR op_eq (pv 5) pe_int (nomark _))
     (pss_one (ps_ret (pe_op op_addSQ (pv 1) pe_str)))
     pss_nil)
    (pss_cons (ps_if (pt_cmpR op_eq (pv 5) pe_int (nomark _))
     (pss_one (ps_ret (pe_slice sl_str (pv 1) po_none (po_some (pv 3)))))
     pss_nil)
    (pss_cons (ps_set (i := 6) sc__law_spoiled.nd rfl (Or.inl rfl) (pe_splitQ (pv 1) pe_str))
    (pss_cons (ps_set (i := 7) sc__law_spoiled.nd rfl (Or.inl rfl) (pe_ix ix_list (pv 6) (pe_op op_mod (pe_callTy call_intQ (by rfl) G.b_int (by decide +kernel) (pa_cons (pv 3) pa_nil)) (pe_callB call_lenQ (by rfl) G.b_len (by decide +kernel) (pa_cons (pv 6) pa_nil))) (fun _ _ => rfl)))
    (pss_cons (ps_expr (pe_bm PySem.F.plainAttrs_list PySem.F.slot_list_insert PySem.F.type_list_insert mt_insertQ (pv 6) (pa_cons (pe_op op_mod (pe_callTy call_intQ (by rfl) G.b_int (by decide +kernel) (pa_cons (pe_cal tk c__law_draw (hr.mono (by first | decide | omega)) (by exact (pa_cons (pv 0) (pa_cons pe_int pa_nil)))) pa_nil)) (pe_op op_add (pe_callB call_lenQ (by rfl) G.b_len (by decide +kernel) (pa_cons (pv 6) pa_nil)) pe_int)) (pa_cons (pv 7) pa_nil))))
    (pss_one (ps_ret (pe_joinQ pe_str (pv 6)))))))))))))))), ?_⟩
    obtain ⟨st, sc, x, rfl, hd, hx, q⟩ := h
    have hz : sizeLine = 16777216 := rfl
    have hx2 : x.length ≤ sizeLine := Nat.le_trans hx (by decide)
    have hs : ("0123456789+ ;abeigklnrtuvwxyzEL-~.\n" : Str).length ≤ sizeLine := by decide +kernel
    walk_at "vs"
    refine ⟨st, sc, _, rfl, by omega, by omega, hd, fun pl H1 p0 p1 hd1 eb1 => ?_⟩
    walk_at "vs"
    refine ⟨st, sc, _, rfl, by decide +kernel, by decide +kernel, hd1, fun r H2 r0 r1 hd2 eb2 => ?_⟩
    obtain ⟨c, hc, _, _⟩ := atI_ex (xs := ("0123456789+ ;abeigklnrtuvwxyzEL-~.\n" : Str).cps.toList) r0 (Int.lt_of_lt_of_le r1 (by rw [len_tl]; exact Int.le_refl _))
    refine vc_ixS hs hc ?_
    have eb2 := eb1.trans eb2
    walk_at "vs"
    refine ⟨st, sc, 6, rfl, by decide, by decide, hd2, fun r H3 r0 r1 hd3 eb3 => ?_⟩
    have eb3 := eb2.trans eb3
    have c1 : (⟨#[c]⟩ : Str).length = 1 := rfl
    have hcut : ∀ lo hi, (cutS x lo hi).length ≤ x.length := fun lo hi => cutS_len
    walk_at "vs"
    refine vc_ifd (fun _ => ?_) (fun _ => ?_) <;> walk_at "vs"
    · have h1 := hcut none (some pl)
      have h2 := hcut (some pl) none
      refine vc_addS (by omega) ?_
      walk_at "vs"
      refine vc_addS (by rw [add_len]; omega) ?_
      walk_at "vs"
      exact q _ _ (by rw [add_len, add_len]; omega) hd3 eb3
    refine vc_ifd (fun _ => ?_) (fun _ => ?_) <;> walk_at "vs"
    · have h1 := hcut none (some pl)
      have h2 := hcut (some (pl + 1)) none
      refine vc_addS (by omega) ?_
      walk_at "vs"
      exact q _ _ (by rw [add_len]; omega) hd3 eb3
    refine vc_ifd (fun _ => ?_) (fun _ => ?_) <;> walk_at "vs"
    · have h1 := hcut none (some pl)
      have h2 := hcut (some (pl + 1)) none
      refine vc_addS (by omega) ?_
      walk_at "vs"
      refine vc_addS (by rw [add_len]; omega) ?_
      walk_at "vs"
      exact q _ _ (by rw [add_len, add_len]; omega) hd3 eb3
    refine vc_ifd (fun _ => ?_) (fun _ => ?_) <;> walk_at "vs"
    · have h1 : ("\n" : Str).length = 1 := by decide +kernel
      refine vc_addS (by omega) ?_
      walk_at "vs"
      exact q _ _ (by rw [add_len]; omega) hd3 eb3
    refine vc_ifd (fun _ => ?_) (fun _ => ?_) <;> walk_at "vs"
    · have h1 := hcut none (some pl)
      exact q _ _ (by omega) hd3 eb3
    obtain ⟨y, ws, hw⟩ := split_ne (x := x) sp_nl.1 sp_nl.2
    have hsum := split_sum (x := x) sp_nl.1 sp_nl.2
    obtain ⟨hc2, hle⟩ := split_le (x := x) sp_nl.1 sp_nl.2
    have hpos : 0 < (Txt.split x "\n").length := by rw [hw]; simp
    refine vc_split rfl (by omega) fun p np => ?_
    have hps := hd3.ne np
    have hpc := hd3.ne2 np
    have np0 := hd3.fresh eb3 np
    have hd4 := hd3.ex (Ex.new (o := .lst ((Txt.split x "\n").map V.str)) np)
    have eb4 : ExB st H (upd H3 p (.lst ((Txt.split x "\n").map V.str))) := eb3.new np
    have hp4 : (upd H3 p (.lst ((Txt.split x "\n").map V.str))) p = some (.lst ((Txt.split x "\n").map V.str)) := upd_same
    have hl : ((Txt.split x "\n").map V.str).length = (Txt.split x "\n").length := by simp
    generalize (upd H3 p (.lst ((Txt.split x "\n").map V.str))) = H4 at *
    generalize Txt.split x "\n" = L at *
    walk_at "vs"
    rw [hl]
    refine vc_I (show (0 : Int) < (L.length : Nat) by omega) ?_
    have hm0 : 0 ≤ pl % (L.length : Nat) := Int.emod_nonneg _ (by omega)
    have hm1 : pl % (L.length : Nat) < (L.length : Nat) := Int.emod_lt_of_pos _ (by omega)
    obtain ⟨v, hv, _, hvm⟩ := atI_ex (xs := L.map V.str) hm0 (by rw [hl]; exact hm1)
    obtain ⟨z, hz, rfl⟩ := List.mem_map.mp hvm
    refine vc_ixL (sqL hp4) hv ?_
    walk_at "vs"
    refine ⟨st, sc, 64, rfl, by decide, by decide, hd4, fun r5 H5 r50 r51 hd5 eb5 => ?_⟩
    have hp5 := eb5 _ _ hps hp4
    walk_at "vs"
    rw [hl]
    refine vc_I (show (0 : Int) < (L.length : Nat) + 1 by omega) ?_
    have hk0 : 0 ≤ r5 % ((L.length : Nat) + 1 : Int) := Int.emod_nonneg _ (by omega)
    have hk1 : r5 % ((L.length : Nat) + 1 : Int) < (L.length : Nat) + 1 := Int.emod_lt_of_pos _ (by omega)
    walk_at "vs"
    refine vc_ins hp5 (by rw [hl]; omega) hk0 (by omega) ?_
    walk_at "vs"
    have hz2 := hle z hz
    have e6 : (L.map V.str).take (r5 % ((L.length : Nat) + 1 : Int)).toNat ++ [V.str z] ++ (L.map V.str).drop (r5 % ((L.length : Nat) + 1 : Int)).toNat = (L.take (r5 % ((L.length : Nat) + 1 : Int)).toNat ++ [z] ++ L.drop (r5 % ((L.length : Nat) + 1 : Int)).toNat).map V.str := by
      rw [List.map_append, List.map_append, List.map_take, List.map_drop]
      rfl
    have h7 := sum_ins (ys := L) (k := (r5 % ((L.length : Nat) + 1 : Int)).toNat) (y := z)
    have h8 : (L.take (r5 % ((L.length : Nat) + 1 : Int)).toNat ++ [z] ++ L.drop (r5 % ((L.length : Nat) + 1 : Int)).toNat).length = L.length + 1 := by
      simp only [List.length_append, List.length_take, List.length_drop, List.length_cons, List.length_nil]
      omega
    have h9 : ("\n" : Str).length = 1 := by decide +kernel
    have h10 := join_len "\n" (L.take (r5 % ((L.length : Nat) + 1 : Int)).toNat ++ [z] ++ L.drop (r5 % ((L.length : Nat) + 1 : Int)).toNat)
    rw [h7, h8, h9] at h10
    refine vc_join (sqL (by rw [← e6]; exact upd_same)) (by rw [h7, h8, h9]; omega) ?_
    walk_at "vs"
    exact q _ _ (by omega) (hd5.mut hps hpc) ((eb4.trans eb5).mut np0)

theorem fn_law (G : Gs P w K mg) (c__law_start : Cal P w K mg base 1 "_law_start" (sp_start K)) (c__law_draw : Cal P w K mg base 1 "_law_draw" sp_draw) (c__law_text_deed : Cal P w K mg base 2 "_law_text_deed" sp_text_deed) (c__law_deed_line : Cal P w K mg base 1 "_law_deed_line" sp_ldeed_text) (c__law_spoiled : Cal P w K mg base 2 "_law_spoiled" sp_spoiled) (c__law_read : Cal P w K mg base 7 "_law_read" sp_law_read) (c__law_read_due : Cal P w K mg base 3 "_law_read_due" sp_law_read) (c__law_with_odd : Cal P w K mg base 2 "_law_with_odd" sp_with_odd) (c__law_written : Cal P w K mg base 6 "_law_written" (sp_law_write K)) (c__law_write_due : Cal P w K mg base 2 "_law_write_due" (sp_law_write K)) (c_read_yard_deeds : Cal P w K mg base 6 "read_yard_deeds" (sp_read_deeds K)) (c__law_same : Cal P w K mg base 5 "_law_same" (sp_same 3)) {f : Addr} {fd : FuncData} (F : FunD K "law" "law" (defArgs s_law) (defBody s_law) (defScope s_law) [] [] f fd) : FnOk P w K mg base (L2.CX P w) (8 + 1) f fd ["script"] (sp_law K) := by
  refine F.ok sc_law (fun vs H Q E h => ?_) (fun cdv A outer s H vs Q E hr h => ?_)
  · obtain ⟨x, y, rfl, _⟩ := h; rfl
  · have tk : Takes (cxOf (L2.CX P w) P w K mg base N_law "law" (defScope s_law) f cdv A outer s H E) (fun cls d _ H => E cls d H) := takes_of rfl rfl rfl rfl
    refine ⟨_, (pss_cons (ps_set (i := 1) sc_law.nd rfl (Or.inr rfl) (pe_cal tk c__law_start (hr.mono (by first | decide | omega)) (by exact (pa_cons (pv 0) pa_nil))))
    (pss_cons (ps_setLcX (i := 2) (own := [("k", 8)]) (g := gName 8) (tt := tYes) rfl rfl tk rfl sc_law.nd rfl rfl (sw_true rfl rfl rfl (by decide +kernel)) (pi_range1 rfl G.b_range (pa_cons (pe_op op_sub pe_int (pe_cal tk c__law_draw (hr.mono (by first | decide | omega)) (by exact (pa_cons (pv 1) (pa_cons pe_int pa_nil))))) pa_nil)) (blkOk_by (own := [("k", 8)]) (N := N_law) (sc := defScope s_law) (by decide +kernel)) (fun _ _ _ _ _ _ => (pg_name (i := 8) sc_law.nd rfl (Or.inl rfl))) (fun _ _ _ _ _ _ => pts_nil) (fun _ _ _ _ _ _ tkb => (pe_cal tkb c__law_text_deed (hr.mono (by first | decide | omega)) (by exact (pa_cons (pv 1) pa_nil)))))
    (pss_cons (ps_setLcX (i := 3) (own := [("deed", 12)]) (g := gName 12) (tt := tYes) rfl rfl tk rfl sc_law.nd rfl rfl (sw_true rfl rfl rfl (by decide +kernel)) (pi_list (pv 2)) (blkOk_by (own := [("deed", 12)]) (N := N_law) (sc := defScope s_law) (by decide +kernel)) (fun _ _ _ _ _ _ => (pg_name (i := 12) sc_law.nd rfl (Or.inl rfl))) (fun _ _ _ _ _ _ => pts_nil) (fun _ _ _ _ _ _ tkb => (pe_cal tkb c__law_deed_line (hr.mono (by first | decide | omega)) (by exact (pa_cons (pv 12) pa_nil)))))
    (pss_cons (ps_set (i := 4) sc_law.nd rfl (Or.inl rfl) (pe_joinQ pe_str (pv 3)))
    (pss_cons (ps_set (i := 5) sc_law.nd rfl (Or.inl rfl) (pe_callTy call_listQ (by rfl) G.b_list (by decide +kernel) (pa_cons (pv 2) pa_nil)))
    (pss_cons (ps_if (PW.pt (pw_or (pt_not (pt_val (pe_cal tk c__law_same (hr.mono (by first | decide | omega)) (by exact (pa_cons (pe_cal tk c__law_written (hr.mono (by first | decide | omega)) (by exact (pa_cons (pv 5) pa_nil))) (pa_cons (pe_tup (pa_cons pe_str (pa_cons (pv 4) pa_nil))) pa_nil)))))) (pw_or1 (pt_not (pt_val (pe_cal tk c__law_same (hr.mono (by first | decide | omega)) (by exact (pa_cons (pv 5) (pa_cons (pv 2) pa_nil)))))))))
     (pss_one (ps_ret pe_bl))
     pss_nil)
    (pss_cons (ps_set (i := 6) sc_law.nd rfl (Or.inl rfl) (pe_cal tk c_read_yard_deeds (hr.mono (by first | decide | omega)) (by exact (pa_cons (pv 4) pa_nil))))
    (pss_cons (ps_if (pt_not (pt_val (pe_cal tk c__law_same (hr.mono (by first | decide | omega)) (by exact (pa_cons (pv 6) (pa_cons (pv 2) pa_nil))))))
     (pss_one (ps_ret pe_bl))
     pss_nil)
    (pss_cons (ps_expr (pe_bm PySem.F.plainAttrs_list PySem.F.slot_list_append PySem.F.type_list_append mt_append (pv 6) (pa_cons (pe_tup (pa_cons pe_str (pa_cons pe_int pa_nil))) pa_nil)))
    (pss_cons (ps_if (pt_not (pt_val (pe_cal tk c__law_same (hr.mono (by first | decide | omega)) (by exact (pa_cons (pe_cal tk c__law_read (hr.mono (by first | decide | omega)) (by exact (pa_cons (pv 4) pa_nil))) (pa_cons (pe_tup (pa_cons pe_str (pa_cons (pv 2) pa_nil))) pa_nil))))))
     (pss_one (ps_ret pe_bl))
     pss_nil)
    (pss_cons (ps_set (i := 7) sc_law.nd rfl (Or.inl rfl) (pv 4))
    (pss_cons (ps_for (passes_of rfl) rfl (pi_range1 rfl G.b_range (pa_cons (pe_op op_add pe_int (pe_cal tk c__law_draw (hr.mono (by first | decide | omega)) (by exact (pa_cons (pv 1) (pa_cons pe_int pa_nil))))) pa_nil)) (pg_name (i := 8) sc_law.nd rfl (Or.inl rfl))
     (pss_one (ps_set (i := 7) sc_law.nd rfl (Or.inl rfl) (pe_cal tk c__law_spoiled (hr.mono (by first | decide | omega)) (by exact (pa_cons (pv 1) (pa_cons (pv 7) pa_nil)))))))
    (pss_cons (ps_set (i := 9) sc_law.nd rfl (Or.inl rfl) (pe_joinQ pe_str (pe_cal tk c__law_with_odd (hr.mono (by first | decide | omega)) (by exact (pa_cons (pv 1) (pa_cons (pv 3) (pa_cons pe_int (pa_cons pe_bl pa_nil))))))))
    (pss_cons (ps_for (passes_of rfl) rfl (pi_list (pe_lst (pa_cons (pv 7) (pa_cons (pv 9) (pa_cons (pe_op op_addSQ (pv 4) pe_str) (pa_cons pe_str pa_nil)))))) (pg_name (i := 10) sc_law.nd rfl (Or.inl rfl))
     (pss_one (ps_if (pt_not (pt_val (pe_cal tk c__law_same (hr.mono (by first | decide | omega)) (by exact (pa_cons (pe_cal tk c__law_read (hr.mono (by first | decide | omega)) (by exact (pa_cons (pv 10) pa_nil))) (pa_cons (pe_cal tk c__law_read_due (hr.mono (by first | decide | omega)) (by exact (pa_cons (pv 10) pa_nil))) pa_nil))))))
      (pss_one (ps_ret pe_bl))
      pss_nil)))
    (pss_cons (ps_set (i := 11) sc_law.nd rfl (Or.inl rfl) (pe_cal tk c__law_with_odd (hr.mono (by first | decide | omega)) (by exact (pa_cons (pv 1) (pa_cons (pv 2) (pa_cons pe_int (pa_cons pe_bl pa_nil)))))))
    (pss_cons (ps_set (i := 5) sc_law.nd rfl (Or.inl rfl) (pe_callTy call_listQ (by rfl) G.b_list (by decide +kernel) (pa_cons (pv 11) pa_nil)))
    (pss_one (ps_ret (pe_and (pe_cal tk c__law_same (hr.mono (by first | decide | omega)) (by exact (pa_cons (pe_cal tk c__law_written (hr.mono (by first | decide | omega)) (by exact (pa_cons (pv 5) pa_nil))) (pa_cons (pe_cal tk c__law_write_due (hr.mono (by first | decide | omega)) (by exact (pa_cons (pv 11) pa_nil))) pa_nil)))) (pe_one (pe_cal tk c__law_same (hr.mono (by first | decide | omega)) (by exact (pa_cons (pv 5) (pa_cons (pv 11) pa_nil)))))))))))))))))))))))), ?_⟩
    obtain ⟨a, ns, rfl, ha, q⟩ := h
    walk_at "vs"
    refine ⟨a, ns, rfl, ha, fun st sc H1 e1 nst nsc hd1 => ?_⟩
    walk_at "vs"
    refine ⟨st, sc, 13, rfl, by decide, by decide, hd1, fun r H2 r0 r1 hd2 eb2 => ?_⟩
    walk_at "vs"
    refine vc_rC (by omega) (by omega) ?_
    intro D nD
    have hDs := hd2.ne nD
    have hDc := hd2.ne2 nD
    refine lc_rangeQ (fun i H3 => ∃ as ds, H3 D = some (.lst as) ∧ TupsAt H3 as ds ∧ ds.length = i ∧ (∀ d ∈ ds, okI (some d) = true ∧ d.2.length ≤ 50) ∧ Drw H3 st sc) ⟨[], [], upd_same, .nil, rfl, fun _ h => by simp at h, hd2.ex (Ex.new nD)⟩ (fun i H3 hi ⟨as, ds, hD, ht, hl, hok, hd3⟩ => ?_) (fun H3 ⟨as, ds, hD, ht, hl, hok, hd3⟩ => ?_)
    · walk_at "vs"
      refine ⟨st, sc, rfl, hd3, fun p x ms H4 h1 h2 np hp hd4 eb4 => ?_⟩
      have hD4 := eb4 _ _ hDs hD
      have ht4 := ht.exB hd3 eb4
      refine ⟨as, hD4, sz_lt (by rw [ht.1, hl]; omega), as ++ [.ref p], ds ++ [(x, ms)], upd_same, (ht4.snoc hp).put hD4, by simp [hl], fun d hd => ?_, hd4.mut hDs hDc⟩
      rcases List.mem_append.mp hd with hd | hd
      · exact hok d hd
      · rw [List.mem_singleton.mp hd]
        exact ⟨h1, by show ms.length ≤ 50; omega⟩
    have hds : okDs ds := ⟨by omega, hok⟩
    walk_at "vs"
    intro L nL
    have hLs := hd3.ne nL
    refine lc_listQ (xs := as) (fun i H4 => Ex H3 H4 ∧ H4 L = some (.lst (((ds.take i).map fun d => txI (some d)).map V.str))) ⟨Ex.new nL, upd_same⟩ (fun i H4 _ q => sqL (q.1 _ _ hD)) (fun i v H4 hv ⟨e4, hL⟩ => ?_) (fun H4 ⟨e4, hL⟩ => ?_)
    · obtain ⟨b, d, rfl, hd, hb⟩ := ht.2 i v hv
      have hok1 := hok d (List.mem_of_getElem? hd)
      obtain ⟨h1, h2⟩ := okI_parts hok1.1
      walk_at "vs"
      refine ⟨b, d.1, d.2, rfl, e4 _ _ hb, isD_len h1, by omega, h2, fun H5 e5 => ?_⟩
      refine ⟨_, e5 _ _ hL, sz_lt (by simp; omega), Ex.mut (e4.trans e5) nL, ?_⟩
      rw [upd_same, List.take_add_one, hd]
      simp
    rw [ht.1, List.take_length] at hL
    have eL : (ds.map fun d => txI (some d)) = (ds.map some).map txI := by rw [List.map_map]; rfl
    rw [eL] at hL
    have hwr := wr_len hds
    have hLb : ∀ y ∈ (ds.map some).map txI, y.length ≤ 1000 := fun y hy => by
      obtain ⟨it, hm, rfl⟩ := List.mem_map.mp hy
      obtain ⟨d, hd, rfl⟩ := List.mem_map.mp hm
      exact txI_len (hds.2 d hd).1 (by have := (hds.2 d hd).2; simp [itV]; omega)
    have hn1 : ("\n" : Str).length = 1 := by decide +kernel
    have hsum := sum_le hLb
    have hLl : ((ds.map some).map txI).length = ds.length := by simp
    walk_at "vs"
    refine vc_join (ys := (ds.map some).map txI) (sqL hL) (by rw [hn1]; omega) ?_
    walk_at "vs"
    have hI := ht.items fun d hd => by have := (hds.2 d hd).2; omega
    have hlen : (ds.map some).length ≤ 100 := by have := hds.1; simp; omega
    have hback := read_back fun d hd => (hds.2 d hd).1
    have hok2 : ∀ (j : Nat) jt, (ds.map some)[j]? = some jt → okI jt = true := fun j jt hj => by
      rw [List.getElem?_map, Option.map_eq_some_iff] at hj
      obtain ⟨d, hd, rfl⟩ := hj
      exact (hds.2 d (List.mem_of_getElem? hd)).1
    have hD4 := e4 _ _ hD
    have ht4 := ht.ex e4
    have hd4 := hd3.ex e4
    refine vc_listL (sqL hD4) fun g0 ng => ?_
    have e5 : Ex H4 (upd H4 g0 (.lst as)) := Ex.new ng
    have hg5 : (upd H4 g0 (.lst as)) g0 = some (.lst as) := upd_same
    generalize (upd H4 g0 (.lst as)) = H5 at *
    walk_at "vs"
    refine ⟨g0, as, _, rfl, sqL hg5, hI.ex (e4.trans e5), hlen, fun v1 H6 e6 rv1 => ?_⟩
    rw [outW_ok hok2] at rv1
    walk_at "vs"
    refine vc_kT (Nat.le_of_ble_eq_true rfl) fun t1 nt1 => ?_
    have e7 : Ex H6 (upd H6 t1 (.tup [.str "text", .str (Txt.join "\n" ((ds.map some).map txI))])) := Ex.new nt1
    have ht7 : (upd H6 t1 (.tup [.str "text", .str (Txt.join "\n" ((ds.map some).map txI))])) t1 = some (.tup [.str "text", .str (Txt.join "\n" ((ds.map some).map txI))]) := upd_same
    generalize (upd H6 t1 (.tup [.str "text", .str (Txt.join "\n" ((ds.map some).map txI))])) = H7 at *
    walk_at "vs"
    have dz := dsz_outW (its := ds.map some) hI.sz
    rw [outW_ok hok2] at dz
    refine ⟨_, _, _, rfl, dz, rv1.ex e7, .tup ht7 (.cons (.str _) (.cons (.str _) .nil)), fun H8 e8 => ?_⟩
    have eA := ((e5.trans e6).trans e7).trans e8
    walk_at "vs"
    refine ⟨_, _, _, rfl, dsz_ds hds, .lst (e8 _ _ (e7 _ _ (e6 _ _ hg5))) (ht4.ex eA).rpa, .lst (eA _ _ hD4) (ht4.ex eA).rpa, fun H9 e9 => ?_⟩
    have eB := eA.trans e9
    walk_at "vs"
    refine ⟨_, rfl, Nat.le_trans hwr (by decide), fun ds2 hd2 t ts H10 e10 nt htt hts => ?_, fun j hj _ => ?_⟩
    rotate_left
    · have hj : (((rows (wrT (ds.map some))).map parse))[j]? = some none := hj
      rw [hback, List.getElem?_map, Option.map_eq_some_iff] at hj
      obtain ⟨_, _, hj⟩ := hj
      cases hj
    have hd2 : (rows (wrT (ds.map some))).map parse = ds2.map some := hd2
    rw [hback] at hd2
    have hd3' := sn_inj hd2
    subst hd3'
    have eC := eB.trans e10
    walk_at "vs"
    refine ⟨_, _, _, rfl, dsz_ds hds, .lst htt hts.rpa, .lst (eC _ _ hD4) (ht4.ex eC).rpa, fun H11 e11 => ?_⟩
    have eD := eC.trans e11
    have htt := e11 _ _ htt
    walk_at "vs"
    refine vc_kT (Nat.le_of_ble_eq_true rfl) fun r1 nr => ?_
    walk_at "vs"
    have hlt : ts.length ≤ 20 := by rw [hts.1]; exact hds.1
    refine vc_app (lk_new nr htt) (sz_lt (by omega)) ?_
    walk_at "vs"
    have nt0 : H4 t = none := Evl.fresh_back eB nt
    have eE : Ex H4 (upd (upd H11 r1 (.tup [.str "end", .int 0])) t (.lst (ts ++ [.ref r1]))) := (eD.trans (Ex.new nr)).mut nt0
    generalize (upd (upd H11 r1 (.tup [.str "end", .int 0])) t (.lst (ts ++ [.ref r1]))) = H12 at *
    refine ⟨_, rfl, Nat.le_trans hwr (by decide), fun v2 H13 e13 rv2 => ?_⟩
    have rv2 : Rp H13 v2 (outR (wrT (ds.map some))) := rv2
    rw [outR_ok hback] at rv2
    walk_at "vs"
    refine vc_kT (Nat.le_of_ble_eq_true rfl) fun s2 ns2 => ?_
    have eF := (eE.trans e13).trans (Ex.new (o := .tup [.str "read", .ref D]) ns2)
    walk_at "vs"
    have dz2 := dsz_outR (x := wrT (ds.map some)) (by omega)
    rw [outR_ok hback] at dz2
    refine ⟨_, _, _, rfl, dz2, rv2.ex (Ex.new ns2), .tup upd_same (.cons (.str _) (.cons (.lst (eF _ _ hD4) (ht4.ex eF).rpa) .nil)), fun H14 e14 => ?_⟩
    have eG := eF.trans e14
    have hd5 := hd4.ex eG
    have hL5 := eG _ _ hL
    have hD5 := eG _ _ hD4
    have ht5 := ht4.ex eG
    walk_at "vs"
    refine ⟨st, sc, 2, rfl, by decide, by decide, hd5, fun r2 H15 r20 r21 hd6 eb6 => ?_⟩
    have hL6 := eb6 _ _ hLs hL5
    have hD6 := eb6 _ _ hDs hD5
    have ht6 := ht5.exB hd5 eb6
    walk_at "vs"
    refine vc_rL (by omega) (by omega) ?_
    refine lp_range0 (fun i σ' H7 => ∃ (y : Str) (u : Option V), σ' = [some (.ref a), some (.ref st), some (.ref D), some (.ref L), some (.str (wrT (ds.map some))), some (.ref g0), some (.ref t), some (.str y), u, none, none, none, none] ∧ (i = 0 → y.length ≤ 30000) ∧ (i ≤ 1 → y.length ≤ 60002) ∧ y.length ≤ 120006 ∧ Drw H7 st sc ∧ ExB st H15 H7) ⟨wrT (ds.map some), none, rfl, fun _ => hwr, fun _ => by omega, by omega, hd6, ExB.refl _ _⟩ (fun i σ' H7 hi ⟨y, u, es, y0, y1, y2, hd7, eb7⟩ => ?_) (fun σ' H7 ⟨y, u, es, y0, y1, y2, hd7, eb7⟩ => ?_)
    · subst es
      walk_at "vs"
      refine ⟨st, sc, y, rfl, hd7, by omega, fun z H8 hz hd8 eb8 => ?_⟩
      walk_at "vs"
      exact ⟨z, _, rfl, by omega, by omega, by omega, hd8, eb7.trans eb8⟩
    subst es
    have hL9 := eb7 _ _ hLs hL6
    have hD9 := eb7 _ _ hDs hD6
    have ht9 := ht6.exB hd6 eb7
    walk_at "vs"
    refine ⟨st, sc, L, _, true, 1000, rfl, hd7, hL9, by decide, by simp; omega, fun v hv => ?_, fun q1 ys H10 nq1 hq1 hly hT hd10 eb10 => ?_⟩
    · obtain ⟨z, hz, rfl⟩ := List.mem_map.mp hv
      exact ⟨z, rfl, hLb z hz⟩
    obtain ⟨zs, rfl, hzs⟩ := tt_strs hT
    have hzl : zs.length ≤ ds.length + 3 := by simp at hly; omega
    have hsum2 := sum_le hzs
    have hj := join_len "\n" zs
    rw [hn1] at hj
    have hD10 := eb10 _ _ hDs hD9
    have ht10 := ht9.exB hd7 eb10
    walk_at "vs"
    refine vc_join (sqL hq1) (by rw [hn1]; omega) ?_
    walk_at "vs"
    refine vc_addS (by rw [hn1]; have : sizeLine = 16777216 := rfl; omega) ?_
    walk_at "vs"
    refine vc_kL (Nat.le_of_ble_eq_true rfl) fun o1 no1 => ?_
    have eH : Ex H10 (upd H10 o1 (.lst [.str y, .str (Txt.join "\n" zs), .str (wrT (ds.map some) ++ "\n"), .str ""])) := Ex.new no1
    have ho : (upd H10 o1 (.lst [.str y, .str (Txt.join "\n" zs), .str (wrT (ds.map some) ++ "\n"), .str ""])) o1 = some (.lst ([y, Txt.join "\n" zs, wrT (ds.map some) ++ "\n", ""].map V.str)) := upd_same
    have hall : ∀ z ∈ ([y, Txt.join "\n" zs, wrT (ds.map some) ++ "\n", ""] : List Str), z.length ≤ 200000 := by
      intro z hz
      simp only [List.mem_cons, List.not_mem_nil, or_false] at hz
      rcases hz with rfl | rfl | rfl | rfl
      · omega
      · omega
      · rw [add_len, hn1]; omega
      · decide +kernel
    generalize ([y, Txt.join "\n" zs, wrT (ds.map some) ++ "\n", ""] : List Str) = zz at *
    generalize (upd H10 o1 (.lst [.str y, .str (Txt.join "\n" zs), .str (wrT (ds.map some) ++ "\n"), .str ""])) = H16 at *
    walk_at "vs"
    refine lp_list (xs := zz.map V.str) (fun i σ' H7 => (∃ u2, σ' = [some (.ref a), some (.ref st), some (.ref D), some (.ref L), some (.str (wrT (ds.map some))), some (.ref g0), some (.ref t), some (.str y), u, some (.str (Txt.join "\n" zs)), u2, none, none]) ∧ Ex H16 H7) ⟨⟨none, rfl⟩, Ex.refl _⟩ (fun i σ' H7 _ q => sqL (q.2 _ _ ho)) (fun i v σ' H7 hv ⟨⟨u2, es⟩, e17⟩ => ?_) (fun σ' H7 ⟨⟨u2, es⟩, e17⟩ => ?_)
    · subst es
      rw [List.getElem?_map, Option.map_eq_some_iff] at hv
      obtain ⟨z, hz, rfl⟩ := hv
      have hzl := hall z (List.mem_of_getElem? hz)
      walk_at "vs"
      refine ⟨z, rfl, by omega, fun v1 H8 e18 rv1 => ?_⟩
      walk_at "vs"
      refine ⟨z, rfl, by omega, fun v2 H9 e19 rv2 => ?_⟩
      walk_at "vs"
      refine ⟨_, _, _, rfl, dsz_outR (by omega), rv1.ex e19, rv2, fun H20 e20 => ?_⟩
      walk_at "vs"
      exact ⟨⟨_, rfl⟩, ((e17.trans e18).trans e19).trans e20⟩
    subst es
    have eI := eH.trans e17
    have hd12 := hd10.ex eI
    have hD12 := eI _ _ hD10
    have ht12 := ht10.ex eI
    walk_at "vs"
    refine ⟨st, sc, D, as, false, 20, rfl, hd12, hD12, by decide, by rw [ht12.1]; omega, fun v hv => ?_, fun q2 ys H13 nq2 hq2 hly2 hT2 hd13 eb13 => ?_⟩
    · obtain ⟨j, hj, e⟩ := List.getElem_of_mem hv
      obtain ⟨b, d, h1, h2, h3⟩ := ht12.2 j v (by rw [← e]; exact List.getElem?_eq_getElem hj)
      exact ⟨b, some d, h1, h3, by have := (hok d (List.mem_of_getElem? h2)).2; simp [itV]; omega⟩
    obtain ⟨its, hI⟩ := tt_items hT2
    have hil : its.length ≤ 100 := by rw [← hI.1]; have := ht12.1; omega
    walk_at "vs"
    refine vc_listL (sqL hq2) fun g ng => ?_
    have hI2 := hI.ex (Ex.new (o := .lst ys) ng)
    have hq3 := lk_new (u := .lst ys) ng hq2
    have hg3 : (upd H13 g (.lst ys)) g = some (.lst ys) := upd_same
    generalize (upd H13 g (.lst ys)) = H14 at *
    walk_at "vs"
    refine ⟨g, ys, its, rfl, sqL hg3, hI2, hil, fun v5 H15 e15 rv5 => ?_⟩
    walk_at "vs"
    refine ⟨q2, ys, its, rfl, sqL (e15 _ _ hq3), hI2.ex e15, hil, fun v6 H16 e16 rv6 => ?_⟩
    walk_at "vs"
    refine ⟨v5, v6, _, rfl, dsz_outW hI.sz, rv5.ex e16, rv6, fun H17 e17 => ?_⟩
    have e17 := (e15.trans e16).trans e17
    walk_at "vs"
    refine ⟨_, _, .lst (its.map dtItem), rfl, ?_, .lst (e17 _ _ hg3) (hI2.ex e17).rpa, .lst (e17 _ _ hq3) (hI2.ex e17).rpa, fun H18 _ => ?_⟩
    · refine Dsz.up (Dsz.l (by simp; omega) fun d hd => ?_)
      obtain ⟨it, hm, rfl⟩ := List.mem_map.mp hd
      exact dsz_item (hI.sz it hm)
    walk_at "vs"
    exact q H18
theorem same_all (G : Gs P w K mg) (c : Cal P w K mg base 1 "_law_is_number" sp_is_number) : ∀ n, Cal P w K mg base (n + 2) "_law_same" (sp_same n)
  | 0 => cal__law_same G (n := 0) c (calBot G.d__law_same sc__law_same (fun _ _ _ _ _ _ us hl => match us, hl with | [_, _], _ => rfl))
  | n + 1 => cal__law_same G (n := n + 1) c (same_all G c n)
theorem fn_main (G : Gs P w K mg) {f : Addr} {fd : FuncData} (F : FunD K "law" "law" (defArgs s_law) (defBody s_law) (defScope s_law) [] [] f fd) : FnOk P w K mg base (L2.CX P w) 9 f fd ["script"] (sp_law K) := by
  have K_BadText : ErrK P w K mg base "BadText" 2 1 mk_BadText := ok_BadText_init G.S_ForkError G.S_BadText G.H_BadText G.k_BadText G.i_BadText
  have K_BadDeed : ErrK P w K mg base "BadDeed" 2 1 mk_BadDeed := ok_BadDeed_init G.S_ForkError G.S_BadDeed G.H_BadDeed G.k_BadDeed G.i_BadDeed
  have c_read_number : Cal P w K mg base 4 "read_number" (sp_read_number K) := cal_read_number G K_BadText
  have c_is_yard_form : Cal P w K mg base 1 "is_yard_form" sp_is_deed := cal_is_yard_form G 
  have c_is_yard_deed : Cal P w K mg base 2 "is_yard_deed" sp_yard_deed := cal_is_yard_deed G c_is_yard_form
  have c__law_is_number : Cal P w K mg base 1 "_law_is_number" sp_is_number := cal__law_is_number G 
  have c__law_start : Cal P w K mg base 1 "_law_start" (sp_start K) := cal__law_start G 
  have c__law_draw : Cal P w K mg base 1 "_law_draw" sp_draw := cal__law_draw G 
  have c_yard_deed_text : Cal P w K mg base 4 "yard_deed_text" (sp_deed_text K) := cal_yard_deed_text G K_BadDeed c_is_yard_deed
  have c__law_is_yard_deed : Cal P w K mg base 1 "_law_is_yard_deed" (sp_lis_deed K) := cal__law_is_yard_deed G 
  have c__law_deed_line : Cal P w K mg base 1 "_law_deed_line" sp_ldeed_text := cal__law_deed_line G 
  have c__law_is_written : Cal P w K mg base 1 "_law_is_written" sp_is_written := cal__law_is_written G 
  have c__law_text_deed : Cal P w K mg base 2 "_law_text_deed" sp_text_deed := cal__law_text_deed G c__law_draw
  have c__law_odd_line : Cal P w K mg base 1 "_law_odd_line" sp_odd_line := cal__law_odd_line G 
  have c__law_odd_item : Cal P w K mg base 1 "_law_odd_item" sp_odd_item := cal__law_odd_item G 
  have c_write_yard_deeds : Cal P w K mg base 5 "write_yard_deeds" (sp_write_deeds K) := cal_write_yard_deeds G c_yard_deed_text
  have c_read_yard_deed : Cal P w K mg base 5 "read_yard_deed" (sp_read_deed K) := cal_read_yard_deed G K_BadText c_is_yard_form c_read_number
  have c__law_line_deed : Cal P w K mg base 2 "_law_line_deed" (sp_line_deed K) := cal__law_line_deed G c__law_is_yard_deed c__law_is_written
  have c_read_yard_deeds : Cal P w K mg base 6 "read_yard_deeds" (sp_read_deeds K) := cal_read_yard_deeds G c_read_yard_deed
  have c__law_read_due : Cal P w K mg base 3 "_law_read_due" sp_law_read := cal__law_read_due G c__law_line_deed
  have c__law_read : Cal P w K mg base 7 "_law_read" sp_law_read := cal__law_read G c_read_yard_deeds
  have c__law_write_due : Cal P w K mg base 2 "_law_write_due" (sp_law_write K) := cal__law_write_due G c__law_is_yard_deed c__law_deed_line
  have c__law_written : Cal P w K mg base 6 "_law_written" (sp_law_write K) := cal__law_written G c_write_yard_deeds
  have c__law_with_odd : Cal P w K mg base 2 "_law_with_odd" sp_with_odd := cal__law_with_odd G c__law_draw c__law_odd_line c__law_odd_item
  have c__law_spoiled : Cal P w K mg base 2 "_law_spoiled" sp_spoiled := cal__law_spoiled G c__law_draw
  exact fn_law G c__law_start c__law_draw c__law_text_deed c__law_deed_line c__law_spoiled c__law_read c__law_read_due c__law_with_odd c__law_written c__law_write_due c_read_yard_deeds (same_all G c__law_is_number 3) F
end Z

namespace Fk
open PySem PySem.Spec PyProof.Rows L2
/-- a law's walk, its errors' context by the world -/
theorem walkW {l : PySem.W.OpenLaw} {n k : Nat} {q : Program} {loose : List Str} {XP : (Str → Option Value) → Heap → Prop} {YP : World → Heap → Prop} {d : DefRec} {C : World → CXT} {x : Str} (e1 : l.most = some n) (e2 : n ≤ sizeLine) (e3 : d.params.defaults = []) (e4 : Room k callerA)
    (F : ∀ (w : World) (mg : Str → Option Value) (fa : Addr) (h : Heap), YP w h → h.Ns mainGlobals mg → mg d.name = some (.ref fa) → ∃ (K : PySem.W.Frag) (fd : FuncData) (sp : Sp), K.In h ∧ (∀ (s : Shared) (u : Value), BindsTo s fd ⟨[u], []⟩ [(x, u)]) ∧
        (∀ (H : Hp) (a : Addr) (ns : List Int), ns.length ≤ n → Only H → SqL K H a (ns.map V.int) → sp [.ref a] H (fun v _ => v = .bl true) fun _ _ _ => False) ∧ ∀ base : Heap, K.In base → base.Ns mainGlobals mg → FnOk l.prog w K mg base (C w) k fa fd [x] sp)
    (e5 : ∀ (w : World) (H : Hp) (s : Shared) (e : Value) (s' : Shared), C w [] H s (fun _ _ _ => False) e s' → False) : PySem.W.WalkO q loose XP YP l.row.toRowW d [] (fun f vs => PySem.call f vs) := by
  refine Att.attach_call e1 e3 fun w s0 s1 mg mb fa o pm cd doc a vs ns GG Y ho hd hcd hmg hobj hi hlen hg => ?_
  obtain ⟨K, fd, sp, k1, k2, k3, k4⟩ := F w mg fa _ Y GG.T.g hmg
  exact law_call k1 GG.T.g GG.T.b GG.T.builtins GG.T.nolimit hg hobj hi (Nat.le_trans hlen e2) e4 k4 k2 (fun H u v => k3 H a ns hlen u v) fun H e s' => e5 w H s1 e s'
end Fk
open PySem PySem.W PySem.Calls PyProof.Rows
set_option maxHeartbeats 0
theorem PySem.Challenge.cw_promisesowned_k50_yard_deeds_as_text_holds : PySem.Challenge.rw_promisesowned_k50_yard_deeds_as_text.Holds := by
  w_on; o_law
  refine HandSHeadRun.head_any (r := OpenLaw.row PySem.Challenge.rw_promisesowned_k50_yard_deeds_as_text) (q := view (OpenLaw.row PySem.Challenge.rw_promisesowned_k50_yard_deeds_as_text).prog [36]) (H := Z.hk) (ob := Z.ob) (M := 3000) (loose := Z.names) (d := HandSHeadRun.topDef (OpenLaw.row PySem.Challenge.rw_promisesowned_k50_yard_deeds_as_text).prog 36) (kwd := []) Z.ob_eq
    (by kernel_rfl) (fun s => by kernel_rfl) Z.run (by kernel_rfl) (by kernel_rfl) (by kernel_rfl) (by rfl) (by first | assumption | decide +kernel) (by decide +kernel) ⟨rfl, rfl, rfl, rfl, rfl, by decide +kernel⟩ ?hw ?hc
  case hw => w_witness2
  case hc =>
    refine Fk.walkW (l := PySem.Challenge.rw_promisesowned_k50_yard_deeds_as_text) (n := 63) (k := 9) (x := "script") (C := fun w => L2.CX (PySem.Challenge.rw_promisesowned_k50_yard_deeds_as_text).prog w) rfl (by decide) (by kernel_rfl) ⟨rfl, by decide, by decide⟩ ?F ?z
    case z => exact fun w H s e s' ⟨_, _, _, _, _, _, _, _, _, _, _, _, z⟩ => z
    intro w mg fa h Y GG hm0
    obtain ⟨K, KX, c⟩ := Y
    have hm : mg ("law" : PySem.Str) = some (.ref fa) := by
      have e : (HandSHeadRun.topDef (OpenLaw.row PySem.Challenge.rw_promisesowned_k50_yard_deeds_as_text).prog 36).name = ("law" : PySem.Str) := by kernel_rfl
      rw [← e]
      exact hm0
    have gs := Z.gs_of KX GG c
    obtain ⟨f, fd, FD, g⟩ := gs.d_law
    cases hm.symm.trans g
    have hb := L2.FunD.bindsA (ps := ["script"]) FD fun _ _ _ _ _ _ us hl => match us, hl with | [_], _ => rfl
    exact ⟨K, fd, Z.sp_law K, KX, fun s v => hb s [v] rfl, fun H a ns _ _ hS => ⟨a, ns, rfl, hS, fun _ => rfl⟩, fun base _ _ => Z.fn_main gs FD⟩
