import PyProof.Rows.All
import Wide.All
import OpenK.AllK
import Wide.FinOn
import HandS.ForMost
import HandS.ForExc
import HandS.Evl
import HandS.ExcValue
import HandS.ExcInit
import KE.KExcSuper
import HandS.TupSets
import HandS.Dict
import HandS.DictTup
import HandS.TupLen
import HandS.Walk
import KE.KDictKeyed
import KE.KDictWalk
import KE.KDictDisplayH
import KE.KSetIn
import KE.SortData
import KE.LtData
import HandS.TupAny
import HandS.IsInst
import HandS.Deep
import HandS.ExcIs
import KE.DataEq
import KE.DataCmp
import KE.DataFind
import KE.DataMinMax
import HandS.TupMul
import HandS.SetFor
import HandS.Strs
import KE.KExcIs
import KE.GoesMore
import PyProof.EnumMake
import PyProof.EnumFor
import KE.KRevSl
import HandS.Zip
import KE.GoesEnumKw
import HandS.Conv
import KE.KDictPairs
import HandS.Style
import HandS.TryOnly
import HandS.WordsExc
import HandS.Wide
import HandS.WideBits
import HandS.Words
import PySem.Challenge.RW_graysieve_k28_fewest_sums
set_option linter.all false
set_option Elab.async false
set_option maxRecDepth 100000
set_option maxHeartbeats 4000000
/-! MpX0: own exceptions over ValueError that are made as values: an __init__ that says super().__init__(text) and stores its arguments. -/
namespace Mp
open PySem L2 PyProof.Rows

/-- an exception object that is being made: without a dict as yet, or with one that has these -/
def ExSt (h : Heap) (e C L : Addr) (hB : Heap) (done : List (Str × Value)) : Prop :=
  (done = [] ∧ ∃ t, h.get? e = some (PySem.HandSPX.excO C t)) ∨
  ∃ dx t m0, h.get? e = some ({ cls := .ref C, dict := some dx, data := .fields #[.ref t, .none, .none, .none, .bool false, .none] } : Obj) ∧ h.Ns1 dx m0 ∧ (∀ y, m0 y = done.lookup y) ∧ hB.get? dx = none ∧ dx ≠ e ∧ dx ≠ L
def Hold (hB h : Heap) : Prop := ∀ b o, hB.get? b = some o → h.get? b = some o
theorem ns_at {h h' : Heap} {L : Addr} {m : Str → Option Value} (x : h.Ns L m) (k : ∀ o, h.get? L = some o → h'.get? L = some o) : h'.Ns L m := let ⟨o, es, ep, e, r⟩ := x; ⟨o, es, ep, k o e, r⟩
theorem look_put (f g : Str) (y : Value) (fs : List (Str × Value)) : ((f, y) :: fs).lookup g = if g = f then some y else fs.lookup g := by
  by_cases h : g = f
  · subst h
    simp [List.lookup]
  · have e : (g == f) = false := by simpa using h
    rw [if_neg h]
    simp [List.lookup, e]
theorem look_mem : ∀ {l : List (Str × Value)} {y : Str}, l.lookup y ≠ none → y ∈ l.map (·.1)
  | [], y, h => absurd rfl h
  | (f, z) :: l, y, h => by
    rw [look_put] at h
    by_cases e : y = f
    · rw [e]
      exact List.mem_cons_self
    · rw [if_neg e] at h
      exact List.mem_cons_of_mem _ (look_mem h)

section
variable {prog : Program} {w : World} {A : Around} {K : PySem.W.Frag} {hB h : Heap} {e C L : Addr} {done : List (Str × Value)} {m : Str → Option Value} {g : Array GenState} {d : Drawn} {t : Nat} {os : OsState} {E : Value → Shared → Prop}
/-- self.f = v -/
theorem ini_store {f : Str} {v : Value} {Q : Unit → Shared → Prop} (T : OexC K C) (hno : PySem.W.findIn K (.ref C) f = some none) (X : K.In hB) (k : Hold hB h) (hBe : hB.get? e = none) (S : ExSt h e C L hB done) (hL : h.Ns L m) (hl : done.length ≤ 900) (eL : e ≠ L)
    (hq : ∀ h' t', Hold hB h' → h'.Ns L m → ExSt h' e C L hB ((f, v) :: done) → Q () ⟨h', g, d, t', os⟩) : wpAny (model prog w) A (setAttr (.ref e) f v) Q E ⟨h, g, d, t, os⟩ := by
  obtain ⟨nm, q, N, bs, bm, sn, sub, ab, col, dd, k0, k1, k2, k3, k5, hC, hbm⟩ := T.cls
  have hcl : PySem.W.clsIn K C = some { name := nm, bases := bs, mro := .ref C :: bm, ns := N, qualname := q, hasDict := true, slotNames := sn, subclasses := sub, abstract := ab, collection := col, hasDel := false } := by unfold PySem.W.clsIn; rw [hC] <;> rfl
  have X1 : K.In h := X.keeps k
  have ne : ∀ {b : Addr} {o : Obj}, hB.get? b = some o → b ≠ e := fun {b o} z y => by
    rw [y, hBe] at z
    cases z
  rcases S with ⟨rfl, t0, he⟩ | ⟨dx, t0, m0, he, hn, hm, hBd, dne, dL⟩
  · refine PySem.W.set_plain X1 (ox := PySem.HandSPX.excO C t0) (od := none) ⟨he, rfl, rfl, trivial⟩ T.sa ?_
    refine PySem.HandSPX.exc_osa X1 he hcl (show PySem.HandSPX.refsVE (.ref C :: bm) = true from hbm) rfl hno fun h' tk' dx k' dn dne hx hn => ?_
    have hLn : ∃ o, h.get? L = some o := let ⟨o, _, _, z, _⟩ := hL; ⟨o, z⟩
    obtain ⟨oL, hoL⟩ := hLn
    have nlt : ∀ {b : Addr} {o : Obj}, h.get? b = some o → dx ≠ b := fun {b o} z => Ne.symm (Nat.ne_of_lt (Nat.lt_of_lt_of_le (Heap.lt_size z) dn))
    refine hq h' tk' (fun b o z => k' b o (ne z) (k b o z)) (ns_at hL fun o z => k' L o (Ne.symm eL) z) (.inr ⟨dx, t0, _, hx, hn, fun y => look_put f y v [] |>.symm, ?_, dne, nlt hoL⟩)
    cases z : hB.get? dx with
    | none => rfl
    | some o => exact absurd rfl (nlt (k _ _ z))
  · have hw : Within m0 (done.map (·.1)) := fun y hy => look_mem (by rw [← hm y]; exact hy)
    obtain ⟨oD, _, _, hoD, _, _⟩ := hn.count hw
    refine PySem.W.set_plain X1 (od := some oD) ⟨he, rfl, rfl, hoD⟩ T.sa ?_
    refine PySem.OEX.osa_old X1 he hn hw (by rw [List.length_map]; omega) hcl (show PySem.HandSPX.refsVE (.ref C :: bm) = true from hbm) rfl hno fun h' tk' k' hn' => ?_
    have ned : ∀ {b : Addr} {o : Obj}, hB.get? b = some o → b ≠ dx := fun {b o} z y => by
      rw [y, hBd] at z
      cases z
    exact hq h' tk' (fun b o z => k' b o (ned z) (k b o z)) (ns_at hL fun o z => k' L o (Ne.symm dL) z) (.inr ⟨dx, t0, _, k' e _ (Ne.symm dne) he, hn', fun y => by rw [look_put, hm], hBd, dne, dL⟩)

/-- the stores of an __init__ -/
inductive Asg (sl : Str) : List (Str × Str) → List Stmt → Prop
  | nil : Asg sl [] []
  | cons {f x : Str} {p1 p2 p3 p4 : Pos} {r : List (Str × Str)} {ss : List Stmt} : Asg sl r ss → Asg sl ((f, x) :: r) (.Assign [.Attribute (.Name sl p1) f p2] (.Name x p3) p4 :: ss)
theorem ini_stores {env : PySem.Env} {sl : Str} (T : OexC K C) (X : K.In hB) (hBe : hB.get? e = none) (eL : e ≠ env.locals) (hk : env.scope.kind = .function) (hs : env.kindOf sl = some .local) (hsd : (sl == ("__debug__" : Str)) = false) (hsv : m sl = some (.ref e)) {Q : Flow → Shared → Prop} :
    ∀ {as : List (Str × Str)} {ss : List Stmt} {vs : List Value} {done : List (Str × Value)} {h : Heap} {t : Nat}, Asg sl as ss → (∀ p ∈ as, PySem.W.findIn K (.ref C) p.1 = some none ∧ env.kindOf p.2 = some .local ∧ (p.2 == ("__debug__" : Str)) = false) →
      as.map (fun p => m p.2) = vs.map some → done.length + as.length ≤ 900 → Hold hB h → ExSt h e C env.locals hB done → h.Ns env.locals m →
      (∀ h' t', Hold hB h' → ExSt h' e C env.locals hB (((as.map (·.1)).zip vs).reverse ++ done) → Q .next ⟨h', g, d, t', os⟩) → wpAny (model prog w) A (execs ss env) Q E ⟨h, g, d, t, os⟩
  | [], _, [], done, h, t, .nil, _, _, _, k, S, hL, hq => wpAny_execs_nil (hq h t k S)
  | (f, x) :: r, _, [], done, h, t, .cons a, hn, hv, hl, k, S, hL, hq => by cases hv
  | (f, x) :: r, _, v :: vs, done, h, t, .cons a, hn, hv, hl, k, S, hL, hq => by
    obtain ⟨h1, h2, h3⟩ := hn (f, x) List.mem_cons_self
    rw [List.map_cons, List.map_cons] at hv
    injection hv with hv1 hv2
    rw [List.length_cons] at hl
    refine wpAny_execs_cons ?_
    refine plainObj_wpAny_Assign_Attribute (wpAny_Name (wpAny_loadName_local hk h2 hL hv1 ?_) h3) rfl
    refine wpAny_Name (wpAny_loadName_local hk hs hL hsv ?_) hsd
    refine ini_store T h1 X k hBe S hL (by omega) eL fun h' t' k' hL' S' => ?_
    refine ini_stores T X hBe eL hk hs hsd hsv a (fun p hp => hn p (List.mem_cons_of_mem _ hp)) hv2 (by rw [List.length_cons]; omega) k' S' hL' fun h2 t2 k2 S2 => hq h2 t2 k2 ?_
    rw [List.map_cons, List.zip_cons_cons, List.reverse_cons, List.append_assoc]
    exact S2
  | [], _, v :: vs, done, h, t, .nil, _, hv, _, k, S, hL, hq => by cases hv
end
end Mp
set_option Elab.async false
set_option maxRecDepth 100000
set_option maxHeartbeats 4000000
/-! MpX1: super().__init__(text), the whole __init__, the call of the class. -/
namespace Mp
open PySem L2 PyProof.Rows

def supS (txt : Str) (kd : Nat) (p0 p1 p2 p3 p4 p5 : Pos) : Stmt := .Expr (.Call (.Attribute (.Call (.Name "super" p0) [] [] p1) "__init__" p2) [.Constant (.str txt) kd p3] [] p4) p5
/-- what the written part says of an own class with such an __init__: its def at f, the def's code at cda, its cell at cc; the fields with the parameters -/
structure IniC (P : Program) (K : PySem.W.Frag) (C : Addr) (sl : Str) (as : List (Str × Str)) : Prop where
  oex : OexC K C
  fld : ∀ p ∈ as, PySem.W.findIn K (.ref C) p.1 = some none
  run : ∃ (f cda cc : Addr) (name qual txt : Str) (params : Arguments) (body ss : List Stmt) (scope : Scope) (dV kV doc pm ct oc ccl cl : Value) (an od cdd cld : Option Addr) (osl ccs csl : Array (Option Value)) (vs : Array Value) (file : Str) (tf : Tok) (ar : Arg) (kd : Nat) (p0 p1 p2 p3 p4 p5 : Pos),
    PySem.W.findIn K (.ref C) "__init__" = some (some (.ref f)) ∧ PySem.W.typeIn K (.ref f) = some (.type "function") ∧
    K.lookup f = some ⟨oc, od, .func (PySem.W.ksFn name qual params body scope dV kV doc pm an (.ref cda) ct cc), osl⟩ ∧ body = supS txt kd p0 p1 p2 p3 p4 p5 :: ss ∧ PySem.W.codeIn K (.ref cda) qual = true ∧
    K.lookup cda = some ⟨ccl, cdd, .fields vs, ccs⟩ ∧ vs[2]? = some (.str file tf) ∧ ((P.main.file : Str) == file) = true ∧ (P.main.scope.names.lookup ("super" : Str)).isSome = false ∧
    K.lookup cc = some ⟨cl, cld, .cell (some (.ref C)), csl⟩ ∧ PySem.W.nsIn K cStatics "thirdparty.any" = some none ∧ PySem.W.ks_superIn K C C "__init__" = some (some (.builtin "ValueError.__init__")) ∧ PySem.W.subIn K (.ref C) (.type "ValueError") = some true ∧
    PySem.W.mroIn K C (.ref C) = some true ∧
    (params.posonlyargs ++ params.args).head? = some ar ∧ ar.arg = sl ∧ Asg sl as ss ∧ (∀ us : List Value, us.length = (sl :: as.map (·.2)).length → bindArgs (PySem.W.ksFn name qual params body scope dV kV doc pm an (.ref cda) ct cc) ⟨us, []⟩ = pure ((sl :: as.map (·.2)).zip us)) ∧
    scope.kind = .function ∧ scope.isCoroutine = false ∧ scope.isGenerator = false ∧ (∀ x ∈ scope.names, x.2 ≠ .cell) ∧ (∀ x ∈ sl :: as.map (·.2), scope.names.lookup x = some .local ∧ (x == ("__debug__" : Str)) = false) ∧
    scope.names.lookup ("super" : Str) = some .globalImplicit ∧ scope.names.lookup ("__class__" : Str) = some .free ∧ (sl :: as.map (·.2)).Nodup ∧ (p2.endLine == p4.line) = true

section
variable {prog : Program} {w : World} {A : Around} {K : PySem.W.Frag} {hB h : Heap} {e C : Addr} {m : Str → Option Value} {g : Array GenState} {d : Drawn} {t : Nat} {os : OsState} {E : Value → Shared → Prop}
/-- the wrapper of ValueError.__init__ called -/
theorem call_mw {u t0 : Addr} {rest : List Value} {Q : Value → Shared → Prop} (T : OexC K C) (X : K.In h) (he : h.get? e = some (PySem.HandSPX.excO C t0)) (hu : h.get? u = some (PySem.W.kxs_mw "ValueError.__init__" e)) (hrest : rest.length ≤ sizeLine)
    (hq : ∀ h' t1, (∀ b o, b ≠ e → h.get? b = some o → h'.get? b = some o) → h'.get? e = some (PySem.HandSPX.excO C t1) → Q .none ⟨h', g, d, t, os⟩) : wpAny (model prog w) A (call (.ref u) rest) Q E ⟨h, g, d, t, os⟩ := by
  obtain ⟨nm, q, N, bs, bm, sn, sub, ab, col, dd, k0, k1, k2, k3, k5, hC, hbm⟩ := T.cls
  have hC' := X _ _ hC
  refine wpAny_call (codeAny_of_tree ?_)
  show wpAny _ A.in1 (callAny (.ref u) ⟨rest, []⟩) _ _ _
  simp only [callAny]
  refine wpAny_bind (wpAny_load hu ?_)
  simp only [PySem.W.kxs_mw, show (Value.type "method-wrapper" == Value.type "method" || Value.type "method-wrapper" == Value.type "builtin_function_or_method" || Value.type "method-wrapper" == Value.type "method-wrapper") = true by decide, if_true]
  refine PySem.W.KFB.if_so (by decide) ?_
  refine wpAny_bind (PySem.W.check_bound_init PySem.F.excBase_ValueError.toExcCallFacts hC' he rfl ?_)
  refine wpAny_bind (wpAny_pure (wpAny_pure ?_))
  refine ⟨plainId_quiet PySem.F.excBase_ValueError.init.plain _, codeAny_builtin PySem.F.excBase_ValueError.initEntry ?_⟩
  exact PySem.W.exc_init_tree (cls := .ref C) (t0 := t0) (dv := none) (c2 := .none) (c3 := .none) (b4 := .bool false) he hrest fun h' k' e' _ => hq h' _ k' e'

theorem zip_look {ps : List Str} (hn : ps.Nodup) : ∀ {us : List Value}, ps.length = us.length → ∀ (i : Nat) (x : Str) (v : Value), ps[i]? = some x → us[i]? = some v → (ps.zip us).reverse.lookup x = some v := by
  induction ps with
  | nil => intro us _ i x v h _; simp at h
  | cons p ps ih =>
    intro us hl i x v h1 h2
    cases us with
    | nil => cases hl
    | cons u us =>
      rw [List.nodup_cons] at hn
      rw [List.zip_cons_cons, List.reverse_cons]
      have hl' : ps.length = us.length := by simpa using hl
      cases i with
      | zero =>
        simp at h1 h2
        subst h1 h2
        rw [List.lookup_append]
        have : (ps.zip us).reverse.lookup p = none := by
          cases z : (ps.zip us).reverse.lookup p with
          | none => rfl
          | some y =>
            have q := look_mem (l := (ps.zip us).reverse) (y := p) (by rw [z]; exact fun z => nomatch z)
            rw [List.map_reverse, List.mem_reverse, List.map_fst_zip (by omega)] at q
            exact absurd q hn.1
        rw [this]
        simp [List.lookup]
      | succ i =>
        rw [List.lookup_append, ih hn.2 hl' i x v (by simpa using h1) (by simpa using h2)]
        rfl
/-- a method of super(), with one plain argument -/
theorem at_method {M : Model} {c : Code} {env : PySem.Env} {o : Expr} {name : Str} {apos pos : Pos} {args : List Expr} {s : Shared} {Q : Value → Shared → Prop} (hline : (apos.endLine == pos.line) = true)
    (hform : methodCallForm (args.length + ([] : List Keyword).length) (backTo pos (starEach args env)) (backToKw pos (keywordEach [] env)) = true)
    (h : PySem.wpAt M A c (attributeBase o name env (eval o env)) (fun ov s₁ => wpAny M A (getMethod ov name (do return (← importBound o env).getD true)) (fun fx s₂ => wpAny M A (callWith pos fx.1 fx.2 (backTo pos (starEach args env)) []) Q E s₂) E s₁) E s) :
    PySem.wpAt M A c (eval (.Call (.Attribute o name apos) args [] pos) env) Q E s := by
  have hpos : methodCallPos true o env apos pos = pure pos := by unfold methodCallPos; simp [hline]
  rw [arm_eval_Call]
  refine PySem.wpAt_bind (ks_wpAt_mono h (fun ov s₁ h₁ => PySem.wpAt_of_wpAny (wpAny_bind (wpAny_standAt ?_))) fun _ _ x => x)
  unfold methodCall
  rw [hform]
  refine wpAny_bind (wpAny_holding (wpAny_mono h₁ (fun fx s₂ h₂ => ?_) fun _ _ x => x))
  exact wpAny_bind (wpAny_of_eq hpos h₂)
/-- the whole __init__ -/
theorem ini_run {mg mb : Str → Option Value} {sl : Str} {as : List (Str × Str)} {us : List Value} {R : Result → Shared → Prop} (I : IniC prog K C sl as) (X : K.In hB) (k : Hold hB h) (hBe : hB.get? e = none) {t0 : Addr} (he : h.get? e = some (PySem.HandSPX.excO C t0))
    (glob : h.Ns mainGlobals mg) (hmg : mg "super" = none) (blt : h.Ns builtinsNs mb) (hmb : mb "super" = some (.type "super")) (lim : h.NoLimit) (hroom : A.depth < recursionLimit) (hl : us.length = as.length) (ha : as.length ≤ 900)
    {f : Addr} (hf : PySem.W.findIn K (.ref C) "__init__" = some (some (.ref f)))
    (hq : ∀ h' t' L, Hold hB h' → ExSt h' e C L hB ((as.map (·.1)).zip us).reverse → R (.ok (.ret .none)) ⟨h', g, d, t', os⟩) : codeAny (model prog w) A (.call (.ref f) ⟨.ref e :: us, []⟩) R ⟨h, g, d, t, os⟩ := by
  have T := I.oex
  obtain ⟨f', cda, cc, name, qual, txt, params, body, ss, scope, dV, kV, doc, pm, ct, oc, ccl, cl, an, od, cdd, cld, osl, ccs, csl, vs, file, tf, ar, kd, p0, p1, p2, p3, p4, p5, h1, h2, h3, hbody, h4, h5, h6, h7, h8, h9, i1, i2, i3, i4, i5, i6, i7, i8, i9, j1, j2, j3, j4, j5, j6, j7, j8⟩ := I.run
  obtain rfl : f = f' := by
    rw [hf] at h1
    cases h1
    rfl
  subst i6
  subst hbody
  have X0 : K.In h := X.keeps k
  have hlen : (Value.ref e :: us).length = (ar.arg :: as.map (·.2)).length := by rw [List.length_cons, List.length_cons, List.length_map, hl]
  have bnd : BindsTo ⟨h, g, d, t, os⟩ (PySem.W.ksFn name qual params (supS txt kd p0 p1 p2 p3 p4 p5 :: ss) scope dV kV doc pm an (.ref cda) ct cc) ⟨.ref e :: us, []⟩ ((ar.arg :: as.map (·.2)).zip (Value.ref e :: us)) := BindsTo.of_eq (i8 _ hlen)
  refine ks_codeAny_call_defAt (fd := PySem.W.ksFn name qual params (supS txt kd p0 p1 p2 p3 p4 p5 :: ss) scope dV kV doc pm an (.ref cda) ct cc) hroom (X0 _ _ h3) rfl lim (PySem.W.codeRec_of X0 h4) rfl bnd j3 (fun x hx => ?_) (fun h1' hns hk1 => ?_) j1 j2 i9
  · obtain ⟨a, b⟩ := x
    exact (j4 a (List.of_mem_zip hx).1).1
  have k1 : Hold hB h1' := fun b o z => hk1 b o (k b o z)
  have X1 : K.In h1' := X.keeps k1
  have he1 := hk1 _ _ he
  have eL : e ≠ h.objs.size := Nat.ne_of_lt (Heap.lt_size he)
  have hself : ((ar.arg :: as.map (·.2)).zip (Value.ref e :: us)).reverse.lookup ar.arg = some (.ref e) := zip_look j7 hlen.symm 0 _ _ rfl rfl
  obtain ⟨nm, q, N, bs, bm, sn, sub, ab, col, dd, k0, k1', k2, k3, k5, hC, hbm⟩ := T.cls
  have hcl : PySem.W.clsIn K C = some { name := nm, bases := bs, mro := .ref C :: bm, ns := N, qualname := q, hasDict := true, slotNames := sn, subclasses := sub, abstract := ab, collection := col, hasDel := false } := by unfold PySem.W.clsIn; rw [hC] <;> rfl
  have j5' : PySem.Env.kindOf (callEnv (PySem.W.ksFn name qual params (supS txt kd p0 p1 p2 p3 p4 p5 :: ss) scope dV kV doc pm an (.ref cda) ct cc) h.objs.size f) "super" = some .globalImplicit := j5
  have j6' : PySem.Env.kindOf (callEnv (PySem.W.ksFn name qual params (supS txt kd p0 p1 p2 p3 p4 p5 :: ss) scope dV kV doc pm an (.ref cda) ct cc) h.objs.size f) "__class__" = some .free := j6
  refine' ks_wpAt_execs_cons (ks_wpAt_Expr_any (at_method (args := [.Constant (.str txt) kd p3]) j8 (by rfl) ?_) ?hi ?hs)
  case hi => show (scope.kind == .module && _) = false; rw [i9]; rfl
  case hs => rfl
  refine ks_wpAt_super_base (of := _) (fd := PySem.W.ksFn name qual params (supS txt kd p0 p1 p2 p3 p4 p5 :: ss) scope dV kV doc pm an (.ref cda) ct cc) j5' j6' rfl rfl (X1 _ _ h3) rfl i5 rfl (X1 _ _ h5) rfl h6 h7 h8 ?_
  refine PySem.W.ks_loadName_global i9 j5' (Calls.loadGlobal_builtin (ns_at glob fun o z => hk1 _ _ z) hmg (ns_at blt fun o z => hk1 _ _ z) hmb ⟨rfl, ?_⟩)
  refine wpAny_loadName_free i9 j6' rfl ⟨_, X1 _ _ h9, rfl⟩ ?_
  refine wpAny_loadName_local i9 (j4 _ List.mem_cons_self).1 hns hself ?_
  refine ks_wpAny_isType_cls (X1 _ _ hC) rfl ⟨rfl, ?_⟩
  refine ks_wpAny_call_super (X1 _ _ hC) rfl he1 rfl (fun c z => by cases z) (PySem.W.looks_mroIn X1 i4) fun h2' e2 k2' => ?_
  have kk2 : Hold hB h2' := fun b o z => k2' b o (k1 b o z)
  have X2 : K.In h2' := X.keeps kk2
  have IA : PySem.W.InstAt h2' e (PySem.HandSPX.excO C t0) C none := ⟨k2' _ _ he1, rfl, rfl, trivial⟩
  have eC : e ≠ C := fun z => by
    have q := X _ _ hC
    rw [← z, hBe] at q
    cases q
  have al : PySem.W.alongIn K "__init__" (((Value.ref C :: bm).dropWhile (· != .ref C)).drop 1) = some (some (.builtin "ValueError.__init__")) := by
    unfold PySem.W.ks_superIn at i2
    rw [hcl] at i2
    exact i2
  refine PySem.W.kxs_getMethod PySem.W.kxs_ValueError e2 (PySem.W.looks_opaque X2 i1) (l₀ := .ref C :: bm) ((PySem.W.looks_clsIn X2 hcl).andThen .now) rfl X2 al (IA.type.andThen (PySem.W.looks_subIn X2 i3)) eC rfl ?_
  have k3h : ∀ b o, h2'.get? b = some o → (h2'.push (PySem.W.kxs_mw "ValueError.__init__" e)).get? b = some o := fun b o z => Heap.get?_push_of_some _ z
  have hu : (h2'.push (PySem.W.kxs_mw "ValueError.__init__" e)).get? h2'.objs.size = some (PySem.W.kxs_mw "ValueError.__init__" e) := Heap.get?_push_at rfl rfl
  refine PySem.W.kxs_callWith (i := "ValueError.__init__") (x := e) rfl (Calls.evalArgs_plain (Calls.spliced_cons (Calls.Constant_str (k := kd) (pos := p3) (Calls.spliced_nil ⟨hu, ?_⟩))))
  refine call_mw T (X.keeps fun b o z => k3h _ _ (kk2 _ _ z)) (k3h _ _ (k2' _ _ he1)) hu (by show 1 ≤ sizeLine; rw [sizeLine_eq]; omega) fun h4' t4 k4 e4 => ?_
  have ne : ∀ {b : Addr} {o : Obj}, hB.get? b = some o → b ≠ e := fun {b o} z y => by
    rw [y, hBe] at z
    cases z
  refine PySem.wpAt_of_wpAny ?_
  refine ini_stores (env := callEnv (PySem.W.ksFn name qual params (supS txt kd p0 p1 p2 p3 p4 p5 :: ss) scope dV kV doc pm an (.ref cda) ct cc) h.objs.size f) (hB := hB) (sl := ar.arg) (done := []) T X hBe (m := fun x => ((ar.arg :: as.map (·.2)).zip (Value.ref e :: us)).reverse.lookup x) eL i9 (j4 _ List.mem_cons_self).1 (j4 _ List.mem_cons_self).2 hself i7
    (fun p hp => ⟨I.fld p hp, (j4 p.2 (List.mem_cons_of_mem _ (List.mem_map_of_mem hp))).1, (j4 p.2 (List.mem_cons_of_mem _ (List.mem_map_of_mem hp))).2⟩) (vs := us) ?_ (by simpa using ha)
    (fun b o z => k4 b o (ne z) (k3h _ _ (kk2 _ _ z))) (.inl ⟨rfl, _, e4⟩) (ns_at hns fun o z => k4 _ o (Ne.symm eL) (k3h _ _ (k2' _ _ z))) fun h5' t5 k5 S5 => ?_
  · refine List.ext_getElem? fun i => ?_
    rw [List.getElem?_map, List.getElem?_map]
    cases z : as[i]? with
    | none =>
      have : us[i]? = none := by
        rw [List.getElem?_eq_none_iff] at z ⊢
        omega
      rw [this]
      rfl
    | some p =>
      have hi := (List.getElem?_eq_some_iff.mp z).1
      obtain ⟨u, hu'⟩ : ∃ u, us[i]? = some u := ⟨us[i], List.getElem?_eq_getElem (by omega)⟩
      rw [hu']
      show some (((ar.arg :: as.map (·.2)).zip (Value.ref e :: us)).reverse.lookup p.2) = some (some u)
      rw [zip_look j7 hlen.symm (i + 1) p.2 u (by rw [List.getElem?_cons_succ, List.getElem?_map, z]; rfl) (by rw [List.getElem?_cons_succ]; exact hu')]
  · rw [List.append_nil] at S5
    exact hq h5' t5 _ k5 S5
end
end Mp
set_option Elab.async false
set_option maxRecDepth 100000
set_option maxHeartbeats 4000000
/-! MpB0: greater tables of sets: masks up to 2047. -/
namespace Mp
open PySem PySem.Spec PyProof.Rows L2

/-- the slots of n steps from i, as bits -/
def seenB (m : Nat) : Nat → Nat → Nat
  | 0, _ => 0
  | n + 1, i => Nat.lor (Nat.shiftLeft 1 i) (seenB m n ((i * 5 + 1) % (m + 1)))
/-- the place after n steps from i -/
def goB (m : Nat) : Nat → Nat → Nat
  | 0, i => i
  | n + 1, i => goB m n ((i * 5 + 1) % (m + 1))
theorem goB_back (m : Nat) : ∀ n i, goB m (n + 1) i = (goB m n i * 5 + 1) % (m + 1)
  | 0, _ => rfl
  | n + 1, i => goB_back m n ((i * 5 + 1) % (m + 1))
theorem goB_lcg (m i : Nat) : ∀ n, goB m n i = lcgI m i n
  | 0 => rfl
  | n + 1 => by rw [goB_back, goB_lcg m i n]; rfl
theorem seenB_bit (m j : Nat) : ∀ n i, (seenB m n i).testBit j = true → ∃ k, k < n ∧ goB m k i = j
  | 0, i, h => by
    rw [seenB, Nat.zero_testBit] at h
    cases h
  | n + 1, i, h => by
    have h2 : (1 <<< i ||| seenB m n ((i * 5 + 1) % (m + 1))).testBit j = true := h
    rw [Nat.testBit_or, Bool.or_eq_true] at h2
    rcases h2 with q | q
    · refine ⟨0, Nat.succ_pos n, ?_⟩
      rw [Nat.testBit_shiftLeft, Bool.and_eq_true] at q
      obtain ⟨q1, q2⟩ := q
      have q1 := of_decide_eq_true q1
      have e : j - i = 0 := by
        cases z : j - i with
        | zero => rfl
        | succ d => rw [z] at q2; simp [Nat.testBit_succ] at q2
      show i = j
      omega
    · obtain ⟨k, a, b⟩ := seenB_bit m j n _ q
      exact ⟨k + 1, Nat.succ_lt_succ a, b⟩
/-- the masks of tables -/
def BM (m : Nat) : Prop := m = 7 ∨ m = 31 ∨ m = 127 ∨ m = 511 ∨ m = 2047
theorem full7 : seenB 7 8 0 = 2 ^ 8 - 1 ∧ goB 7 8 0 = 0 := by decide +kernel
theorem full31 : seenB 31 32 0 = 2 ^ 32 - 1 ∧ goB 31 32 0 = 0 := by decide +kernel
theorem full127 : seenB 127 128 0 = 2 ^ 128 - 1 ∧ goB 127 128 0 = 0 := by decide +kernel
theorem full511 : seenB 511 512 0 = 2 ^ 512 - 1 ∧ goB 511 512 0 = 0 := by decide +kernel
theorem full2047 : seenB 2047 2048 0 = 2 ^ 2048 - 1 ∧ goB 2047 2048 0 = 0 := by decide +kernel
theorem BM.full {m : Nat} (h : BM m) : seenB m (m + 1) 0 = 2 ^ (m + 1) - 1 ∧ goB m (m + 1) 0 = 0 := by
  rcases h with e | e | e | e | e <;> subst e
  · exact full7
  · exact full31
  · exact full127
  · exact full511
  · exact full2047
theorem BM.le {m : Nat} (h : BM m) : m ≤ 2047 := by
  rcases h with e | e | e | e | e <;> subst e <;> decide
theorem BM.odd {m : Nat} (h : BM m) : m % 2 = 1 := by
  rcases h with e | e | e | e | e <;> subst e <;> rfl
theorem goB_add (m : Nat) : ∀ a b i, goB m (a + b) i = goB m b (goB m a i)
  | 0, b, i => by rw [Nat.zero_add]; rfl
  | a + 1, b, i => by rw [Nat.succ_add]; exact goB_add m a b _
/-- from everywhere to everywhere -/
theorem BM.meets {m : Nat} (h : BM m) {i j : Nat} (hi : i ≤ m) (hj : j ≤ m) : ∃ k, k ≤ m ∧ lcgI m i k = j := by
  obtain ⟨f1, f2⟩ := h.full
  have all : ∀ j, j ≤ m → ∃ k, k < m + 1 ∧ goB m k 0 = j := fun j hj => seenB_bit m j (m + 1) 0 (by
    rw [f1, Nat.testBit_two_pow_sub_one]
    exact decide_eq_true (Nat.lt_succ_of_le hj))
  obtain ⟨a, a1, a2⟩ := all i hi
  obtain ⟨b, b1, b2⟩ := all j hj
  by_cases c : a ≤ b
  · refine ⟨b - a, by omega, ?_⟩
    rw [← goB_lcg, ← a2, ← goB_add, show a + (b - a) = b by omega]
    exact b2
  · refine ⟨m + 1 + b - a, by omega, ?_⟩
    rw [← goB_lcg, ← a2, ← goB_add, show a + (m + 1 + b - a) = m + 1 + b by omega, goB_add, f2]
    exact b2
theorem BM.run {m : Nat} (hm : BM m) (h : Int) {j : Nat} (hj : j ≤ m) : ∃ n, n ≤ m + 12 ∧ runI m (SetTable.bits h) n = j := by
  obtain ⟨k, k1, k2⟩ := hm.meets (runI_le m (SetTable.bits h) 12) hj
  exact ⟨12 + k, by omega, (runI_tail (bits_lt h) k).trans k2⟩
theorem BM.way {m : Nat} (hm : BM m) (h : Int) {j : Nat} (hj : j ≤ m) : ∃ k, k < 10 * SetTable.turns m ∧ L2.way m h k = j := by
  obtain ⟨n, n1, n2⟩ := hm.run h hj
  obtain ⟨k, k1, k2⟩ := run_nth m (SetTable.bits h) n
  refine ⟨k, by unfold SetTable.turns; omega, ?_⟩
  show (nth m (runAt m (SetTable.bits h % (m + 1)) (SetTable.bits h)) k).j = j
  rw [k2]
  exact n2
theorem wayIn (m : Nat) (h : Int) (k : Nat) : L2.way m h k ≤ m := by
  have hi : SetTable.bits h % (m + 1) ≤ m := Nat.le_of_lt_succ (Nat.mod_lt _ (Nat.succ_pos m))
  obtain ⟨r1, r2, _⟩ := runEnd_bd hi
  have q := nth_in (m := m) k (runAt m (SetTable.bits h % (m + 1)) (SetTable.bits h)) (by unfold runAt; dsimp only; omega)
  exact Nat.le_trans (Nat.le_add_right _ _) q

/-- a table: what has the hash hs[i] sits at place[i], and all before it on its way is taken -/
structure TB (t : SetTable) (hs : List Int) : Prop where
  ris : Ris t.place.toList
  dm : t.dummies = #[]
  len : t.place.size = hs.length
  bm : BM t.mask
  small : ∀ x ∈ t.place.toList, x ≤ t.mask
  behind : ∀ (i : Nat) (h : Int) (j : Nat), hs[i]? = some h → t.place.toList[i]? = some j → ∃ k, L2.way t.mask h k = j ∧ ∀ d, d < k → L2.way t.mask h d ∈ t.place.toList
theorem TB.gap {t : SetTable} {hs : List Int} (T : TB t hs) (hl : hs.length ≤ t.mask) (h : Int) :
    ∃ K, K < 10 * SetTable.turns t.mask ∧ L2.way t.mask h K ∉ t.place.toList ∧ ∀ d, d < K → L2.way t.mask h d ∈ t.place.toList := by
  obtain ⟨j, j1, j2⟩ := st_missing t.place.toList (t.mask + 1) (by rw [Array.length_toList, T.len]; omega)
  obtain ⟨k, k1, k2⟩ := T.bm.way h (Nat.le_of_lt_succ j1)
  obtain ⟨K, a, b, c⟩ := st_least (p := fun k => L2.way t.mask h k ∉ t.place.toList) k (by rw [k2]; exact j2)
  exact ⟨K, Nat.lt_of_le_of_lt a k1, b, fun d hd => Classical.byContradiction fun z => c d hd z⟩
theorem TB.ahead {t : SetTable} {hs : List Int} (T : TB t hs) {h : Int} {K i j : Nat} (hK : L2.way t.mask h K ∉ t.place.toList) (hi : hs[i]? = some h) (hj : t.place.toList[i]? = some j) : ∃ k, k < K ∧ L2.way t.mask h k = j := by
  obtain ⟨k, e, b⟩ := T.behind i h j hi hj
  refine ⟨k, Classical.byContradiction fun z => ?_, e⟩
  rcases Nat.lt_or_eq_of_le (Nat.not_lt.mp z) with c | c
  · exact hK (b K c)
  · exact hK (by rw [c, e]; exact List.mem_of_getElem? hj)
/-- one more -/
theorem TB.add {t : SetTable} {hs : List Int} (T : TB t hs) {h : Int} {K : Nat} (hK : L2.way t.mask h K ∉ t.place.toList) (hb : ∀ d, d < K → L2.way t.mask h d ∈ t.place.toList) {p : Nat} (hp : p = SetTable.below t.place (L2.way t.mask h K)) :
    p ≤ hs.length ∧ TB (t.put (L2.way t.mask h K)).1 (hs.take p ++ h :: hs.drop p) ∧ (t.put (L2.way t.mask h K)).1.fill = hs.length + 1 := by
  have cut := (below_cut T.ris (L2.way t.mask h K)).1
  have pl : p ≤ t.place.toList.length := by rw [hp, Array.length_toList]; exact cut
  have ph : p ≤ hs.length := by rw [← T.len, ← Array.length_toList]; exact pl
  have shape : (t.put (L2.way t.mask h K)).1.place.toList = t.place.toList.take p ++ L2.way t.mask h K :: t.place.toList.drop p := by rw [hp]; exact put_place t _
  have sz : (t.put (L2.way t.mask h K)).1.place.size = hs.length + 1 := by
    have q := congrArg List.length shape
    rw [Array.length_toList, len_ins _ pl, Array.length_toList, T.len] at q
    exact q
  have wide : ∀ {x}, x ∈ t.place.toList → x ∈ (t.put (L2.way t.mask h K)).1.place.toList := fun {x} hx => by
    rw [shape]
    exact mem_ins.2 (.inr hx)
  refine ⟨ph, ⟨?_, put_dm T.dm _, ?_, T.bm, ?_, ?_⟩, ?_⟩
  · exact ris_insert T.ris fun e => hK (List.mem_of_getElem? ((Array.getElem?_toList).trans e))
  · rw [sz, len_ins _ ph]
  · intro x hx
    rw [shape] at hx
    rcases mem_ins.1 hx with e | q
    · rw [e]
      exact wayIn _ _ _
    · exact T.small x q
  · intro i h2 j a b
    rw [shape, tins_get _ pl] at b
    rw [tins_get _ ph] at a
    have old : ∀ i, hs[i]? = some h2 → t.place.toList[i]? = some j → ∃ k, L2.way t.mask h2 k = j ∧ ∀ d, d < k → L2.way t.mask h2 d ∈ (t.put (L2.way t.mask h K)).1.place.toList := fun i a b => by
      obtain ⟨k, e, z⟩ := T.behind i h2 j a b
      exact ⟨k, e, fun d hd => wide (z d hd)⟩
    rcases Nat.lt_trichotomy i p with c | c | c
    · rw [if_pos c] at a b
      exact old i a b
    · rw [if_neg (by omega), if_pos c] at a b
      cases a
      cases b
      exact ⟨K, rfl, fun d hd => wide (hb d hd)⟩
    · rw [if_neg (by omega), if_neg (by omega)] at a b
      exact old (i - 1) a b
  · show (t.put (L2.way t.mask h K)).1.place.size + (t.put (L2.way t.mask h K)).1.dummies.size = _
    rw [sz, put_dm T.dm]
    rfl

/-! ### all laid anew -/
theorem BM.free {m : Nat} (hm : BM m) (owner : Array (Option Nat)) (h : Int) {j : Nat} (hj : j ≤ m) (hf : oAt owner j = none) :
    ∃ K, SetTable.layClean.free m owner (SetTable.turns m) (SetTable.bits h % (m + 1)) (SetTable.bits h) = some (L2.way m h K) ∧ oAt owner (L2.way m h K) = none ∧ ∀ d, d < K → oAt owner (L2.way m h d) ≠ none := by
  obtain ⟨n, n1, n2⟩ := hm.run h hj
  have at_n : L2.way m h (off m (SetTable.bits h % (m + 1)) (SetTable.bits h) n) = j := by
    unfold L2.way
    rw [nth_off, itL_run]
    exact n2
  obtain ⟨K, a, b, c⟩ := st_least (p := fun k => oAt owner (L2.way m h k) = none) _ (by rw [at_n]; exact hf)
  refine ⟨K, free_spec m owner _ n _ _ K (by unfold SetTable.turns; omega) a (fun d hd => ?_) (Option.isNone_iff_eq_none.mpr b), b, c⟩
  cases z : oAt owner (nth m (runAt m (SetTable.bits h % (m + 1)) (SetTable.bits h)) d).j with
  | none => exact absurd z (c d hd)
  | some _ => rfl
theorem own_next {m : Nat} (hm : BM m) {done : List Int} {owner : Array (Option Nat)} (W : Own m done owner) (hl : done.length ≤ m) (h : Int) :
    ∃ j, SetTable.layClean.free m owner (SetTable.turns m) (SetTable.bits h % (m + 1)) (SetTable.bits h) = some j ∧ Own m (done ++ [h]) (owner.setIfInBounds j (some done.length)) := by
  obtain ⟨ps, e0, hin⟩ := W.ps
  obtain ⟨g, g1, g2⟩ := st_missing ps (m + 1) (by omega)
  have gn : oAt owner g = none := Classical.byContradiction fun z => g2 (hin g (Nat.le_of_lt_succ g1) z)
  obtain ⟨K, a, b, c⟩ := hm.free owner h (Nat.le_of_lt_succ g1) gn
  have le := wayIn m h K
  generalize hw : L2.way m h K = J at a b le
  have lt : J < owner.size := by rw [W.sz]; omega
  have at_J := oAt_set_self (some done.length) lt
  have taken : ∀ {i}, oAt owner i ≠ none → oAt (owner.setIfInBounds J (some done.length)) i ≠ none := fun {i} hi => by
    by_cases z : i = J
    · rw [z, at_J]
      exact nofun
    · rw [oAt_set_ne _ z]
      exact hi
  refine ⟨J, a, ?_, ?_, ?_, J :: ps, ?_, ?_⟩
  · rw [Array.size_setIfInBounds, W.sz]
  · intro j k hj e
    by_cases z : j = J
    · rw [z, at_J] at e
      cases e
      exact ⟨h, K, List.getElem?_concat_length, hw.trans z.symm, fun d hd => taken (c d hd)⟩
    · rw [oAt_set_ne _ z] at e
      obtain ⟨h2, k2, q1, q2, q3⟩ := W.at_ j k hj e
      exact ⟨h2, k2, by rw [List.getElem?_append_left (List.getElem?_eq_some_iff.mp q1).1]; exact q1, q2, fun d hd => taken (q3 d hd)⟩
  · intro k hk
    rw [List.length_append] at hk
    rcases Nat.lt_or_ge k done.length with z | z
    · obtain ⟨j, q1, q2⟩ := W.all k z
      exact ⟨j, q1, by rw [oAt_set_ne _ (fun y => by rw [y, b] at q2; cases q2)]; exact q2⟩
    · have e : k = done.length := by simp at hk; omega
      subst e
      exact ⟨J, le, at_J⟩
  · simp [e0]
  · intro j hj e
    by_cases z : j = J
    · rw [z]
      exact List.mem_cons_self
    · rw [oAt_set_ne _ z] at e
      exact List.mem_cons_of_mem _ (hin j hj e)
theorem own_fold {m : Nat} (hm : BM m) : ∀ (rest done : List Int) (owner : Array (Option Nat)), Own m done owner → done.length + rest.length ≤ m →
    ∃ o2, rest.foldl (stepF m) (some (owner, done.length)) = some (o2, done.length + rest.length) ∧ Own m (done ++ rest) o2
  | [], done, owner, W, _ => ⟨owner, rfl, by rw [List.append_nil]; exact W⟩
  | h :: rest, done, owner, W, hl => by
    rw [List.length_cons] at hl ⊢
    obtain ⟨j, e, W2⟩ := own_next hm W (by omega) h
    obtain ⟨o2, q1, q2⟩ := own_fold hm rest (done ++ [h]) _ W2 (by rw [List.length_append]; simp; omega)
    refine ⟨o2, ?_, by rw [List.append_assoc] at q2; exact q2⟩
    rw [List.foldl_cons, stepF_some e]
    rw [List.length_append] at q1
    rw [show done.length + (rest.length + 1) = done.length + [h].length + rest.length by simp; omega]
    exact q1
theorem lay_big {m : Nat} (hm : BM m) {hs : Array Int} (hn : hs.size ≤ m) : ∃ owner, SetTable.layClean m hs = some owner ∧ Own m hs.toList owner := by
  obtain ⟨o, a, b⟩ := own_fold hm hs.toList [] _ (Own.init m) (by rw [Array.length_toList]; simpa using hn)
  refine ⟨o, ?_, b⟩
  rw [layClean_eq, show (some (Array.replicate (m + 1) none, 0) : Option (Array (Option Nat) × Nat)) = some (Array.replicate (m + 1) none, ([] : List Int).length) from rfl, a]
  rfl
theorem relaid_big (t : SetTable) {hs : Array Int} {wanted M : Nat} (hw : SetTable.sizeAbove wanted - 1 = M) (hM : BM M) (hn : hs.size ≤ M) :
    ∃ t2 order, t.relaid hs wanted = some (t2, order) ∧ order.toList.Perm (List.range hs.size) ∧ TB t2 (order.toList.map fun i => hs.getD i 0) ∧ t2.mask = M ∧ t2.led = t.led ∧ t2.plain = t.plain := by
  obtain ⟨owner, e, W⟩ := lay_big hM hn
  obtain ⟨c1, c2⟩ := ris_live (fun j => owner.getD j none) (List.range (M + 1)) List.pairwise_lt_range
  have c1 : Ris ((liveOf M owner).map (·.1)) := c1
  have c2 : ∀ x ∈ (liveOf M owner).map (·.1), x ∈ List.range (M + 1) := c2
  have mem : ∀ {j k}, (j, k) ∈ liveOf M owner ↔ j ≤ M ∧ oAt owner j = some k := mem_live W.sz
  have has : ∀ k, k < hs.size → k ∈ (liveOf M owner).map (·.2) := fun k hk => by
    obtain ⟨j, q1, q2⟩ := W.all k hk
    exact List.mem_map.mpr ⟨(j, k), mem.2 ⟨q1, q2⟩, rfl⟩
  have n : (liveOf M owner).length = hs.size := by
    refine Nat.le_antisymm ?_ ?_
    · obtain ⟨ps, p1, p2⟩ := W.ps
      have q := nat_nodup_len ((liveOf M owner).map (·.1)) ps (List.Pairwise.imp (fun {a b} (z : a < b) => Nat.ne_of_lt z) (show List.Pairwise (· < ·) ((liveOf M owner).map (·.1)) from c1)) fun x hx => by
        obtain ⟨⟨j, k⟩, q1, q2⟩ := List.mem_map.mp hx
        have q2 : j = x := q2
        rw [← q2]
        exact p2 j (mem.1 q1).1 (by rw [(mem.1 q1).2]; exact nofun)
      rw [List.length_map, p1, Array.length_toList] at q
      exact q
    · have q := nat_nodup_len (List.range hs.size) ((liveOf M owner).map (·.2)) List.nodup_range fun k hk => has k (List.mem_range.mp hk)
      rw [List.length_map, List.length_range] at q
      exact q
  refine ⟨tabOf t M owner, ((liveOf M owner).map (·.2)).toArray, ?_, ?_, ⟨c1, rfl, ?_, hM, ?_, ?_⟩, rfl, rfl, rfl⟩
  · rw [relaid_eq, hw, e]
    rfl
  · exact perm_range _ _ (by rw [List.length_map, n]) has
  · show ((liveOf M owner).map (·.1)).toArray.size = (((liveOf M owner).map (·.2)).map fun i => hs.getD i 0).length
    simp
  · exact fun x hx => Nat.le_of_lt_succ (List.mem_range.mp (c2 x hx))
  · intro i h j a b
    have a : (((liveOf M owner).map (·.2)).map fun i => hs.getD i 0)[i]? = some h := a
    have b : ((liveOf M owner).map (·.1))[i]? = some j := b
    rw [List.map_map, List.getElem?_map] at a
    rw [List.getElem?_map] at b
    cases z : (liveOf M owner)[i]? with
    | none => rw [z] at b; cases b
    | some q =>
      obtain ⟨j2, k⟩ := q
      rw [z] at a b
      cases b
      cases a
      obtain ⟨q1, q2⟩ := mem.1 (List.mem_of_getElem? z)
      obtain ⟨h0, K, r1, r2, r3⟩ := W.at_ _ k q1 q2
      have e0 : hs.getD k 0 = h0 := by
        rw [Array.getD_eq_getD_getElem?, ← Array.getElem?_toList, r1]
        rfl
      show ∃ K, L2.way M (hs.getD k 0) K = j2 ∧ ∀ d, d < K → L2.way M (hs.getD k 0) d ∈ (liveOf M owner).map (·.1)
      rw [e0]
      refine ⟨K, r2, fun d hd => ?_⟩
      cases z2 : oAt owner (L2.way M h0 d) with
      | none => exact absurd z2 (r3 d hd)
      | some k2 => exact List.mem_map.mpr ⟨(_, k2), mem.2 ⟨wayIn _ _ _, z2⟩, rfl⟩
end Mp
set_option Elab.async false
set_option maxRecDepth 100000
set_option maxHeartbeats 4000000
/-! Mp0: dicts whose keys are nested tuples, as tracked things; rules for them. -/
namespace Mp
open PySem PySem.Spec PyProof.Rows L2 Evl

mutual
/-- plain data as a key -/
def nkP : PyData → Option NestedKey
  | .none => some .none
  | .bool b => some (.num (if b = true then 1 else 0))
  | .int i => some (.num i)
  | .str x => some (.text x)
  | .tuple ds => (nkPs ds).map .tup
  | _ => none
def nkPs : List PyData → Option (List NestedKey)
  | [] => some []
  | d :: r => match nkP d, nkPs r with
    | some k, some ks => some (k :: ks)
    | _, _ => none
end
/-- the value x is the key k -/
def KeyIn (K : PySem.W.Frag) (H : Hp) (x : V) (k : NestedKey) : Prop := ∃ p, Dp K H x p ∧ nkP p = some k ∧ k.depth ≤ 8

section
variable {X : Cx} {pins : List (Addr × Obj)} {σ : L2.St} {H : Hp} {s : Shared}
mutual
theorem dp_nested (I : Inv X pins σ H s) : ∀ (d : PyData) (v : V) (u : Value) (k : NestedKey), Dp X.K H v d → nkP d = some k → RelV v u → NestedIs s.heap k u
  | .none, _, _, k, h, e, r => by
    cases h
    rw [nkP] at e
    cases e
    cases r
    exact .none
  | .bool b, _, _, k, h, e, r => by
    cases h
    rw [nkP] at e
    cases e
    cases r
    exact .bool rfl
  | .int i, _, _, k, h, e, r => by
    cases h
    rw [nkP] at e
    cases e
    obtain ⟨t, rfl⟩ := r
    exact .int i t
  | .str x, _, _, k, h, e, r => by
    cases h
    rw [nkP] at e
    cases e
    obtain ⟨t, rfl⟩ := r
    exact .text x t
  | .tuple ds, _, _, k, h, e, r => by
    rw [nkP] at e
    obtain ⟨ks, e', rfl⟩ := Option.map_eq_some_iff.mp e
    cases h with
    | tup hs ha =>
      cases r
      obtain ⟨its, rv, ⟨o, ho, hc, n, hd⟩, _⟩ := I.tuple hs
      exact .tup ho hc hd (by simpa using dp_nesteds I ds _ its ks ha e' rv)
  | .list _, _, _, k, _, e, _ => by rw [nkP] at e <;> first | cases e | (intros; contradiction)
  | .dict _, _, _, k, h, _, _ => by cases h
theorem dp_nesteds (I : Inv X pins σ H s) : ∀ (ds : List PyData) (vs : List V) (us : List Value) (ks : List NestedKey), DpAll X.K H vs ds → nkPs ds = some ks → Vals vs us → NestedAll s.heap ks us
  | [], _, _, ks, h, e, r => by
    cases h
    rw [nkPs] at e
    cases e
    cases r
    exact .nil
  | d :: ds, _, _, ks, h, e, r => by
    cases h with
    | cons h1 h2 =>
      cases r with
      | cons r1 r2 =>
        rw [nkPs] at e
        split at e
        · rename_i k0 ks0 e1 e2
          cases e
          exact .cons (dp_nested I d _ _ k0 h1 e1 r1) (dp_nesteds I ds _ _ ks0 h2 e2 r2)
        · cases e
end
/-- a tuple that is a key, in the heap -/
theorem KeyIn.is {b : Addr} {k : NestedKey} (I : Inv X pins σ H s) (h : KeyIn X.K H (.ref b) k) : (nestedKind X.prog X.w).is s.heap k b := by
  obtain ⟨p, h1, h2, h3⟩ := h
  exact ⟨dp_nested I p _ _ k h1 h2 rfl, h3⟩
end

/-- an entry: the key, its tuple, the value -/
abbrev Ent := NestedKey × Addr × V
abbrev DX : List Ent → List (NestedKey × Addr × Value) → Prop := Paired fun p q => p.1 = q.1 ∧ p.2.1 = q.2.1 ∧ RelV p.2.2 q.2.2
def lookN : List Ent → NestedKey → Option V
  | [], _ => none
  | p :: r, k => if p.1 = k then some p.2.2 else lookN r k
def putN (kvs : List Ent) (k : NestedKey) (b : Addr) (v : V) : List Ent :=
  if (lookN kvs k).isSome then kvs.map fun p => if p.1 = k then (p.1, p.2.1, v) else p else kvs ++ [(k, b, v)]
theorem putN_len (kvs : List Ent) (k : NestedKey) (b : Addr) (v : V) : (putN kvs k b v).length ≤ kvs.length + 1 := by
  unfold putN
  split
  · rw [List.length_map]; omega
  · rw [List.length_append]; exact Nat.le_refl _
theorem DX.look {kvs : List Ent} {xs : List (NestedKey × Addr × Value)} (r : DX kvs xs) (k : NestedKey) : RelO (lookN kvs k) ((atKey xs k).map (·.2)) := by
  induction r with
  | nil => exact True.intro
  | @cons p q ps qs h t ih =>
    obtain ⟨h1, _, h2⟩ := h
    by_cases e : p.1 = k
    · have e' : q.1 = k := h1.symm.trans e
      have b : atKey (q :: qs) k = some q.2 := by simp [atKey, List.find?_cons, e']
      rw [lookN, if_pos e, b]
      exact h2
    · have e' : ¬ q.1 = k := fun z => e (h1.trans z)
      have b : atKey (q :: qs) k = atKey qs k := by simp [atKey, List.find?_cons, e']
      rw [lookN, if_neg e, b]
      exact ih
theorem DX.repl {kvs : List Ent} {xs : List (NestedKey × Addr × Value)} (r : DX kvs xs) (k : NestedKey) {y : V} {u : Value} (ry : RelV y u) :
    DX (kvs.map fun p => if p.1 = k then (p.1, p.2.1, y) else p) (xs.map (putAt k u)) := by
  induction r with
  | nil => exact .nil
  | @cons p q ps qs h t ih =>
    rw [List.map_cons, List.map_cons]
    refine .cons ?_ ih
    obtain ⟨h1, h2, h3⟩ := h
    unfold putAt
    by_cases e : p.1 = k
    · rw [if_pos e, if_pos (h1.symm.trans e)]; exact ⟨h1, h2, ry⟩
    · rw [if_neg e, if_neg (fun z => e (h1.trans z))]; exact ⟨h1, h2, h3⟩
theorem DX.put {kvs : List Ent} {xs : List (NestedKey × Addr × Value)} (r : DX kvs xs) (k : NestedKey) (b : Addr) {y : V} {u : Value} (ry : RelV y u) : DX (putN kvs k b y) (storedH xs k b u) := by
  have e : (lookN kvs k).isSome = (atKey xs k).isSome := by
    rw [(r.look k).isSome_eq, Option.isSome_map]
  unfold putN storedH
  rw [e]
  by_cases q : (atKey xs k).isSome = true
  · rw [if_pos q, if_pos q]; exact r.repl k ry
  · rw [if_neg q, if_neg q]; exact Paired.snoc r ⟨rfl, rfl, ry⟩

/-- what the object says -/
def DicP (P : Program) (w : World) (a : Addr) (o : Obj) (kvs : List Ent) : Prop :=
  (a == sysModules) = false ∧ kvs.length ≤ sizeLine ∧ o.ExactDict ∧ ∃ es ep xs, o.data = .dict es ep ∧ es.toList = xs.map (entryOfKey (nestedKind P w)) ∧ (xs.map (·.1)).Nodup ∧ DX kvs xs
/-- at a: the dict o with these entries -/
def dicO (P : Program) (w : World) (a : Addr) (o : Obj) (kvs : List Ent) : HO := .ext fun h => h.get? a = some o ∧ DicP P w a o kvs
theorem dicO_ext {P : Program} {w : World} {a : Addr} {o : Obj} {kvs : List Ent} : ∃ φ, dicO P w a o kvs = .ext φ := ⟨_, rfl⟩
theorem dicO_ok {P : Program} {w : World} {H : Hp} {h : Heap} {a : Addr} {o : Obj} {kvs : List Ent} (e : h.get? a = some o) (d : DicP P w a o kvs) : ObjOk P w H h a (dicO P w a o kvs) :=
  ⟨⟨e, d⟩, ⟨o, e⟩, fun _ _ z k => ⟨k _ z.1, z.2⟩⟩
theorem dicO_at {P : Program} {w : World} {H : Hp} {h : Heap} {a : Addr} {o : Obj} {kvs : List Ent} (ok : HOk P w H h) (e : H a = some (dicO P w a o kvs)) : h.get? a = some o ∧ DicP P w a o kvs := (ok a _ e).1
/-- the keys stand -/
def KeysIn (K : PySem.W.Frag) (H : Hp) (kvs : List Ent) : Prop := ∀ p ∈ kvs, KeyIn K H (.ref p.2.1) p.1

section
variable {X : Cx} {pins : List (Addr × Obj)} {σ : L2.St} {H : Hp} {s : Shared} {a b : Addr} {o : Obj} {kvs : List Ent} {k : NestedKey} {A : Around} {E : Value → Shared → Prop}
theorem dx_keys {K : PySem.W.Frag} {kvs : List Ent} {xs : List (NestedKey × Addr × Value)} (r : DX kvs xs) {φ : NestedKey → Addr → Prop} (h : ∀ p ∈ kvs, φ p.1 p.2.1) : ∀ x ∈ xs, φ x.1 x.2.1 := by
  induction r with
  | nil => exact fun x hx => nomatch hx
  | @cons p q ps qs hq t ih =>
    intro x hx
    rcases List.mem_cons.mp hx with e | hx
    · subst e
      have := h p List.mem_cons_self
      rw [hq.1, hq.2.1] at this
      exact this
    · exact ih (fun p hp => h p (List.mem_cons_of_mem _ hp)) x hx
theorem dic_of (I : Inv X pins σ H s) (e : H a = some (dicO X.prog X.w a o kvs)) (hk : KeysIn X.K H kvs) : (a == sysModules) = false ∧ kvs.length ≤ sizeLine ∧ ∃ xs, DX kvs xs ∧ s.heap.DictOfH (nestedKind X.prog X.w) a xs := by
  obtain ⟨ho, h1, h2, h3, es, ep, xs, h4, h5, h6, h7⟩ := dicO_at I.hok e
  exact ⟨h1, h2, xs, h7, o, es, ep, ho, h3, h4, h5, fun x hx => dx_keys (K := X.K) h7 (φ := fun k b => (nestedKind X.prog X.w).is s.heap k b) (fun p hp => (hk p hp).is I) x hx, h6⟩
theorem nroom (hu : A.units + 20 < cLine) : (nestedKind X.prog X.w).room A.in1 := by show A.units + 1 + 8 < cLine; omega
/-- a new object for a -/
theorem dic_new {h' : Heap} {xs : List (NestedKey × Addr × Value)} (h1 : (a == sysModules) = false) (h2 : kvs.length ≤ sizeLine) (r : DX kvs xs) (d : h'.DictOfH (nestedKind X.prog X.w) a xs) : ∃ o, h'.get? a = some o ∧ DicP X.prog X.w a o kvs := by
  obtain ⟨o, es, ep, ho, h3, h4, h5, _, h6⟩ := d
  exact ⟨o, ho, h1, h2, h3, es, ep, xs, h4, h5, h6, r⟩

/-- k in d; k not in d -/
def rInN (X : Cx) (neg : Bool) : R2 := fun x y H Q => ∃ b a o kvs k, x = .ref b ∧ y = .ref a ∧ KeyIn X.K H (.ref b) k ∧ H a = some (dicO X.prog X.w a o kvs) ∧ KeysIn X.K H kvs ∧ Q (.bl (if neg then !(lookN kvs k).isSome else (lookN kvs k).isSome)) H
theorem op_inN (hu : X.A.units + 20 < cLine) : OpR X (compareOp .In) (rInN X false) := by
  intro pins s σ H x y v u Q I rx ry h
  obtain ⟨b, a, o, kvs, k, rfl, rfl, hk, ha, hks, q⟩ := h
  cases rx
  cases ry
  obtain ⟨h1, h2, xs, r, d⟩ := dic_of I ha hks
  refine wpAny_in_heap (nroom hu) (hk.is I) h1 d ?_
  have e := (r.look k).isSome_eq
  rw [Option.isSome_map] at e
  rw [← e]
  exact ⟨.bl _, H, I.tok _, rfl, q⟩
theorem op_notInN (hu : X.A.units + 20 < cLine) : OpR X (compareOp .NotIn) (rInN X true) := by
  intro pins s σ H x y v u Q I rx ry h
  obtain ⟨b, a, o, kvs, k, rfl, rfl, hk, ha, hks, q⟩ := h
  cases rx
  cases ry
  obtain ⟨h1, h2, xs, r, d⟩ := dic_of I ha hks
  refine wpAny_notIn_heap (nroom hu) (hk.is I) h1 d ?_
  have e := (r.look k).isSome_eq
  rw [Option.isSome_map] at e
  rw [← e]
  exact ⟨.bl _, H, I.tok _, rfl, q⟩
/-- d[k] -/
def rIxN (X : Cx) : R2 := fun x y H Q => ∃ b a o kvs k v, y = .ref b ∧ x = .ref a ∧ KeyIn X.K H (.ref b) k ∧ H a = some (dicO X.prog X.w a o kvs) ∧ KeysIn X.K H kvs ∧ lookN kvs k = some v ∧ Q v H
theorem ix_dicN (hu : X.A.units + 20 < cLine) : IxR X (rIxN X) := by
  intro value slice pins s σ H x y v u Q I rx ry h hs
  obtain ⟨b, a, o, kvs, k, w', rfl, rfl, hk, ha, hks, hl, q⟩ := h
  cases rx
  cases ry
  obtain ⟨h1, h2, xs, r, d⟩ := dic_of I ha hks
  have e := r.look k
  rw [hl] at e
  obtain ⟨u', hu', ru⟩ := RelO.some_of e
  obtain ⟨p, hp, rfl⟩ := Option.map_eq_some_iff.mp hu'
  exact tail_any d.typeIs F.slot_dict_getitem.lookup (wpAny_getItem_heap (nroom hu) (hk.is I) d hp ⟨_, H, I.tok _, ru, q⟩) hs
/-- len(d) -/
def rLenN (X : Cx) : List V → Hp → VK → Prop := fun xs H Q => ∃ a o kvs, xs = [.ref a] ∧ H a = some (dicO X.prog X.w a o kvs) ∧ KeysIn X.K H kvs ∧ Q (.int kvs.length) H
theorem call_lenN : CallR X (.builtin "len") (rLenN X) := by
  intro pins s σ H xs us Q I r h
  obtain ⟨a, o, kvs, rfl, ha, hks, q⟩ := h
  obtain ⟨u, rfl, rx⟩ := vals1 r
  cases rx
  obtain ⟨h1, h2, ys, rel, d⟩ := dic_of I ha hks
  have hl : kvs.length = ys.length := Paired.length rel
  refine call_len_dictH h1 d (by rw [← hl]; rw [sizeLine_eq] at h2; omega) ?_
  rw [← hl]
  exact ⟨.int ((kvs.length : Nat) : Int), H, I.tok _, ⟨_, rfl⟩, q⟩
/-- d.get(k, x) -/
def tDGetN (X : Cx) (td ty tx : TE) : TE := fun σ H Q => td σ H fun x H1 => ∃ a o kvs, x = .ref a ∧ H1 a = some (dicO X.prog X.w a o kvs) ∧ KeysIn X.K H1 kvs ∧ ty σ H1 fun y H2 => tx σ H2 fun z H3 => ∃ b k, y = .ref b ∧ H3 a = some (dicO X.prog X.w a o kvs) ∧
  KeysIn X.K H3 kvs ∧ KeyIn X.K H3 (.ref b) k ∧ Q ((lookN kvs k).getD z) H3
theorem pe_dgetN {ob e f : Expr} {apos cpos : Pos} {td ty tx : TE} (hu : X.A.units + 20 < cLine) (ho : PE X ob td) (he : PE X e ty) (hf : PE X f tx) (m : M2 X ob "get" apos e f cpos) : PE X (.Call (.Attribute ob "get" apos) [e, f] [] cpos) (tDGetN X td ty tx) := by
  refine ⟨fun pins s σ H Q I h => ?_⟩
  refine wpAny_Call_method m.base m.few m.line PySem.F.plainAttrs_dict PySem.F.slot_dict_get PySem.F.type_dict_get (thn (ho.run pins s σ H _ I h) fun u s1 ⟨x, H1, I1, rx, a, o, kvs, ex, ea, hks, q1⟩ => ?_)
  subst ex
  obtain rfl : u = Value.ref a := rx
  obtain ⟨h1, h2, xs, r, d⟩ := dic_of I1 ea hks
  refine ⟨d.typeIs, fun b q => ?_, ?_⟩
  · cases q
    obtain ⟨ob, _, _, g1, g2, _⟩ := d
    exact ⟨ob, g1, g2.2.1⟩
  rw [m.trees]
  refine Calls.callWith_builtin rfl (Calls.evalArgs_plain (Calls.spliced_cons (thn (he.run pins s1 σ H1 _ I1 q1) fun iv s2 ⟨y, H2, I2, ry, q2⟩ =>
    Calls.spliced_cons (thn (hf.run pins s2 σ H2 _ I2 q2) fun fv s3 ⟨z, H3, I3, rz, b, k, ey, ea3, hks3, hk3, q3⟩ => Calls.spliced_nil ?_))))
  subst ey
  cases ry
  obtain ⟨h1, h2, xs, r, d⟩ := dic_of I3 ea3 hks3
  refine call_meetsIn PySem.F.slot_dict_get d.typeIs PySem.F.entry_dict_get (PySem.F.args_dict_get_3 _ _ _) (meetsH_dict_get_default (nestedKind X.prog X.w) a b h1 fv) ⟨nroom hu, k, xs, hk3.is I3, d, ?_⟩
  exact ⟨_, H3, I3.tok _, (r.look k).getD rz, q3⟩
/-- d[k] = v -/
def rSetN (X : Cx) : TSet := fun od i v H Q => ∃ a b o kvs k, od = .ref a ∧ i = .ref b ∧ H a = some (dicO X.prog X.w a o kvs) ∧ KeysIn X.K H kvs ∧ KeyIn X.K H (.ref b) k ∧ kvs.length < sizeLine ∧ ∀ o', Q (upd H a (dicO X.prog X.w a o' (putN kvs k b v)))
theorem set_dicN (hu : X.A.units + 20 < cLine) : PSet X (rSetN X) := by
  intro pins s σ H od i v ov iv u Q I ro ri rv h
  obtain ⟨a, b, o, kvs, k, rfl, rfl, ha, hks, hk, hl, q⟩ := h
  cases ro
  cases ri
  obtain ⟨h1, h2, xs, r, d⟩ := dic_of I ha hks
  have hz : xs.length ≤ sizeLine := by rw [← Paired.length r]; exact h2
  refine wpAny_setItem_heap (hsz := hz) (nroom hu) (hk.is I) d fun h' d' hs => ?_
  have hl2 : (putN kvs k b v).length ≤ sizeLine := by have := putN_len kvs k b v; omega
  obtain ⟨o', ho', hp⟩ := dic_new h1 hl2 (r.put k b rv) d'
  exact ⟨_, d_write I (by rw [ha]; exact True.intro) hs ⟨o', ho'⟩ (dicO_ok ho' hp), q o'⟩
/-- {} -/
def tDNewN (X : Cx) : TE := fun _ H Q => ∀ p o, H p = none → Q (.ref p) (upd H p (dicO X.prog X.w p o []))
theorem dic_empty {P : Program} {w : World} (h : Heap) (hb : sysModules < h.objs.size) : DicP P w h.objs.size { cls := .type "dict", data := .dict #[] } [] :=
  ⟨beq_eq_false_iff_ne.mpr (Ne.symm (Nat.ne_of_lt hb)), Nat.zero_le _, ⟨rfl, rfl, rfl⟩, #[], 0, [], rfl, rfl, List.nodup_nil, .nil⟩
theorem pe_dnewN {pos : Pos} : PE X (.Dict [] [] pos) (tDNewN X) := ⟨fun pins s σ H Q I h =>
  wpAny_Dict_empty ⟨.ref s.heap.objs.size, _, I.laid (a := s.heap.objs.size) (o := dicO X.prog X.w s.heap.objs.size { cls := .type "dict", data := .dict #[] } []) (t' := s.toks) (fun _ _ q => Heap.get?_push_of_some _ q) (Nat.le_refl _)
    (dicO_ok (Heap.get?_push_size _ rfl) (dic_empty s.heap I.big)), rfl, h _ _ (I.hok.fresh (Nat.le_refl _))⟩⟩
/-- {k: v}: the new dict stands empty while k and v are made -/
def tDisp1 (X : Cx) (tk tv : TE) : TE := fun σ H Q => ∀ p o, H p = none → tPairs [(tk, tv)] σ (upd H p (dicO X.prog X.w p o [])) fun ps H2 => ∃ b k y, ps = [(.ref b, y)] ∧ KeyIn X.K H2 (.ref b) k ∧ H2 p = some (dicO X.prog X.w p o []) ∧ ∀ o', Q (.ref p) (upd H2 p (dicO X.prog X.w p o' [(k, b, y)]))
theorem pe_disp1 {ke ve : Expr} {pos : Pos} {tk tv : TE} (hu : X.A.units + 20 < cLine) (hk : PE X ke tk) (hv : PE X ve tv) : PE X (.Dict [some ke] [ve] pos) (tDisp1 X tk tv) := by
  refine ⟨fun pins s σ H Q I q => ?_⟩
  have hn := I.hok.fresh (Nat.le_refl s.heap.objs.size)
  have I1 := I.laid (a := s.heap.objs.size) (o := dicO X.prog X.w s.heap.objs.size { cls := .type "dict", data := .dict #[] } []) (h' := s.heap.push { cls := .type "dict", data := .dict #[] }) (t' := s.toks) (fun _ _ q => Heap.get?_push_of_some _ q) (Nat.le_refl _)
    (dicO_ok (Heap.get?_push_size _ rfl) (dic_empty s.heap I.big))
  have hpp : PPs X pos [some ke] [ve] [(tk, tv)] := pps_cons hk hv pps_nil
  have hshape : (evalEachOpt [some ke] X.env).zip ((evalEach [ve] X.env).map fun v => do let x ← v; standAt pos; pure x) = (pairTrees [some ke] [ve] X.env pos).map fun p => (some p.1, p.2) := by rfl
  have h0 : pairTrees [some ke] [ve] X.env pos ≠ [] := by intro z; cases z
  have hl : (pairTrees [some ke] [ve] X.env pos).length ≤ 15 := by show 1 ≤ 15; decide
  rw [arm_eval_Dict, hshape, dictDisplay_pairs _ h0 (by show 1 < 17; decide)]
  refine wpAny_bind (wpAny_standAt (wpAny_bind (wpAny_subDictH (knd := nestedKind X.prog X.w) (show X.A.units + 8 < cLine by omega) hl ?_)))
  refine thn (hpp.run pins _ σ _ _ I1 (q s.heap.objs.size _ hn)) fun ws s2 ⟨ps, H2, I2, rel, q2⟩ => ?_
  obtain ⟨b, k, y, rfl, hk2, e, q3⟩ := q2
  obtain ⟨u1, u2, rfl, r1, r2⟩ : ∃ u1 u2, ws = [(u1, u2)] ∧ RelV (.ref b) u1 ∧ RelV y u2 := by
    cases rel with
    | cons h t =>
      cases t
      exact ⟨_, _, rfl, h.1, h.2⟩
  cases r1
  obtain ⟨h1, h2, xs, r, d⟩ := dic_of I2 e (fun p hp => nomatch hp)
  cases r
  refine ⟨[(k, b, u2)], ⟨rfl, rfl, hk2.is I2, trivial⟩, d, fun h' tk d' hs => wpAny_pure ?_⟩
  have e2 : storedAllH ([] : List (NestedKey × Addr × Value)) [(k, b, u2)] = [(k, b, u2)] := by
    show storedH [] k b u2 = _
    simp [storedH, atKey]
  rw [e2] at d'
  obtain ⟨o', ho', hp⟩ := dic_new (kvs := [(k, b, y)]) h1 (by rw [sizeLine_eq]; show 1 ≤ 16777216; omega) (.cons ⟨rfl, rfl, r2⟩ .nil) d'
  exact ⟨.ref s.heap.objs.size, _, d_write I2 (by rw [e]; exact True.intro) hs ⟨o', ho'⟩ (dicO_ok ho' hp), rfl, q3 o'⟩
end

/-! ### for k, v in d.items() -/
def ItN (P : Program) (w : World) (d : Addr) (o : Obj) (kvs : List Ent) : L2.It :=
  ⟨fun i H => H d = some (dicO P w d o kvs) ∧ i < kvs.length, fun i H x H' => ∃ T k b v, kvs[i]? = some (k, b, v) ∧ x = .ref T ∧ H T = none ∧ H' = upd H T (.tup [.ref b, v]), fun i H => H d = some (dicO P w d o kvs) ∧ kvs.length ≤ i⟩
theorem dx_at {kvs : List Ent} {xs : List (NestedKey × Addr × Value)} (r : DX kvs xs) {i : Nat} {k : NestedKey} {b : Addr} {v : V} (h : kvs[i]? = some (k, b, v)) : ∃ u, xs[i]? = some (k, b, u) ∧ RelV v u := by
  induction r generalizing i with
  | nil => simp at h
  | @cons p q ps qs hq t ih =>
    cases i with
    | zero =>
      simp at h
      subst h
      obtain ⟨q1, q2, q3⟩ := q
      obtain ⟨h1, h2, h3⟩ := hq
      dsimp only at h1 h2 h3
      subst h1 h2
      exact ⟨q3, rfl, h3⟩
    | succ i =>
      obtain ⟨u, h1, h2⟩ := ih (i := i) (by simpa using h)
      exact ⟨u, by simpa using h1, h2⟩
section
variable {P : Program} {w : World} {K : PySem.W.Frag} {d : Addr} {o : Obj} {es : Array DictEntry} {ep : Nat} {kvs : List Ent}
theorem raw_at {H : Hp} {h : Heap} (ok : HOk P w H h) (hod : o.data = .dict es ep) (e : H d = some (dicO P w d o kvs)) : (d == sysModules) = false ∧ DT.Raw h d es ep ∧ es.size = kvs.length ∧
    ∀ (i : Nat) (k : NestedKey) (b : Addr) (v : V), kvs[i]? = some (k, b, v) → ∃ (hi : i < es.size) (u : Value), es[i].key = .ref b ∧ es[i].val = u ∧ RelV v u := by
  obtain ⟨ho, h1, h2, h3, es', ep', xs, h4, h5, h6, h7⟩ := dicO_at ok e
  obtain ⟨rfl, rfl⟩ := dict_ep hod h4
  have hl : es'.size = kvs.length := by rw [size_of_entries h5, ← Paired.length h7]
  refine ⟨h1, ⟨o, ho, h3, h4⟩, hl, fun i k b v hv => ?_⟩
  have hi : i < es'.size := by rw [hl]; exact (List.getElem?_eq_some_iff.mp hv).1
  obtain ⟨u, hu, ru⟩ := dx_at h7 hv
  have en := entry_at h5 i
  rw [Array.getElem?_eq_getElem hi, hu, Option.map_some] at en
  have en' := Option.some.inj en
  exact ⟨hi, u, by rw [en']; rfl, by rw [en']; rfl, ru⟩
theorem turn_itemsN {elts : List Expr} {kk : Nat} {tpos : Pos} (it : Addr) (hod : o.data = .dict es ep) :
    Turn P w K (.Tuple elts kk tpos) (ItN P w d o kvs) [it] it (fun i h => ∃ ok ov, IsItemIter h it d i kvs.length ep ok ov) where
  mem := by simp
  obj := fun i h st b hb => by
    have e : b = it := by simpa using hb
    subst e
    obtain ⟨ok, ov, e⟩ := st
    exact ⟨_, e, fun v z => nomatch z⟩
  keep := fun i h h' st k => let ⟨ok, ov, e⟩ := st; ⟨ok, ov, k it (by simp) _ e⟩
  item := by
    intro X hP hw hK hc i pins s σ H E I hf st hg
    subst hP hw hK
    obtain ⟨hd, hi⟩ := hg
    obtain ⟨hs, raw, hl, hat⟩ := raw_at I.hok hod hd
    obtain ⟨⟨k, b, v⟩, hkv⟩ : ∃ p, kvs[i]? = some p := ⟨kvs[i], List.getElem?_eq_getElem hi⟩
    obtain ⟨hie, u, hk1, hv1, ru⟩ := hat i k b v hkv
    obtain ⟨ok, ov, he⟩ := st
    rw [← hl] at he
    have hlt : it < s.heap.objs.size := Heap.lt_size he
    refine DT.nextI he raw hie fun h' ho hT hz hk => ?_
    rw [hk1, hv1] at ho hT
    refine ⟨_, rfl, wpAny_letOwnedTupleGo_items (s := { s with heap := h' }) ho fun h'' he' sb => ?_⟩
    have hT2 : h''.get? s.heap.objs.size = some { cls := .type "tuple", data := .seq #[.ref b, u] } := (sb.2 _ (Nat.ne_of_gt hlt)).trans hT
    have new : ObjOk X.prog X.w (upd H s.heap.objs.size (.tup [.ref b, v])) h'' s.heap.objs.size (.tup [.ref b, v]) :=
      ⟨by show 2 ≤ sizeLine; decide, [.ref b, u], .cons rfl (.cons ru .nil), ⟨_, hT2, rfl, _, rfl⟩⟩
    have I1 : Inv X pins σ (upd H s.heap.objs.size (.tup [.ref b, v])) { s with heap := h'' } :=
      I.turnedNew (t' := s.toks) (ch := [it]) (fun b ob hb e => (sb.2 b (by simpa using hb)).trans (hk b ob (by simpa using hb) e)) hf (Nat.le_refl _) new
    refine ⟨.ref s.heap.objs.size, _, I1, rfl, ⟨_, k, b, v, hkv, rfl, I.hok.fresh (Nat.le_refl _), rfl⟩, ⟨.ref b, u, ?_⟩, fun c hc => ?_⟩
    · rw [← hl]; exact he'
    · have e : c = it := by simpa using hc
      rw [e, upd_ne (Nat.ne_of_lt hlt)]
      exact (hf it (by simp)).1
  done := by
    intro X hP hw hK hc i pins s σ H E I hf st hg
    subst hP hw hK
    obtain ⟨hd, hi⟩ := hg
    obtain ⟨f0, f1, f2, f3, f4, f5⟩ := hf it (by simp)
    obtain ⟨hs, raw, hl, hat⟩ := raw_at I.hok hod hd
    obtain ⟨ok, ov, he⟩ := st
    rw [← hl] at he
    exact DT.endI (I.ok.hd hc) he raw (by omega) fun h' eb => ⟨rfl, I.turned (t' := s.toks) (fun b ob hb e => eb b ob hb e) f0 f1 f3 f4 f5⟩
  self := fun A i s Q E st h => let ⟨_, _, e⟩ := st; PySem.W.kcp_self e h
/-- d.items() walked -/
def iItemsN (X : Cx) (td : TE) : TI := fun σ H R => td σ H fun x H1 => ∃ d o kvs, x = .ref d ∧ H1 d = some (dicO X.prog X.w d o kvs) ∧ (kvs.length ≤ sizeLine → R (ItN X.prog X.w d o kvs) H1)
theorem pi_itemsN {X : Cx} {e : Expr} {td : TE} {apos cpos : Pos} {elts : List Expr} {kk : Nat} {tpos : Pos} (he : PE X e td) (hbase : attributeBase e "items" X.env (eval e X.env) = eval e X.env) (hline : (apos.endLine == cpos.line) = true) :
    PI X (.Tuple elts kk tpos) (.Call (.Attribute e "items" apos) [] [] cpos) (iItemsN X td) := by
  refine ⟨fun pins s σ H R I h => ?_⟩
  refine wpAny_Call_method (T := "dict") (id := "dict.items") hbase rfl hline F.plainAttrs_dict F.slot_dict_items F.type_dict_items (thn (he.run pins s σ H _ I h) fun u s1 ⟨x, H1, I1, rx, d, o, kvs, ex, hd, q⟩ => ?_)
  subst ex
  obtain rfl : u = Value.ref d := rx
  obtain ⟨⟨es, ep, hdt⟩, hzz⟩ : (∃ es ep, o.data = .dict es ep) ∧ kvs.length ≤ sizeLine := by
    obtain ⟨ho, h1, h2, h3, es, ep, xs, h4, _⟩ := dicO_at I1.hok hd
    exact ⟨⟨es, ep, h4⟩, h2⟩
  have q := q hzz
  obtain ⟨hs, raw, hl, hat⟩ := raw_at I1.hok hdt hd
  obtain ⟨oo, r1, r2, r3⟩ := id raw
  refine ⟨raw.typeIs, fun b q => ?_, ?_⟩
  · cases q
    exact ⟨oo, r1, r2.2.1⟩
  have I2 : Inv X pins σ H1 { s1 with heap := s1.heap.push { cls := .type "dict_items", data := .fields #[.ref d] } } := I1.kept (t' := s1.toks) fun b ob q => Heap.get?_push_of_some _ q
  have fin : wpAny (model X.prog X.w) X.A (pyIter (.ref s1.heap.objs.size)) (PIE X pins σ (.Tuple elts kk tpos) R) X.xe { s1 with heap := s1.heap.push { cls := .type "dict_items", data := .fields #[.ref d] } } := by
    refine DT.iterI (d := d) (es := es) (ep := ep) ⟨_, Heap.get?_push_size _ rfl, rfl, rfl⟩ (raw.push _) (pi_one (tk := s1.toks) I2 _ (turn_itemsN _ hdt) ⟨.none, .none, ?_⟩ q)
    rw [← hl]
    exact Heap.get?_push_size _ rfl
  show wpAny _ _ (callWith cpos (.builtin "dict.items") [.ref d] [] []) _ X.xe s1
  exact method_meetsIn F.slot_dict_items F.entry_dict_items rfl (PySem.evalArgs_none ⟨rfl, raw.typeIs, F.args_dict_items_1 _, _, DT.meetsItems (es := es) (ep := ep) hs, raw, fin⟩)
theorem walk_itemsN : Walk (ItN P w d o kvs) kvs.length (fun H => H d = some (dicO P w d o kvs)) (YPair (fun i => (kvs[i]?).map fun p => .ref p.2.1) (fun i => (kvs[i]?).map fun p => p.2.2)) := by
  refine ⟨fun i _ hi q => ⟨q, hi⟩, fun _ q => ⟨q, Nat.le_refl _⟩, fun i H v H' _ q y => ?_⟩
  obtain ⟨T, k, b, x, h1, h2, h3, h4⟩ := y
  exact ⟨T, .ref b, x, h2, h3, h4, by dsimp only; rw [h1]; rfl, by dsimp only; rw [h1]; rfl⟩
end
end Mp
set_option Elab.async false
set_option maxRecDepth 100000
set_option maxHeartbeats 4000000
/-! MpS0: a set of tuples of whole numbers is asked for a tuple. -/
namespace Mp
open PySem PySem.Spec PyProof.Rows L2 Evl

/-- the way's beginning -/
abbrev st0 (m : Nat) (h : Int) : SetTable.Probe := runAt m (SetTable.bits h % (m + 1)) (SetTable.bits h)
theorem nth_dummy (m : Nat) : ∀ (n : Nat) (p : SetTable.Probe), p.dummy = none → (nth m p n).dummy = none
  | 0, _, h => h
  | n + 1, p, h => nth_dummy m n (adv m p) (by unfold adv; split <;> exact h)
/-- a probe from the c-th step on: the first slot of equal hash, or the first empty one -/
theorem probe_way (t : SetTable) (r : Ris t.place.toList) (dm : t.dummies = #[]) (hashAt : Nat → Int) (h : Int) {K c : Nat} (hc : c ≤ K) (hf : K < 10 * SetTable.turns t.mask)
    (hK : way t.mask h K ∉ t.place.toList) (hb : ∀ d, d < K → way t.mask h d ∈ t.place.toList) :
    (∃ e i, c ≤ e ∧ e < K ∧ t.place.toList[i]? = some (way t.mask h e) ∧ hashAt i = h ∧ (∀ d j, c ≤ d → d < e → t.place.toList[j]? = some (way t.mask h d) → hashAt j ≠ h) ∧
      t.probe hashAt h (nth t.mask (st0 t.mask h) c) = some (.candidate (way t.mask h e) i (nth t.mask (st0 t.mask h) (e + 1)))) ∨
    ((∀ d j, c ≤ d → d < K → t.place.toList[j]? = some (way t.mask h d) → hashAt j ≠ h) ∧ t.probe hashAt h (nth t.mask (st0 t.mask h) c) = some (.empty (way t.mask h K) none)) := by
  have sh : ∀ q, nth t.mask (nth t.mask (st0 t.mask h) c) q = nth t.mask (st0 t.mask h) (c + q) := fun q => (nth_add t.mask c (st0 t.mask h) q).symm
  have sj : ∀ q, (nth t.mask (nth t.mask (st0 t.mask h) c) q).j = way t.mask h (c + q) := fun q => by rw [sh]
  have main := go_spec t r dm hashAt h (10 * SetTable.turns t.mask) (K - c) (nth t.mask (st0 t.mask h) c) (nth_dummy _ _ _ rfl) (by omega) (fun q hq => by rw [sj]; exact hb _ (by omega)) (by rw [sj, show c + (K - c) = K by omega]; exact hK)
  rcases main with ⟨q, i, h1, h2, h3, h4, h5⟩ | ⟨h1, h2⟩
  · refine .inl ⟨c + q, i, by omega, by omega, by rw [← sj]; exact h2, h3, fun d j hd hd' hj => h4 (d - c) j (by omega) (by rw [sj, show c + (d - c) = d by omega]; exact hj), ?_⟩
    rw [← sj, show c + q + 1 = c + (q + 1) by omega, ← sh]
    exact h5
  · refine .inr ⟨fun d j hd hd' hj => h1 (d - c) j (by omega) (by rw [sj, show c + (d - c) = d by omega]; exact hj), ?_⟩
    rw [show way t.mask h K = (nth t.mask (nth t.mask (st0 t.mask h) c) (K - c)).j by rw [sj, show c + (K - c) = K by omega]]
    exact h2

/-- the set at a: its tuples in the order of their slots -/
structure Tbl (P : Program) (w : World) (h : Heap) (a : Addr) (L : List (Addr × List Int)) (es : Array (Int × Value)) (ep : Nat) (t : SetTable) : Prop where
  ob : ∃ o, h.get? a = some o ∧ o.ExactSet ∧ o.data = .set es ep t
  fits : t.fits es.size = true
  odd : ¬ t.gaveWay = true
  ris : Ris t.place.toList
  dm : t.dummies = #[]
  sz : t.place.size = L.length
  rows : es.toList = rowsOf P w L
  tup : ∀ p ∈ L, IsT P w h p.2 p.1
section
variable {P : Program} {w : World} {A : Around} {E : Value → Shared → Prop} {s : Shared} {a : Addr} {L : List (Addr × List Int)} {es : Array (Int × Value)} {ep : Nat} {t : SetTable}
theorem Tbl.row (B : Tbl P w s.heap a L es ep t) {i : Nat} {p : Addr × List Int} (h : L[i]? = some p) : es[i]? = some (thash P w p.2, Value.ref p.1) := by
  have e := congrArg (fun l => l[i]?) B.rows
  simp only [rowsOf, List.getElem?_map, h, Option.map_some, Array.getElem?_toList] at e
  exact e
theorem SetTR.tbl (R : SetTR P w s.heap a L es ep t) : Tbl P w s.heap a L es ep t :=
  ⟨R.ob, R.fits, R.gw, R.tab.ris, R.tab.dm, by rw [R.tab.sz, List.length_map], R.rows, R.tup⟩
/-- the walk through the table, adding or only asking -/
theorem tsearch (B : Tbl P w s.heap a L es ep t) {x : Addr} {k : List Int} (hx : IsT P w s.heap k x) (hu : A.units < cLine) (adding : Bool) {K : Nat} (hKf : K < 10 * SetTable.turns t.mask)
    (hK : way t.mask (thash P w k) K ∉ t.place.toList) (hKb : ∀ c, c < K → way t.mask (thash P w k) c ∈ t.place.toList) {Q : SetFound → Shared → Prop}
    (hin : ∀ i p, L[i]? = some p → p.2 = k → Q (.there (if adding = true then none else some i)) s) (hout : k ∉ L.map (·.2) → Q (.free (way t.mask (thash P w k) K) false) s) :
    ∀ (f c : Nat) (stand : Option SetTable.Probe), stand.getD (t.probeStart (thash P w k)) = nth t.mask (st0 t.mask (thash P w k)) c → c ≤ K → K < f + c →
      (∀ (i : Nat) p, L[i]? = some p → p.2 = k → ∃ d, c ≤ d ∧ d < K ∧ t.place.toList[i]? = some (way t.mask (thash P w k) d)) →
      wpAny (model P w) A (setSearchFrom a (.ref x) (thash P w k) adding f stand) Q E s
  | 0, c, _, _, hc, hf, _ => by omega
  | f + 1, c, stand, hst, hc, hf, hre => by
    obtain ⟨o, ho, hex, hd⟩ := B.ob
    rw [setSearchFrom_succ]
    refine wpAny_bind (wpAny_setState_of ho hd B.fits ?_)
    dsimp only
    refine wp_if_neg B.odd ?_
    try refine wpAny_bind (wpAny_pure ?_)
    rw [hst]
    have hashAt : ∀ (i : Nat) p, L[i]? = some p → (fun i => (es[i]?.map (·.1)).getD 0) i = thash P w p.2 := fun i p hp => by
      dsimp only
      rw [B.row hp]
      rfl
    rcases probe_way t B.ris B.dm (fun i => (es[i]?.map (·.1)).getD 0) (thash P w k) hc hKf hK hKb with ⟨e, i, e1, e2, e3, e4, e5, e6⟩ | ⟨e5, e6⟩
    · rw [e6]
      dsimp only
      have hil : i < L.length := by
        have q := (List.getElem?_eq_some_iff.mp e3).1
        rw [Array.length_toList, B.sz] at q
        exact q
      obtain ⟨p, hp⟩ : ∃ p, L[i]? = some p := ⟨L[i], List.getElem?_eq_getElem hil⟩
      have hmem := List.mem_of_getElem? hp
      have live := slot_live B.ris e3
      have rest : wpAny (model P w) A (searchRest a (.ref x) (thash P w k) adding f es t (way t.mask (thash P w k) e) i (nth t.mask (st0 t.mask (thash P w k)) (e + 1))) Q E s := by
        unfold searchRest
        rw [B.row hp]
        dsimp only
        refine wpAny_bind (wpAny_holding (wpAny_eqBool_tuple hu (B.tup p hmem) hx ?_))
        refine wpAny_bind (wpAny_setState_of ho hd B.fits ?_)
        dsimp only
        by_cases hk : p.2 = k
        · cases adding with
          | true =>
            refine wp_if_pos (by simp [hk]) ?_
            exact wpAny_pure (hin i p hp hk)
          | false =>
            refine wp_if_neg (by simp) ?_
            try refine wpAny_bind (wpAny_pure ?_)
            rw [sameMem]
            dsimp only
            simp only [if_true, live, B.row hp]
            refine wpAny_bind (wpAny_isSame_ref_self (wpAny_bind (wpAny_pure ?_)))
            simp only [if_true]
            refine wp_if_pos (by simp [hk]) ?_
            exact wpAny_pure (hin i p hp hk)
        · refine wp_if_neg (by simp [hk]) ?_
          try refine wpAny_bind (wpAny_pure ?_)
          rw [sameMem]
          dsimp only
          simp only [if_true, live, B.row hp]
          refine wpAny_bind (wpAny_isSame_ref_self (wpAny_bind (wpAny_pure ?_)))
          simp only [if_true]
          refine wp_if_neg (by simp [hk]) ?_
          refine tsearch B hx hu adding hKf hK hKb hin hout f (e + 1) _ rfl (by omega) (by omega) fun i0 p0 h0 hk0 => ?_
          obtain ⟨d, a1, a2, a3⟩ := hre i0 p0 h0 hk0
          have hh : (fun i => (es[i]?.map (·.1)).getD 0) i0 = thash P w k := by rw [hashAt i0 p0 h0, hk0]
          refine ⟨d, ?_, a2, a3⟩
          rcases Nat.lt_trichotomy d e with z | z | z
          · exact absurd hh (e5 d i0 a1 z a3)
          · subst z
            have q := slot_live B.ris a3
            rw [live] at q
            injection q with q
            subst q
            rw [hp] at h0
            cases h0
            exact absurd hk0 hk
          · exact z
      by_cases hl : t.led = true
      · refine wp_if_neg (by simp [hl]) ?_
        try refine wpAny_bind (wpAny_pure ?_)
        exact rest
      · refine wp_if_pos (by simp [hl]) ?_
        refine wpAny_bind (seen_tup hx (fun y hy => ?_) ?_)
        · obtain ⟨z, hz, ez⟩ := List.mem_map.mp hy
          have z2 : z ∈ es.toList := by
            have z1 : z ∈ es ∧ z.1 = thash P w k := by simpa using hz
            simpa using z1.1
          rw [B.rows] at z2
          obtain ⟨p2, hp2, e2⟩ := List.mem_map.mp z2
          exact ⟨p2.2, p2.1, by rw [← ez, ← e2], B.tup p2 hp2⟩
        · refine wp_if_neg (by decide) ?_
          try refine wpAny_bind (wpAny_pure ?_)
          exact rest
    · rw [e6]
      dsimp only
      refine wpAny_pure (hout fun hm => ?_)
      obtain ⟨p0, h0, hk0⟩ := List.mem_map.mp hm
      obtain ⟨i0, hi0⟩ := List.mem_iff_getElem?.mp h0
      obtain ⟨d, a1, a2, a3⟩ := hre i0 p0 hi0 hk0
      exact e5 d i0 a1 a2 a3 ((hashAt i0 p0 hi0).trans (congrArg (thash P w) hk0))
/-- setFind -/
theorem tfind (R : SetTR P w s.heap a L es ep t) {x : Addr} {k : List Int} (hx : IsT P w s.heap k x) (hu : A.units < cLine) {Q : Option Nat → Shared → Prop} (h : ∀ r : Option Nat, r.isSome = decide (k ∈ L.map (·.2)) → Q r s) :
    wpAny (model P w) A (setFind a (.ref x) (thash P w k)) Q E s := by
  obtain ⟨o, ho, hex, hd⟩ := R.ob
  have hroom := R.room
  obtain ⟨K, hKf, hK, hKb⟩ := R.tab.first (by rw [List.length_map]; omega) (thash P w k)
  have big : K < 100000 := by
    have : 10 * SetTable.turns t.mask ≤ 1420 := by
      unfold SetTable.turns
      rcases R.tab.mok with e | e | e <;> omega
    omega
  unfold setFind setFindIn
  refine wpAny_bind (wpAny_setState_of ho hd R.fits ?_)
  dsimp only
  have scan : byScan (.ref x) es = false := by rfl
  refine wp_if_neg (by rw [scan]; decide) ?_
  try refine wpAny_bind (wpAny_pure ?_)
  unfold setSearch
  refine wpAny_bind (tsearch (SetTR.tbl R) hx hu false hKf hK hKb (fun i p hp hk => ?_) (fun hn => ?_) 100000 0 none rfl (Nat.zero_le _) (by omega) fun i p hp hk => ?_)
  · refine wpAny_pure (h (some i) ?_)
    exact (decide_eq_true (List.mem_map.mpr ⟨p, List.mem_of_getElem? hp, hk⟩)).symm
  · exact wpAny_pure (h none (decide_eq_false hn).symm)
  · have hi : (L.map fun p => thash P w p.2)[i]? = some (thash P w k) := by rw [List.getElem?_map, hp, ← hk]; rfl
    have hil : i < t.place.toList.length := by
      have h1 := (List.getElem?_eq_some_iff.mp hp).1
      rw [Array.length_toList, R.tab.sz, List.length_map]
      exact h1
    have hj := List.getElem?_eq_getElem hil
    obtain ⟨c, hc, e⟩ := R.tab.before hK hi hj
    exact ⟨c, Nat.zero_le _, hc, by rw [hj, e]⟩
/-- contains -/
theorem tcontains (R : SetTR P w s.heap a L es ep t) {x : Addr} {k : List Int} (hx : IsT P w s.heap k x) (hu : A.units + 10 < cLine) {Q : Bool → Shared → Prop} (h : ∀ tk, Q (decide (k ∈ L.map (·.2))) { s with toks := tk }) :
    wpAny (model P w) A (contains (.ref a) (.ref x)) Q E s := by
  obtain ⟨o, ho, hex, hd⟩ := id R.ob
  have hT : s.TypeIs (.ref a) "set" := ⟨o, ho, hex.1⟩
  unfold contains
  try with_reducible refine wpAny_holding ?_
  refine wpAny_bind (wpAny_specialOf hT PySem.F.slot_set_contains.lookup ?_)
  show wpAny _ _ (if (some (Value.builtin "set.__contains__") == some Value.none) = true then _ else _) _ _ _
  rw [if_neg (by rw [beq_builtin_none]; exact Bool.false_ne_true)]
  refine wpAny_bind (wpAny_callSpecialUnlessNone?_slot (name := Str.ofString "__contains__") hT PySem.F.slot_set_contains (wpAny_call_entry PySem.F.slot_set_contains hT entry_set_contains ?_ (PySem.F.args_set_contains_2 _ _)))
  unfold Builtin.«frozenset.__contains__» Builtin.Frozenset.oneOther
  simp only [List.isEmpty_nil, bind_assoc]
  unfold Builtin.Frozenset.addrOf Builtin.Frozenset.withSetAsKey setContains
  refine wpAny_bind (wpAny_pure ?_)
  try dsimp only
  refine wpAny_bind (wpAny_pure ?_)
  try dsimp only
  refine wpAny_bind (wpAny_tryCatch ?_)
  refine wpAny_holding ?_
  refine wpAny_bind (wpAny_pyHash_tuple (by first | exact Nat.lt_of_le_of_lt (by simp) hu | omega) hx ?_)
  refine wpAny_bind (tfind (s := { s with toks := s.toks + (k.length + 1) }) R hx (by first | exact Nat.lt_of_le_of_lt (by simp) hu | omega) fun r hr => ?_)
  refine wpAny_pure ?_
  show wpAny _ _ (ret (Value.bool r.isSome)) _ _ _
  rw [hr]
  exact wpAny_pure ⟨_, rfl, wpAny_truthy_bool (h _)⟩
end
/-- x in s, x not in s: s a set of tuples of whole numbers -/
def rInTs (X : Cx) (neg : Bool) : R2 := fun x y H Q => ∃ b a k L, x = .ref b ∧ y = .ref a ∧ SqT X.K H b (k.map V.int) ∧ H a = some (SetTO X.prog X.w a L) ∧ (∀ p ∈ L, SqT X.K H p.1 (p.2.map V.int)) ∧ Q (.bl (if neg then !decide (k ∈ L.map (·.2)) else decide (k ∈ L.map (·.2)))) H
section
variable {X : Cx}
theorem op_inTs (hu : X.A.units + 20 < cLine) : OpR X (compareOp .In) (rInTs X false) := by
  intro pins s σ H x y v u Q I rx ry h
  obtain ⟨b, a, k, L, rfl, rfl, hb, ha, hL, q⟩ := h
  cases rx
  cases ry
  have R0 : SetT0 X.prog X.w s.heap a L := (I.hok a _ ha).1
  obtain ⟨es, ep, t, R⟩ := R0.full fun p hp => I.isT (hL p hp)
  show wpAny _ _ (do return Value.bool (← contains (.ref a) (.ref b))) _ _ _
  exact wpAny_bind (tcontains R (I.isT hb) (by omega) fun tk => wpAny_pure ⟨.bl _, H, I.tok tk, rfl, q⟩)
theorem op_notInTs (hu : X.A.units + 20 < cLine) : OpR X (compareOp .NotIn) (rInTs X true) := by
  intro pins s σ H x y v u Q I rx ry h
  obtain ⟨b, a, k, L, rfl, rfl, hb, ha, hL, q⟩ := h
  cases rx
  cases ry
  have R0 : SetT0 X.prog X.w s.heap a L := (I.hok a _ ha).1
  obtain ⟨es, ep, t, R⟩ := R0.full fun p hp => I.isT (hL p hp)
  show wpAny _ _ (do return Value.bool (!(← contains (.ref a) (.ref b)))) _ _ _
  exact wpAny_bind (tcontains R (I.isT hb) (by omega) fun tk => wpAny_pure ⟨.bl _, H, I.tok tk, rfl, q⟩)
end
end Mp
set_option Elab.async false
set_option maxRecDepth 100000
set_option maxHeartbeats 4000000
/-! MpB1: sets of up to 1200 tuples of whole numbers: added to, asked, made of a list. -/
namespace Mp
open PySem PySem.Spec PyProof.Rows L2 Evl

/-- the set at a holds the tuples L, in the order of their slots -/
structure BS (P : Program) (w : World) (h : Heap) (a : Addr) (L : List (Addr × List Int)) (es : Array (Int × Value)) (ep : Nat) (t : SetTable) : Prop where
  ob : ∃ o, h.get? a = some o ∧ o.ExactSet ∧ o.data = .set es ep t
  rows : es.toList = rowsOf P w L
  tab : TB t (L.map fun p => thash P w p.2)
  nd : (L.map (·.2)).Nodup
  tup : ∀ p ∈ L, IsT P w h p.2 p.1
  plain : t.plain = true
  led : w.params.followText "set-order" = true ∨ t.led = true
  room : L.length * 5 < t.mask * 3
theorem grow_next {m n : Nat} (hm : BM m) (h1 : n * 5 < m * 3) (h2 : m * 3 ≤ (n + 1) * 5) (h3 : n + 1 < 1200) :
    BM (SetTable.sizeAbove (SetTable.grown (n + 1)) - 1) ∧ SetTable.sizeAbove (SetTable.grown (n + 1)) ≤ 2048 ∧ (n + 1) * 5 < (SetTable.sizeAbove (SetTable.grown (n + 1)) - 1) * 3 ∧ n + 1 ≤ m := by
  rcases hm with e | e | e | e | e <;> subst e
  · obtain rfl : n = 4 := by omega
    exact ⟨.inr (.inl (by decide +kernel)), by decide +kernel, by decide +kernel, by decide⟩
  · obtain rfl : n = 18 := by omega
    exact ⟨.inr (.inr (.inl (by decide +kernel))), by decide +kernel, by decide +kernel, by decide⟩
  · obtain rfl : n = 76 := by omega
    exact ⟨.inr (.inr (.inr (.inl (by decide +kernel)))), by decide +kernel, by decide +kernel, by decide⟩
  · obtain rfl : n = 306 := by omega
    exact ⟨.inr (.inr (.inr (.inr (by decide +kernel)))), by decide +kernel, by decide +kernel, by decide⟩
  · omega
section
variable {P : Program} {w : World} {A : Around} {E : Value → Shared → Prop} {s : Shared} {a : Addr} {L : List (Addr × List Int)} {es : Array (Int × Value)} {ep : Nat} {t : SetTable}
theorem rows_size {L : List (Addr × List Int)} {es : Array (Int × Value)} (h : es.toList = rowsOf P w L) : es.size = L.length := by
  have q := congrArg List.length h
  rw [rowsOf, Array.length_toList, List.length_map] at q
  exact q
theorem fits_of {n : Nat} (sz : t.place.size = n) (dm : t.dummies = #[]) (h : n ≤ t.mask) : t.fits n = true := by
  unfold SetTable.fits SetTable.fill
  rw [sz, dm]
  simp [h]
theorem BS.few (B : BS P w s.heap a L es ep t) : L.length < 1229 := by
  have := B.room
  have := B.tab.bm.le
  omega
theorem BS.size (B : BS P w s.heap a L es ep t) : es.size = L.length := rows_size B.rows
theorem BS.placed (B : BS P w s.heap a L es ep t) : t.place.size = L.length := by rw [B.tab.len, List.length_map]
theorem BS.fits (B : BS P w s.heap a L es ep t) : t.fits es.size = true := by
  rw [B.size]
  exact fits_of B.placed B.tab.dm (by have := B.room; omega)
theorem BS.tbl (B : BS P w s.heap a L es ep t) : Tbl P w s.heap a L es ep t where
  ob := B.ob
  fits := B.fits
  odd := by
    unfold SetTable.gaveWay
    rw [B.tab.bm.odd]
    decide
  ris := B.tab.ris
  dm := B.tab.dm
  sz := B.placed
  rows := B.rows
  tup := B.tup
/-- the search -/
theorem BS.search (B : BS P w s.heap a L es ep t) {x : Addr} {k : List Int} (hx : IsT P w s.heap k x) (hu : A.units < cLine) (adding : Bool) {Q : SetFound → Shared → Prop}
    (hin : ∀ i p, L[i]? = some p → p.2 = k → Q (.there (if adding = true then none else some i)) s)
    (hout : ∀ K, k ∉ L.map (·.2) → way t.mask (thash P w k) K ∉ t.place.toList → (∀ d, d < K → way t.mask (thash P w k) d ∈ t.place.toList) → Q (.free (way t.mask (thash P w k) K) false) s) :
    wpAny (model P w) A (setSearch a (.ref x) (thash P w k) adding) Q E s := by
  obtain ⟨K, k1, k2, k3⟩ := B.tab.gap (by rw [List.length_map]; have := B.room; omega) (thash P w k)
  unfold setSearch
  refine tsearch B.tbl hx hu adding k1 k2 k3 hin (fun hn => hout K hn k2 k3) 100000 0 none rfl (Nat.zero_le _) ?_ fun i p hp hk => ?_
  · have := B.tab.bm.le
    unfold SetTable.turns at k1
    omega
  · have hi : (L.map fun p => thash P w p.2)[i]? = some (thash P w k) := by rw [List.getElem?_map, hp, ← hk]; rfl
    have lt : i < t.place.toList.length := by
      rw [Array.length_toList, B.placed]
      exact (List.getElem?_eq_some_iff.mp hp).1
    have hj := List.getElem?_eq_getElem lt
    obtain ⟨d, d1, d2⟩ := B.tab.ahead k2 hi hj
    exact ⟨d, Nat.zero_le _, d1, by rw [hj, d2]⟩
/-- the table is laid anew, wider -/
theorem relay_big {o : Obj} (ho : s.heap.get? a = some o) (hex : o.ExactSet) (hd : o.data = .set es ep t) (hr : es.toList = rowsOf P w L) (sz : t.place.size = L.length) (dm : t.dummies = #[]) (hm : L.length ≤ t.mask)
    (nd : (L.map (·.2)).Nodup) (tup : ∀ p ∈ L, IsT P w s.heap p.2 p.1) (pl : t.plain = true) (ld : w.params.followText "set-order" = true ∨ t.led = true) {wanted : Nat} (hM : BM (SetTable.sizeAbove wanted - 1)) (hw : SetTable.sizeAbove wanted ≤ 2048)
    (room : L.length * 5 < (SetTable.sizeAbove wanted - 1) * 3) {Q : Unit → Shared → Prop}
    (hq : ∀ h2 L2 es2 ep2 t2, Heap.SameBut a s.heap h2 → BS P w h2 a L2 es2 ep2 t2 → L2.Perm L → Q () { s with heap := h2 }) : wpAny (model P w) A (setRelay a wanted) Q E s := by
  have es_n := rows_size hr
  obtain ⟨t2, order, r1, r2, r3, r4, r5, r6⟩ := relaid_big t (hs := es.map (·.1)) rfl hM (by rw [Array.size_map, es_n]; omega)
  rw [Array.size_map, es_n] at r2
  obtain ⟨L2, q1, q2, q3⟩ := order_rows L es order hr r2
  rw [← q3] at r3
  have es2_n : (order.filterMap (es[·]?)).size = es.size := by rw [rows_size q1, q2.length_eq, es_n]
  rw [setRelay_eq]
  refine wpAny_bind (wpAny_setState_of ho hd (by rw [es_n]; exact fits_of sz dm hm) ?_)
  dsimp only
  refine wp_if_neg (Nat.not_lt.mpr (Nat.le_trans hw (by rw [sizeLine_eq]; omega))) ?_
  try refine wpAny_bind (wpAny_pure ?_)
  rw [r1]
  dsimp only
  refine wpAny_bind ?_
  refine wp_if_neg (by simp [es2_n]) ?_
  try refine wpAny_bind (wpAny_pure ?_)
  refine wpAny_pure ?_
  dsimp only
  have few : L.length ≤ 2047 := Nat.le_trans (by omega) hM.le
  refine wpAny_storeSet_of ho hd ?_ (by rw [es2_n, es_n, sizeLine_eq]; omega)
  exact hq _ L2 _ (ep + 1) t2 (Heap.SameBut.update ..) ⟨⟨_, store_at ho hd, ⟨hex.1, hex.2.1, hex.2.2⟩, rfl⟩, q1, r3, (q2.map (·.2)).nodup_iff.mpr nd, fun p hp => isT_same (tup p (q2.mem_iff.mp hp)) ho hd (Heap.SameBut.update ..),
    by rw [r6]; exact pl, by rw [r5]; exact ld, by rw [q2.length_eq, r4]; exact room⟩ q2
/-- one more tuple -/
theorem BS.put (B : BS P w s.heap a L es ep t) {x : Addr} {k : List Int} (hx : IsT P w s.heap k x) (hu : A.units < cLine) (few : L.length + 1 < 1200) {Q : Bool → Shared → Prop}
    (hq : ∀ b h2 L2 es2 ep2 t2, Heap.SameBut a s.heap h2 → BS P w h2 a L2 es2 ep2 t2 → (k ∈ L.map (·.2) ∧ L2 = L ∨ k ∉ L.map (·.2) ∧ L2.Perm ((x, k) :: L)) → Q b { s with heap := h2 }) :
    wpAny (model P w) A (setAddHashed a (.ref x) (thash P w k)) Q E s := by
  obtain ⟨o, ho, hex, hd⟩ := B.ob
  have es_n := B.size
  have room := B.room
  unfold setAddHashed
  refine wpAny_holding ?_
  show wpAny _ _ (setAddHashedIn a (.ref x) (thash P w k) (99999 + 1)) _ _ _
  rw [setAddHashedIn_succ]
  refine wpAny_bind (wpAny_setState_of ho hd B.fits ?_)
  dsimp only
  refine wp_if_neg (show ¬ byScan (.ref x) es = true from fun z => nomatch (z : false = true)) ?_
  try refine wpAny_bind (wpAny_pure ?_)
  refine wpAny_bind (B.search hx hu true (fun i p hp hk => ?_) fun K hm hK hb => ?_)
  · dsimp only
    exact wpAny_pure (hq false s.heap L es ep t (Heap.SameBut.refl a s.heap) B (.inl ⟨List.mem_map.mpr ⟨p, List.mem_of_getElem? hp, hk⟩, rfl⟩))
  · dsimp only
    refine wpAny_bind (wpAny_setState_of ho hd B.fits ?_)
    dsimp only
    obtain ⟨c1, c2, c3⟩ := B.tab.add hK hb rfl
    have led1 : (t.put (way t.mask (thash P w k) K)).1.led = t.led := rfl
    have plain1 : (t.put (way t.mask (thash P w k) K)).1.plain = true := B.plain
    have mask1 : (t.put (way t.mask (thash P w k) K)).1.mask = t.mask := rfl
    have pos1 : (t.put (way t.mask (thash P w k) K)).2 = SetTable.below t.place (way t.mask (thash P w k) K) := rfl
    generalize SetTable.below t.place (way t.mask (thash P w k) K) = p at c1 c2 pos1
    generalize t.put (way t.mask (thash P w k) K) = tp at c2 c3 led1 plain1 mask1 pos1 ⊢
    obtain ⟨t1, p1⟩ := tp
    dsimp only at c2 c3 led1 plain1 mask1 pos1 ⊢
    subst pos1
    first
      | (refine wpAny_bind ?_; refine wp_if_pos plain1 ?_; refine hashBy_tup hx ?_)
      | refine wp_if_pos plain1 (wpAny_bind (hashBy_tup hx ?_))
    simp only [if_true]
    rw [List.length_map] at c1 c3
    have perm := put_perm L p1 (x, k)
    have rows1 : (SetTable.insertAt es p1 (thash P w k, Value.ref x)).toList = rowsOf P w (L.take p1 ++ (x, k) :: L.drop p1) := by rw [SetTable.toList_insertAt, rows_put, B.rows]
    have tab1 : TB t1 ((L.take p1 ++ (x, k) :: L.drop p1).map fun p => thash P w p.2) := by
      rw [List.map_append, List.map_cons, List.map_take, List.map_drop]
      exact c2
    generalize SetTable.insertAt es p1 (thash P w k, Value.ref x) = es1 at rows1 ⊢
    generalize L.take p1 ++ (x, k) :: L.drop p1 = L1 at perm rows1 tab1
    have n1 : L1.length = L.length + 1 := perm.length_eq
    have nd1 : (L1.map (·.2)).Nodup := (perm.map (·.2)).nodup_iff.mpr (List.nodup_cons.mpr ⟨hm, B.nd⟩)
    refine wpAny_bind (wpAny_storeSet_of ho hd ?_ (by rw [rows_size rows1, n1, sizeLine_eq]; omega))
    have same : Heap.SameBut a s.heap (s.heap.update a (Obj.putSet es1 t1)) := Heap.SameBut.update ..
    have ho1 := store_at (es' := es1) (t' := t1) ho hd
    generalize s.heap.update a (Obj.putSet es1 t1) = h1 at same ho1 ⊢
    have tup1 : ∀ q ∈ L1, IsT P w h1 q.2 q.1 := fun q hq => by
      rcases List.mem_cons.mp (perm.mem_iff.mp hq) with e | z
      · subst e
        exact isT_same hx ho hd same
      · exact isT_same (B.tup q z) ho hd same
    have lead1 : w.params.followText "set-order" = true ∨ t1.led = true := by rw [led1]; exact B.led
    have full : t1.tooFull = decide (t.mask * 3 ≤ (L.length + 1) * 5) := by
      unfold SetTable.tooFull
      rw [c3, mask1]
    by_cases hf : t1.tooFull = true
    · first
        | (refine wpAny_bind ?_; refine wp_if_pos (by simp [hf]) ?_)
        | (refine wp_if_pos (by simp [hf]) ?_; refine wpAny_bind ?_)
      obtain ⟨g1, g2, g3, g4⟩ := grow_next B.tab.bm room (of_decide_eq_true (full.symm.trans hf)) few
      rw [es_n]
      refine relay_big (s := { s with heap := h1 }) ho1 ⟨hex.1, hex.2.1, hex.2.2⟩ rfl rows1 (by rw [tab1.len, List.length_map]) tab1.dm (by rw [n1, mask1]; exact g4) nd1 tup1 plain1 lead1 g1 g2 (by rw [n1]; exact g3) fun h2 L2 es2 ep2 t2 same2 B2 perm2 => ?_
      exact wpAny_pure (hq true h2 L2 es2 ep2 t2 (same.trans same2) B2 (.inr ⟨hm, perm2.trans perm⟩))
    · first
        | refine wp_if_neg (by simp [hf]) ?_
        | (refine wpAny_bind ?_; refine wp_if_neg (by simp [hf]) ?_; refine wpAny_pure ?_)
      refine wpAny_pure (hq true h1 L1 es1 (ep + 1) t1 same ⟨⟨_, ho1, ⟨hex.1, hex.2.1, hex.2.2⟩, rfl⟩, rows1, tab1, nd1, tup1, plain1, lead1, ?_⟩ (.inr ⟨hm, perm⟩))
      rw [full] at hf
      have hf2 := of_decide_eq_false (Bool.eq_false_iff.mpr hf)
      rw [n1, mask1]
      omega
/-- kept -/
theorem BS.keep {h h2 : Heap} (B : BS P w h a L es ep t) (k : ∀ o, h.get? a = some o → h2.get? a = some o) (kt : ∀ p ∈ L, IsT P w h2 p.2 p.1) : BS P w h2 a L es ep t := by
  obtain ⟨o, ho, q⟩ := B.ob
  exact ⟨⟨o, k o ho, q⟩, B.rows, B.tab, B.nd, kt, B.plain, B.led, B.room⟩
theorem bs_fresh {h : Heap} {a : Addr} (ho : h.get? a = some { cls := .type "set", dict := none, data := .set #[] 0 (.fresh 0 0 (!w.params.followText "set-order")) }) : BS P w h a [] #[] 0 (.fresh 0 0 (!w.params.followText "set-order")) where
  ob := ⟨_, ho, ⟨rfl, rfl, rfl⟩, rfl⟩
  rows := rfl
  tab := ⟨List.Pairwise.nil, rfl, rfl, .inl rfl, nofun, fun i h j hi => by simp at hi⟩
  nd := List.nodup_nil
  tup := nofun
  plain := rfl
  led := by
    show _ ∨ (!w.params.followText "set-order") = true
    cases w.params.followText "set-order" <;> simp
  room := show 0 * 5 < 7 * 3 by decide
end
end Mp
set_option Elab.async false
set_option maxRecDepth 100000
set_option maxHeartbeats 4000000
/-! MpB2: set(list of tuples), x in the set, sorted(the set). -/
namespace Mp
open PySem PySem.Spec PyProof.Rows L2 Evl
section
variable {P : Program} {w : World} {A : Around} {E : Value → Shared → Prop} {s : Shared} {a : Addr} {L : List (Addr × List Int)} {es : Array (Int × Value)} {ep : Nat} {t : SetTable}
/-- the set holds what the first i items bring -/
structure Hold2 (ks : List (Addr × List Int)) (i : Nat) (L : List (Addr × List Int)) : Prop where
  from_ : ∀ p ∈ L, p ∈ ks
  to_ : ∀ p ∈ ks.take i, p.2 ∈ L.map (·.2)
theorem Hold2.step {ks L L2 : List (Addr × List Int)} {i : Nat} {p : Addr × List Int} (g : Hold2 ks i L) (hp : ks[i]? = some p) (h : p.2 ∈ L.map (·.2) ∧ L2 = L ∨ p.2 ∉ L.map (·.2) ∧ L2.Perm (p :: L)) : Hold2 ks (i + 1) L2 := by
  have split : ∀ q, q ∈ ks.take (i + 1) → q ∈ ks.take i ∨ q = p := fun q hq => by
    rw [List.take_succ, hp] at hq
    rcases List.mem_append.mp hq with z | z
    · exact .inl z
    · exact .inr (List.mem_singleton.mp z)
  rcases h with ⟨hm, rfl⟩ | ⟨_, perm⟩
  · exact ⟨g.from_, fun q hq => (split q hq).elim (g.to_ q) fun z => z ▸ hm⟩
  · refine ⟨fun q hq => ?_, fun q hq => (perm.map (·.2)).mem_iff.mpr ?_⟩
    · rcases List.mem_cons.mp (perm.mem_iff.mp hq) with z | z
      · exact z ▸ List.mem_of_getElem? hp
      · exact g.from_ q z
    · rcases split q hq with z | z
      · exact List.mem_cons_of_mem _ (g.to_ q z)
      · exact z ▸ List.mem_cons_self
/-- the distinct ones are few -/
def FewB (ks : List (Addr × List Int)) : Prop := ∀ L : List (List Int), L.Nodup → (∀ x ∈ L, x ∈ ks.map (·.2)) → L.length < 1199
theorem bs_loop {I S : Addr} {fp wr : List Addr} {G : Array GenState → Array GenState → Prop} {n : Nat} {Pv : Nat → Value → Prop} {St : Nat → Shared → Prop} {R : Result → Shared → Prop} (W : WalksS P w A.in1 I fp wr G n Pv St) (S1 : S ∉ fp)
    {ks : List (Addr × List Int)} (hn : n = ks.length) (few : FewB ks) (hv : ∀ i v, Pv i v → ∃ p, ks[i]? = some p ∧ v = .ref p.1) {hB : Heap} (hk : ∀ p ∈ ks, IsT P w hB p.2 p.1) (S2 : hB.get? S = none) (wB : ∀ b ∈ wr, hB.get? b = none) (hu : A.in1.units < cLine) :
    ∀ (k i : Nat) (s : Shared), i + k = n → St i s → (∀ b o, hB.get? b = some o → s.heap.get? b = some o) → (∃ L es ep t, BS P w s.heap S L es ep t ∧ Hold2 ks i L) →
      (∀ s2 L es ep t, Moved (S :: wr) G s s2 → BS P w s2.heap S L es ep t → Hold2 ks n L → (∀ b o, hB.get? b = some o → s2.heap.get? b = some o) → R (.ok (.ret .none)) s2) → codeAny (model P w) A (.builtin "set.update.loop" ⟨[.ref S, .ref I], []⟩) R s := by
  have S3 : S ∉ wr := fun z => S1 (W.sub S z)
  have incl : ∀ b ∈ wr, b ∈ S :: wr := fun b z => .tail _ z
  have kept : ∀ {s s2 : Shared}, Moved wr G s s2 → (∀ b o, hB.get? b = some o → s.heap.get? b = some o) → ∀ b o, hB.get? b = some o → s2.heap.get? b = some o := fun hm q b o z =>
    hm.heap b o (fun y => absurd (wB b y) (by rw [z]; exact nofun)) (q b o z)
  intro k
  induction k with
  | zero =>
    rintro i s rfl hst q ⟨L, es, ep, t, B, g⟩ hR
    refine codeAny_builtin F.entry_set_update_loop (by
      rw [Around.under_plainId F.plain_set_update_loop _]
      show wpAny _ A.in1 (pyNext (.ref I) >>= _) _ _ s
      refine wpAny_bind (W.done s _ _ hst fun s2 hm => ?_)
      have q2 := kept hm q
      exact wpAny_pure (hR s2 L es ep t (hm.mono incl) (B.keep (fun o z => hm.heap S o S3 z) fun p hp => isT_keep (hk p (g.from_ p hp)) q2) g q2))
  | succ k ih =>
    rintro i s hi hst q ⟨L, es, ep, t, B, g⟩ hR
    refine codeAny_builtin F.entry_set_update_loop (by
      rw [Around.under_plainId F.plain_set_update_loop _]
      show wpAny _ A.in1 (pyNext (.ref I) >>= _) _ _ s
      refine wpAny_bind (W.item i s _ _ (by omega) hst fun v s2 hP hst2 hm => ?_)
      obtain ⟨p, hp, rfl⟩ := hv i v hP
      have q2 := kept hm q
      have B2 : BS P w s2.heap S L es ep t := B.keep (fun o z => hm.heap S o S3 z) fun p hp => isT_keep (hk p (g.from_ p hp)) q2
      have hx : IsT P w s2.heap p.2 p.1 := isT_keep (hk p (List.mem_of_getElem? hp)) q2
      show wpAny _ A.in1 (holding [Value.ref p.1] (setAdd S (.ref p.1)) >>= _) _ _ s2
      unfold setAdd
      refine wpAny_bind (wpAny_holding (wpAny_holding (wpAny_bind (wpAny_pyHash_tuple hu hx ?_))))
      have fewL : L.length + 1 < 1200 := by
        have z := few (L.map (·.2)) B.nd fun x hx => by
          obtain ⟨q, hq, e⟩ := List.mem_map.mp hx
          exact e ▸ List.mem_map.mpr ⟨q, g.from_ q hq, rfl⟩
        rw [List.length_map] at z
        omega
      refine BS.put (s := { s2 with toks := s2.toks + (p.2.length + 1) }) B2 hx hu fewL fun b h3 L3 es3 ep3 t3 same B3 how => ?_
      have q3 : ∀ b o, hB.get? b = some o → h3.get? b = some o := fun b o z => (same.2 b (fun y => by rw [y, S2] at z; cases z)).trans (q2 b o z)
      refine wpAny_pure ⟨plainId_quiet F.plain_set_update_loop _, ih (i + 1) _ (by omega) (W.frame _ s2 _ _ hst2 (Nat.le_add_right _ _) fun b hb o z => (same.2 b (fun y : b = S => S1 (y ▸ hb))).trans z) q3 ⟨L3, es3, ep3, t3, B3, g.step hp how⟩ fun s4 L4 es4 ep4 t4 hm4 B4 g4 q4 => ?_⟩
      exact hR s4 L4 es4 ep4 t4 (Moved.trans W.gtrans ((hm.mono incl).then_heap (Nat.le_add_right _ _) fun b o hb z => (same.2 b (fun y : b = S => hb (y ▸ List.mem_cons_self))).trans z) hm4) B4 g4 q4)
abbrev newO (w : World) : Obj := { cls := .type "set", dict := none, data := .set #[] 0 (.fresh 0 0 (!w.params.followText "set-order")) }
abbrev newS (w : World) (s : Shared) : Shared := { s with heap := s.heap.push (newO w) }
set_option maxHeartbeats 6400000 in
/-- set(l) -/
theorem bs_call {l : Addr} {items : Array Value} {ks : List (Addr × List Int)} {Q : Value → Shared → Prop} (hh : A.handled = none) (hl : s.heap.IsList l items) (hit : items.toList = ks.map fun p => Value.ref p.1) (hk : ∀ p ∈ ks, IsT P w s.heap p.2 p.1) (few : FewB ks) (hu : A.units + 3 < cLine)
    (hq : ∀ (h2 : Heap) (tk : Nat) L es ep t, BS P w h2 s.heap.objs.size L es ep t → Hold2 ks ks.length L → (∀ b o, s.heap.get? b = some o → h2.get? b = some o) → Q (.ref s.heap.objs.size) { s with heap := h2, toks := tk }) : wpAny (model P w) A (call (.type "set") [.ref l]) Q E s := by
  have n_it : items.size = ks.length := by
    have q := congrArg List.length hit
    simpa using q
  obtain ⟨mc, mt, mro1⟩ := F.called_set.mro
  have made1 := F.called_set.made
  have sub1 := F.called_set.sub
  have nt1 := F.called_set.notType
  have cc1 := F.called_set.canCreate
  have tc1 := F.typeCall_set_1 (.ref l)
  have hS : (newS w s).heap.get? s.heap.objs.size = some (newO w) := Heap.get?_push_size _ rfl
  have isS : (newS w s).TypeIs (.ref s.heap.objs.size) "set" := ⟨_, hS, rfl⟩
  have li1 := F.called_set.init.lookup
  have bi1 := F.called_set.init.bind (.ref s.heap.objs.size)
  have none_from : ∀ b, s.heap.objs.size ≤ b → s.heap.get? b = none := fun b hb => Heap.get?_none_of_le hb
  refine wpAny_call (codeAny_of_tree (show wpAny _ _ (callAny (.type "set") _) _ _ _ from wpAny_pure ⟨Code.quiet_builtin _ (by decide +kernel), codeAny_builtin F.entry_type_call ?_⟩))
  rw [Around.under_plain (weight_type_call_type "set" [.ref l] []) rfl]
  repeat (any_goals (first | assumption | wp_step))
  refine codeAny_mono (code_set_led1 (.ref l) (E := E) (Q₁ := fun v s2 => v = .ref s.heap.objs.size ∧ s2 = newS w s) ⟨rfl, rfl⟩) fun r s2 hr => ?_
  match r, hr with
  | .error er, hr => exact hr
  | .ok .next, hr => exact hr.elim
  | .ok .brk, hr => exact hr.elim
  | .ok .cont, hr => exact hr.elim
  | .ok (.ret v), hr =>
    obtain ⟨rfl, rfl⟩ := hr
    repeat (any_goals (first | assumption | wp_step))
    refine codeAny_mono (codeAny_call_builtin (R := wants (fun v s2 => v = .none ∧ ∃ h2 tk L es ep t, s2 = { s with heap := h2, toks := tk } ∧ BS P w h2 s.heap.objs.size L es ep t ∧ Hold2 ks ks.length L ∧ ∀ b o, s.heap.get? b = some o → h2.get? b = some o) E)
      F.called_set.init.plain F.entry_set_init (check_set_init_1 isS ?_)) fun r s2 hr => ?_
    · obtain ⟨⟨lc, ld, lt, lsl⟩, hol, hcl, nl, hdl⟩ := hl
      dsimp only at hcl hdl
      subst hcl hdl
      have lt_l : l < s.heap.objs.size := Heap.lt_size hol
      have hol2 : (newS w s).heap.get? l = some { cls := .type "list", dict := ld, data := .seq items nl, slots := lsl } := Heap.get?_push_of_some _ hol
      have sub_a := F.sub_list_set
      have sub_b := F.sub_list_frozenset
      have not_d : (Value.type "list" == Value.type "dict") = false := by decide
      have isL : (newS w s).heap.IsList l items := ⟨_, hol2, rfl, nl, rfl⟩
      have handled3 : A.in1.in1.in1.handled = none := hh
      have sz1 : (newS w s).heap.objs.size = s.heap.objs.size + 1 := Heap.size_push ..
      have lI : l ≠ (newS w s).heap.objs.size := by rw [sz1]; exact Nat.ne_of_lt (Nat.lt_succ_of_lt lt_l)
      have notIn : s.heap.objs.size ∉ [(newS w s).heap.objs.size, l] := by
        rw [sz1]
        intro z
        rcases List.mem_cons.mp z with y | y
        · exact absurd y (Nat.ne_of_lt (Nat.lt_succ_self _))
        · rw [List.mem_singleton.mp y] at lt_l
          exact Nat.lt_irrefl _ lt_l
      have val : ∀ (i : Nat) (v : Value), items[i]? = some v → ∃ p, ks[i]? = some p ∧ v = .ref p.1 := fun i v z => by
        rw [← Array.getElem?_toList, hit, List.getElem?_map] at z
        cases y : ks[i]? with
        | none => rw [y] at z; cases z
        | some p =>
          rw [y] at z
          cases z
          exact ⟨p, rfl, rfl⟩
      unfold Builtin.«set.__init__» noKeywords Builtin.Frozenset.updateFrom
      generalize pi : pyIter = PI
      wp_walk
      subst pi
      refine wpAny_pyIter_list isL (wpAny_bind (wpAny_runValue ?_))
      refine bs_loop ((Walks.list handled3 _ l lI items).toS) notIn n_it few val hk (none_from _ (Nat.le_refl _)) (fun b hb => none_from b (by rw [List.mem_singleton.mp hb, sz1]; exact Nat.le_succ _)) hu items.size 0 _ (Nat.zero_add _)
        ⟨⟨_, Heap.get?_push_size _ rfl, rfl, rfl⟩, isL.push _⟩ (fun b o z => Heap.get?_push_of_some _ (Heap.get?_push_of_some _ z)) ⟨[], #[], 0, _, bs_fresh (Heap.get?_push_of_some _ hS), ⟨nofun, nofun⟩⟩ ?_
      rintro ⟨h2, g2, d2, tk, os2⟩ L es ep t hm B g q
      obtain rfl : g2 = s.gens := hm.gens
      obtain rfl : d2 = s.drawn := hm.drawn
      obtain rfl : os2 = s.os := hm.os
      rw [n_it] at g
      exact wpAny_pure (wpAny_pure ⟨rfl, h2, tk, L, es, ep, t, rfl, B, g, q⟩)
    · match r, hr with
      | .error er, hr => exact hr
      | .ok .next, hr => exact hr.elim
      | .ok .brk, hr => exact hr.elim
      | .ok .cont, hr => exact hr.elim
      | .ok (.ret v), hr =>
        obtain ⟨rfl, h2, tk, L, es, ep, t, rfl, B, g, q⟩ := hr
        repeat (any_goals (first | assumption | wp_step))
        exact hq _ _ _ _ _ _ B g q
set_option maxHeartbeats 6400000 in
/-- set(t) -/
theorem bs_callT {l : Addr} {items : Array Value} {ks : List (Addr × List Int)} {Q : Value → Shared → Prop} (hh : A.handled = none) (hl : s.heap.IsTuple l items) (hit : items.toList = ks.map fun p => Value.ref p.1) (hk : ∀ p ∈ ks, IsT P w s.heap p.2 p.1) (few : FewB ks) (hu : A.units + 3 < cLine)
    (hq : ∀ (h2 : Heap) (tk : Nat) L es ep t, BS P w h2 s.heap.objs.size L es ep t → Hold2 ks ks.length L → (∀ b o, s.heap.get? b = some o → h2.get? b = some o) → Q (.ref s.heap.objs.size) { s with heap := h2, toks := tk }) : wpAny (model P w) A (call (.type "set") [.ref l]) Q E s := by
  have n_it : items.size = ks.length := by
    have q := congrArg List.length hit
    simpa using q
  obtain ⟨mc, mt, mro1⟩ := F.called_set.mro
  have made1 := F.called_set.made
  have sub1 := F.called_set.sub
  have nt1 := F.called_set.notType
  have cc1 := F.called_set.canCreate
  have tc1 := F.typeCall_set_1 (.ref l)
  have hS : (newS w s).heap.get? s.heap.objs.size = some (newO w) := Heap.get?_push_size _ rfl
  have isS : (newS w s).TypeIs (.ref s.heap.objs.size) "set" := ⟨_, hS, rfl⟩
  have li1 := F.called_set.init.lookup
  have bi1 := F.called_set.init.bind (.ref s.heap.objs.size)
  have none_from : ∀ b, s.heap.objs.size ≤ b → s.heap.get? b = none := fun b hb => Heap.get?_none_of_le hb
  refine wpAny_call (codeAny_of_tree (show wpAny _ _ (callAny (.type "set") _) _ _ _ from wpAny_pure ⟨Code.quiet_builtin _ (by decide +kernel), codeAny_builtin F.entry_type_call ?_⟩))
  rw [Around.under_plain (weight_type_call_type "set" [.ref l] []) rfl]
  repeat (any_goals (first | assumption | wp_step))
  refine codeAny_mono (code_set_led1 (.ref l) (E := E) (Q₁ := fun v s2 => v = .ref s.heap.objs.size ∧ s2 = newS w s) ⟨rfl, rfl⟩) fun r s2 hr => ?_
  match r, hr with
  | .error er, hr => exact hr
  | .ok .next, hr => exact hr.elim
  | .ok .brk, hr => exact hr.elim
  | .ok .cont, hr => exact hr.elim
  | .ok (.ret v), hr =>
    obtain ⟨rfl, rfl⟩ := hr
    repeat (any_goals (first | assumption | wp_step))
    refine codeAny_mono (codeAny_call_builtin (R := wants (fun v s2 => v = .none ∧ ∃ h2 tk L es ep t, s2 = { s with heap := h2, toks := tk } ∧ BS P w h2 s.heap.objs.size L es ep t ∧ Hold2 ks ks.length L ∧ ∀ b o, s.heap.get? b = some o → h2.get? b = some o) E)
      F.called_set.init.plain F.entry_set_init (check_set_init_1 isS ?_)) fun r s2 hr => ?_
    · obtain ⟨⟨lc, ld, lt, lsl⟩, hol, hcl, nl, hdl⟩ := hl
      dsimp only at hcl hdl
      subst hcl hdl
      have lt_l : l < s.heap.objs.size := Heap.lt_size hol
      have hol2 : (newS w s).heap.get? l = some { cls := .type "tuple", dict := ld, data := .seq items nl, slots := lsl } := Heap.get?_push_of_some _ hol
      have sub_a := F.sub_tuple_set
      have sub_b := F.sub_tuple_frozenset
      have not_d : (Value.type "tuple" == Value.type "dict") = false := by decide
      have isL : (newS w s).heap.IsTuple l items := ⟨_, hol2, rfl, nl, rfl⟩
      have handled3 : A.in1.in1.in1.handled = none := hh
      have sz1 : (newS w s).heap.objs.size = s.heap.objs.size + 1 := Heap.size_push ..
      have lI : l ≠ (newS w s).heap.objs.size := by rw [sz1]; exact Nat.ne_of_lt (Nat.lt_succ_of_lt lt_l)
      have notIn : s.heap.objs.size ∉ [(newS w s).heap.objs.size, l] := by
        rw [sz1]
        intro z
        rcases List.mem_cons.mp z with y | y
        · exact absurd y (Nat.ne_of_lt (Nat.lt_succ_self _))
        · rw [List.mem_singleton.mp y] at lt_l
          exact Nat.lt_irrefl _ lt_l
      have val : ∀ (i : Nat) (v : Value), items[i]? = some v → ∃ p, ks[i]? = some p ∧ v = .ref p.1 := fun i v z => by
        rw [← Array.getElem?_toList, hit, List.getElem?_map] at z
        cases y : ks[i]? with
        | none => rw [y] at z; cases z
        | some p =>
          rw [y] at z
          cases z
          exact ⟨p, rfl, rfl⟩
      unfold Builtin.«set.__init__» noKeywords Builtin.Frozenset.updateFrom
      generalize pi : pyIter = PI
      wp_walk
      subst pi
      refine wpAny_pyIter_tuple isL (wpAny_bind (wpAny_runValue ?_))
      refine bs_loop ((Walks.tuple handled3 _ l lI items).toS) notIn n_it few val hk (none_from _ (Nat.le_refl _)) (fun b hb => none_from b (by rw [List.mem_singleton.mp hb, sz1]; exact Nat.le_succ _)) hu items.size 0 _ (Nat.zero_add _)
        ⟨⟨_, Heap.get?_push_size _ rfl, rfl, rfl⟩, isL.push _⟩ (fun b o z => Heap.get?_push_of_some _ (Heap.get?_push_of_some _ z)) ⟨[], #[], 0, _, bs_fresh (Heap.get?_push_of_some _ hS), ⟨nofun, nofun⟩⟩ ?_
      rintro ⟨h2, g2, d2, tk, os2⟩ L es ep t hm B g q
      obtain rfl : g2 = s.gens := hm.gens
      obtain rfl : d2 = s.drawn := hm.drawn
      obtain rfl : os2 = s.os := hm.os
      rw [n_it] at g
      exact wpAny_pure (wpAny_pure ⟨rfl, h2, tk, L, es, ep, t, rfl, B, g, q⟩)
    · match r, hr with
      | .error er, hr => exact hr
      | .ok .next, hr => exact hr.elim
      | .ok .brk, hr => exact hr.elim
      | .ok .cont, hr => exact hr.elim
      | .ok (.ret v), hr =>
        obtain ⟨rfl, h2, tk, L, es, ep, t, rfl, B, g, q⟩ := hr
        repeat (any_goals (first | assumption | wp_step))
        exact hq _ _ _ _ _ _ B g q
/-- x is asked for -/
theorem BS.find (B : BS P w s.heap a L es ep t) {x : Addr} {k : List Int} (hx : IsT P w s.heap k x) (hu : A.units < cLine) {Q : Option Nat → Shared → Prop} (hq : ∀ r : Option Nat, r.isSome = decide (k ∈ L.map (·.2)) → Q r s) : wpAny (model P w) A (setFind a (.ref x) (thash P w k)) Q E s := by
  obtain ⟨o, ho, _, hd⟩ := B.ob
  unfold setFind setFindIn
  refine wpAny_bind (wpAny_setState_of ho hd B.fits ?_)
  dsimp only
  refine wp_if_neg (show ¬ byScan (.ref x) es = true from fun z => nomatch (z : false = true)) ?_
  try refine wpAny_bind (wpAny_pure ?_)
  refine wpAny_bind (B.search hx hu false (fun i p hp hk => wpAny_pure (hq (some i) ?_)) fun K hn _ _ => wpAny_pure (hq none (decide_eq_false hn).symm))
  exact (decide_eq_true (List.mem_map.mpr ⟨p, List.mem_of_getElem? hp, hk⟩)).symm
theorem BS.has (B : BS P w s.heap a L es ep t) {x : Addr} {k : List Int} (hx : IsT P w s.heap k x) (hu : A.units + 10 < cLine) {Q : Bool → Shared → Prop} (hq : ∀ tk, Q (decide (k ∈ L.map (·.2))) { s with toks := tk }) : wpAny (model P w) A (contains (.ref a) (.ref x)) Q E s := by
  obtain ⟨o, ho, hex, hd⟩ := id B.ob
  have hT : s.TypeIs (.ref a) "set" := ⟨o, ho, hex.1⟩
  unfold contains
  try with_reducible refine wpAny_holding ?_
  refine wpAny_bind (wpAny_specialOf hT PySem.F.slot_set_contains.lookup ?_)
  show wpAny _ _ (if (some (Value.builtin "set.__contains__") == some Value.none) = true then _ else _) _ _ _
  rw [if_neg (by rw [beq_builtin_none]; exact Bool.false_ne_true)]
  refine wpAny_bind (wpAny_callSpecialUnlessNone?_slot (name := Str.ofString "__contains__") hT PySem.F.slot_set_contains (wpAny_call_entry PySem.F.slot_set_contains hT entry_set_contains ?_ (PySem.F.args_set_contains_2 _ _)))
  unfold Builtin.«frozenset.__contains__» Builtin.Frozenset.oneOther
  simp only [List.isEmpty_nil, bind_assoc]
  unfold Builtin.Frozenset.addrOf Builtin.Frozenset.withSetAsKey setContains
  refine wpAny_bind (wpAny_pure ?_)
  try dsimp only
  refine wpAny_bind (wpAny_pure ?_)
  try dsimp only
  refine wpAny_bind (wpAny_tryCatch (wpAny_holding (wpAny_bind (wpAny_pyHash_tuple (by first | exact Nat.lt_of_le_of_lt (by simp) hu | omega) hx ?_))))
  refine wpAny_bind (BS.find (s := { s with toks := s.toks + (k.length + 1) }) B hx (by first | exact Nat.lt_of_le_of_lt (by simp) hu | omega) fun r hr => wpAny_pure ?_)
  show wpAny _ _ (ret (Value.bool r.isSome)) _ _ _
  rw [hr]
  exact wpAny_pure ⟨_, rfl, wpAny_truthy_bool (hq _)⟩
end
/-- the set at a, without the tuples themselves -/
structure BT0 (P : Program) (w : World) (h : Heap) (a : Addr) (L : List (Addr × List Int)) : Prop where
  ex : ∃ (es : Array (Int × Value)) (ep : Nat) (t : SetTable), (∃ o, h.get? a = some o ∧ o.ExactSet ∧ o.data = .set es ep t) ∧ es.toList = rowsOf P w L ∧ TB t (L.map fun p => thash P w p.2) ∧ (L.map (·.2)).Nodup ∧ t.plain = true ∧
    (w.params.followText "set-order" = true ∨ t.led = true) ∧ L.length * 5 < t.mask * 3
def BTO (P : Program) (w : World) (a : Addr) (L : List (Addr × List Int)) : HO := .ext fun h => BT0 P w h a L
theorem BS.t0 {P : Program} {w : World} {h : Heap} {a : Addr} {L : List (Addr × List Int)} {es : Array (Int × Value)} {ep : Nat} {t : SetTable} (B : BS P w h a L es ep t) : BT0 P w h a L := ⟨es, ep, t, B.ob, B.rows, B.tab, B.nd, B.plain, B.led, B.room⟩
theorem BT0.whole {P : Program} {w : World} {h : Heap} {a : Addr} {L : List (Addr × List Int)} (B : BT0 P w h a L) (ht : ∀ p ∈ L, IsT P w h p.2 p.1) : ∃ es ep t, BS P w h a L es ep t := by
  obtain ⟨es, ep, t, q1, q2, q3, q4, q5, q6, q7⟩ := B.ex
  exact ⟨es, ep, t, q1, q2, q3, q4, ht, q5, q6, q7⟩
theorem bto_new {P : Program} {w : World} {H : Hp} {h : Heap} {a : Addr} {L : List (Addr × List Int)} (B : BT0 P w h a L) : ObjOk P w H h a (BTO P w a L) := by
  have ⟨_, _, _, ⟨o, ho, _⟩, _⟩ := B.ex
  refine ⟨B, ⟨o, ho⟩, fun h1 h2 p k => ?_⟩
  have ⟨es2, ep2, t2, ⟨o2, ho2, q⟩, z⟩ := BT0.ex p
  exact ⟨es2, ep2, t2, ⟨o2, k o2 ho2, q⟩, z⟩
/-- x in s, x not in s -/
def rInB (X : Cx) (neg : Bool) : R2 := fun x y H Q => ∃ b a k L, x = .ref b ∧ y = .ref a ∧ SqT X.K H b (k.map V.int) ∧ H a = some (BTO X.prog X.w a L) ∧ (∀ p ∈ L, SqT X.K H p.1 (p.2.map V.int)) ∧ Q (.bl (if neg then !decide (k ∈ L.map (·.2)) else decide (k ∈ L.map (·.2)))) H
section
variable {X : Cx}
theorem asked {pins : List (Addr × Obj)} {σ : L2.St} {H : Hp} {s : Shared} {a : Addr} {L : List (Addr × List Int)} (I : L2.Inv X pins σ H s) (ha : H a = some (BTO X.prog X.w a L)) (hL : ∀ p ∈ L, SqT X.K H p.1 (p.2.map V.int)) : ∃ es ep t, BS X.prog X.w s.heap a L es ep t :=
  BT0.whole (I.hok a _ ha).1 fun p hp => I.isT (hL p hp)
theorem op_inB (hu : X.A.units + 20 < cLine) : OpR X (compareOp .In) (rInB X false) := by
  intro pins s σ H x y v u Q I rx ry hh
  obtain ⟨b, a, k, L, rfl, rfl, hb, ha, hL, q⟩ := hh
  cases rx
  cases ry
  obtain ⟨es, ep, t, B⟩ := asked I ha hL
  show wpAny _ _ (do return Value.bool (← contains (.ref a) (.ref b))) _ _ _
  exact wpAny_bind (B.has (I.isT hb) (by omega) fun tk => wpAny_pure ⟨.bl _, H, I.tok tk, rfl, q⟩)
theorem op_notInB (hu : X.A.units + 20 < cLine) : OpR X (compareOp .NotIn) (rInB X true) := by
  intro pins s σ H x y v u Q I rx ry hh
  obtain ⟨b, a, k, L, rfl, rfl, hb, ha, hL, q⟩ := hh
  cases rx
  cases ry
  obtain ⟨es, ep, t, B⟩ := asked I ha hL
  show wpAny _ _ (do return Value.bool (!(← contains (.ref a) (.ref b)))) _ _ _
  exact wpAny_bind (B.has (I.isT hb) (by omega) fun tk => wpAny_pure ⟨.bl _, H, I.tok tk, rfl, q⟩)
end
end Mp
set_option Elab.async false
set_option maxRecDepth 100000
set_option maxHeartbeats 2000000
/-! Mp1: data D, how a value stands for it in the abstract heap, how heaps grow. -/
namespace Mp
open PySem L2 Evl

inductive D where
  | non | bl (b : Bool) | int (i : Int) | str (x : Str)
  | lst (xs : List D) | tup (xs : List D) | dct (kvs : List (D × D)) | set (xs : List D) | row (xs : List D) | exc (c : Str) (fs : List (Str × D)) | src
  /-- a pair that is a key; a map of such pairs to whole numbers, as the pairs came -/
  | kt (x y : Int) | map (ps : List ((Int × Int) × Int))
  /-- a dict with nested tuples as keys; a set of tuples of whole numbers -/
  | dic (kvs : List (D × D)) | ts (xs : List (List Int))

mutual
/-- data as the library has them -/
def D.pd : D → PyData
  | .non => .none
  | .bl b => .bool b
  | .int i => .int i
  | .str x => .str x
  | .lst xs => .list (D.pds xs)
  | .tup xs => .tuple (D.pds xs)
  | _ => .none
def D.pds : List D → List PyData
  | [] => []
  | x :: xs => D.pd x :: D.pds xs
end
mutual
/-- plain data, at most so deep -/
def D.ok : D → Nat → Bool
  | .non, _ => true
  | .bl _, _ => true
  | .int _, _ => true
  | .str _, _ => true
  | .lst xs, n => match n with | 0 => false | n + 1 => D.oks xs n
  | .tup xs, n => match n with | 0 => false | n + 1 => D.oks xs n
  | _, _ => false
def D.oks : List D → Nat → Bool
  | [], _ => true
  | x :: xs, n => D.ok x n && D.oks xs n
end
/-- as a key -/
def D.nk (d : D) : Option NestedKey := match d with
  | .tup _ => if d.ok 60 then match nkP d.pd with
    | some k => if k.depth ≤ 8 then some k else none
    | none => none else none
  | _ => none

/-- the last one counts -/
def lookM : List ((Int × Int) × Int) → Int → Int → Option Int
  | [], _, _ => none
  | p :: r, x, y => match lookM r x y with
    | some v => some v
    | none => if p.1.1 = x ∧ p.1.2 = y then some p.2 else none

/-- the law's source of numbers -/
structure Sr where
  cells : List Int
  turn : Int

/-- the two addresses of the source; the own exception classes -/
structure Sa where
  s1 : Addr
  s2 : Addr
  cls : Str → Option Addr
  prog : Program
  w : World
/-- a caught exception at a, of the class cls, its dict at d -/
def ExC (cls : Value) (d : Option Addr) (a : Addr) : HO := .ext fun h => ∃ oe vs, h.get? a = some oe ∧ Zc cls d oe ∧ oe.data = .fields vs

mutual
inductive DR (K : PySem.W.Frag) (sa : Sa) (F : Hp) : V → D → Prop
  | non : DR K sa F .non .non
  | bl (b : Bool) : DR K sa F (.bl b) (.bl b)
  | int (i : Int) : DR K sa F (.int i) (.int i)
  | str (x : Str) : DR K sa F (.str x) (.str x)
  | lst {a : Addr} {xs : List V} {ds : List D} : F a = some (.lst xs) → DRs K sa F xs ds → DR K sa F (.ref a) (.lst ds)
  | tup {a : Addr} {xs : List V} {ds : List D} : SqT K F a xs → DRs K sa F xs ds → DR K sa F (.ref a) (.tup ds)
  | row {a : Addr} {xs : List V} {ds : List D} {o : Obj} : F a = some (.frz o (.tup xs)) → o.cls = .type "tuple" → o.dict = none → DRs K sa F xs ds → DR K sa F (.ref a) (.row ds)
  | dct0 {a : Addr} : F a = some (.dK []) → DR K sa F (.ref a) (.dct [])
  | src : DR K sa F (.ref sa.s1) .src
  | kt {b : Addr} (x y : Int) : F b = some (.tup [.int x, .int y]) → DR K sa F (.ref b) (.kt x y)
  | map {a : Addr} {kvs : List (List Key × V)} {ps : List ((Int × Int) × Int)} : F a = some (.dT kvs) → (∀ x y : Int, valV kvs [.inl x, .inl y] = (lookM ps x y).map V.int) → DR K sa F (.ref a) (.map ps)
  | exc {a C : Addr} {c : Str} : sa.cls c = some C → F a = some (ExC (.ref C) none a) → DR K sa F (.ref a) (.exc c [])
  | exf {a d C : Addr} {c : Str} {vs : List (Str × V)} {fs : List (Str × D)} : sa.cls c = some C → F a = some (ExC (.ref C) (some d) a) → F d = some (.xd vs) → (∀ p ∈ vs, PySem.W.findIn K (.ref C) p.1 = some none) → DFs K sa F vs fs → DR K sa F (.ref a) (.exc c fs)
  | dic {a : Addr} {o : Obj} {kvs : List Ent} {ds : List (D × D)} : F a = some (dicO sa.prog sa.w a o kvs) → DKs K sa F kvs ds → DR K sa F (.ref a) (.dic ds)
  | ts {a : Addr} {L : List (Addr × List Int)} {xs : List (List Int)} : F a = some (BTO sa.prog sa.w a L) → (∀ p ∈ L, SqT K F p.1 (p.2.map V.int)) → (∀ x, x ∈ L.map (·.2) ↔ x ∈ xs) → DR K sa F (.ref a) (.ts xs)
inductive DRs (K : PySem.W.Frag) (sa : Sa) (F : Hp) : List V → List D → Prop
  | nil : DRs K sa F [] []
  | cons {v : V} {vs : List V} {d : D} {ds : List D} : DR K sa F v d → DRs K sa F vs ds → DRs K sa F (v :: vs) (d :: ds)
inductive DFs (K : PySem.W.Frag) (sa : Sa) (F : Hp) : List (Str × V) → List (Str × D) → Prop
  | nil : DFs K sa F [] []
  | cons {n : Str} {v : V} {vs : List (Str × V)} {d : D} {ds : List (Str × D)} : DR K sa F v d → DFs K sa F vs ds → DFs K sa F ((n, v) :: vs) ((n, d) :: ds)
inductive DKs (K : PySem.W.Frag) (sa : Sa) (F : Hp) : List Ent → List (D × D) → Prop
  | nil : DKs K sa F [] []
  | cons {k : NestedKey} {b : Addr} {v : V} {r : List Ent} {kd vd : D} {ds : List (D × D)} : DR K sa F (.ref b) kd → kd.nk = some k → DR K sa F v vd → DKs K sa F r ds → DKs K sa F ((k, b, v) :: r) ((kd, vd) :: ds)
end

section
variable {K : PySem.W.Frag} {sa : Sa} {F F' : Hp}
mutual
theorem DR.mono (e : Ex F F') : ∀ {v : V} {d : D}, DR K sa F v d → DR K sa F' v d
  | _, _, .non => .non
  | _, _, .bl b => .bl b
  | _, _, .int i => .int i
  | _, _, .str x => .str x
  | _, _, .lst h r => .lst (e _ _ h) (DRs.mono e r)
  | _, _, .tup h r => .tup (ex_t e h) (DRs.mono e r)
  | _, _, .row h c d r => .row (e _ _ h) c d (DRs.mono e r)
  | _, _, .dct0 h => .dct0 (e _ _ h)
  | _, _, .src => .src
  | _, _, .kt x y h => .kt x y (e _ _ h)
  | _, _, .map h q => .map (e _ _ h) q
  | _, _, .exc h r => .exc h (e _ _ r)
  | _, _, .exf h r q n t => .exf h (e _ _ r) (e _ _ q) n (DFs.mono e t)
  | _, _, .dic h r => .dic (e _ _ h) (DKs.mono e r)
  | _, _, .ts h r q => .ts (e _ _ h) (fun p hp => ex_t e (r p hp)) q
theorem DRs.mono (e : Ex F F') : ∀ {vs : List V} {ds : List D}, DRs K sa F vs ds → DRs K sa F' vs ds
  | _, _, .nil => .nil
  | _, _, .cons h r => .cons (DR.mono e h) (DRs.mono e r)
theorem DFs.mono (e : Ex F F') : ∀ {vs : List (Str × V)} {ds : List (Str × D)}, DFs K sa F vs ds → DFs K sa F' vs ds
  | _, _, .nil => .nil
  | _, _, .cons h r => .cons (DR.mono e h) (DFs.mono e r)
theorem DKs.mono (e : Ex F F') : ∀ {kvs : List Ent} {ds : List (D × D)}, DKs K sa F kvs ds → DKs K sa F' kvs ds
  | _, _, .nil => .nil
  | _, _, .cons h q v r => .cons (DR.mono e h) q (DR.mono e v) (DKs.mono e r)
end
theorem DRs.length : ∀ {vs : List V} {ds : List D}, DRs K sa F vs ds → vs.length = ds.length
  | _, _, .nil => rfl
  | _, _, .cons _ r => by rw [List.length_cons, List.length_cons, DRs.length r]
theorem DRs.append : ∀ {vs us : List V} {ds es : List D}, DRs K sa F vs ds → DRs K sa F us es → DRs K sa F (vs ++ us) (ds ++ es)
  | _, _, _, _, .nil, r => r
  | _, _, _, _, .cons h t, r => .cons h (DRs.append t r)
theorem DRs.get : ∀ {vs : List V} {ds : List D} {i : Nat} {d : D}, DRs K sa F vs ds → ds[i]? = some d → ∃ v, vs[i]? = some v ∧ DR K sa F v d
  | _, _, i, d, .nil, h => by simp at h
  | _, _, 0, d, .cons (v := v) h _, e => by
    simp at e
    subst e
    exact ⟨v, rfl, h⟩
  | _, _, i + 1, d, .cons _ t, e => by
    obtain ⟨v, h1, h2⟩ := DRs.get (i := i) t (by simpa using e)
    exact ⟨v, by simpa using h1, h2⟩
theorem DRs.getV : ∀ {vs : List V} {ds : List D} {i : Nat} {v : V}, DRs K sa F vs ds → vs[i]? = some v → ∃ d, ds[i]? = some d ∧ DR K sa F v d
  | _, _, i, d, .nil, h => by simp at h
  | _, _, 0, v, .cons (d := d) h _, e => by
    simp at e
    subst e
    exact ⟨d, rfl, h⟩
  | _, _, i + 1, v, .cons _ t, e => by
    obtain ⟨d, h1, h2⟩ := DRs.getV (i := i) t (by simpa using e)
    exact ⟨d, by simpa using h1, h2⟩
theorem DRs.take : ∀ {vs : List V} {ds : List D} (n : Nat), DRs K sa F vs ds → DRs K sa F (vs.take n) (ds.take n)
  | _, _, 0, _ => .nil
  | _, _, _ + 1, .nil => .nil
  | _, _, n + 1, .cons h t => .cons h (DRs.take n t)
theorem DRs.drop : ∀ {vs : List V} {ds : List D} (n : Nat), DRs K sa F vs ds → DRs K sa F (vs.drop n) (ds.drop n)
  | _, _, 0, r => r
  | _, _, _ + 1, .nil => .nil
  | _, _, n + 1, .cons _ t => DRs.drop n t
end

/-- from (F, H) to (F', H'): F is what is frozen, H what is tracked -/
structure Gr (sa : Sa) (F H F' H' : Hp) : Prop where
  ff : Ex F F'
  fh : Ex F' H'
  hh : ∀ a o, H a = some o → a ≠ sa.s1 → a ≠ sa.s2 → H' a = some o
  nw : ∀ a o, F' a = some o → F a = some o ∨ H a = none
  s1 : H sa.s1 ≠ none → H' sa.s1 ≠ none
  s2 : H sa.s2 ≠ none → H' sa.s2 ≠ none

/-- the source stands -/
structure SrcR (sa : Sa) (F H : Hp) (S : Sr) : Prop where
  f1 : F sa.s1 = none
  f2 : F sa.s2 = none
  ne : sa.s1 ≠ sa.s2
  h1 : H sa.s1 = some (.lst [.ref sa.s2, .int S.turn])
  h2 : H sa.s2 = some (.lst (S.cells.map V.int))

section
variable {sa : Sa} {F H F' H' F'' H'' : Hp}
theorem Gr.refl (h : Ex F H) : Gr sa F H F H := ⟨Ex.refl _, h, fun _ _ e _ _ => e, fun _ _ e => .inl e, id, id⟩
theorem Gr.back (g : Gr sa F H F' H') {p : Addr} (h : H' p = none) : H p = none := by
  cases e : H p with
  | none => rfl
  | some o =>
    by_cases h1 : p = sa.s1
    · subst h1
      exact absurd h (g.s1 (by rw [e]; exact fun z => nomatch z))
    · by_cases h2 : p = sa.s2
      · subst h2
        exact absurd h (g.s2 (by rw [e]; exact fun z => nomatch z))
      · rw [g.hh p o e h1 h2] at h
        cases h
theorem Gr.trans (a : Gr sa F H F' H') (b : Gr sa F' H' F'' H'') : Gr sa F H F'' H'' where
  ff := a.ff.trans b.ff
  fh := b.fh
  hh := fun p o e h1 h2 => b.hh p o (a.hh p o e h1 h2) h1 h2
  nw := fun p o e => by
    rcases b.nw p o e with h | h
    · exact a.nw p o h
    · exact .inr (a.back h)
  s1 := fun h => b.s1 (a.s1 h)
  s2 := fun h => b.s2 (a.s2 h)
/-- what is not frozen and tracked stays not frozen -/
theorem Gr.nofz (g : Gr sa F H F' H') {p : Addr} (h : F p = none) (h' : H p ≠ none) : F' p = none := by
  cases e : F' p with
  | none => rfl
  | some o =>
    rcases g.nw p o e with q | q
    · rw [h] at q; cases q
    · exact absurd q h'
/-- a new object, not frozen yet -/
theorem Gr.new (h : Ex F H) {p : Addr} {o : HO} (n : H p = none) : Gr sa F H F (upd H p o) :=
  ⟨Ex.refl _, h.trans (Ex.new n), fun a u e _ _ => by rw [upd_ne (ne_of_none e n)]; exact e, fun _ _ e => .inl e,
    fun z => by
      by_cases q : sa.s1 = p
      · rw [q, upd_same]; exact fun z => nomatch z
      · rw [upd_ne q]; exact z,
    fun z => by
      by_cases q : sa.s2 = p
      · rw [q, upd_same]; exact fun z => nomatch z
      · rw [upd_ne q]; exact z⟩
/-- a new object, frozen at once -/
theorem Gr.newF (h : Ex F H) {p : Addr} {o : HO} (n : H p = none) : Gr sa F H (upd F p o) (upd H p o) :=
  ⟨Ex.new (fresh_back h n), fun a u e => by
      by_cases q : a = p
      · rw [q, upd_same] at e; rw [q, upd_same]; exact e
      · rw [upd_ne q] at e; rw [upd_ne q]; exact h a u e,
    fun a u e _ _ => by rw [upd_ne (ne_of_none e n)]; exact e,
    fun a u e => by
      by_cases q : a = p
      · rw [q]; exact .inr n
      · rw [upd_ne q] at e; exact .inl e,
    (Gr.new h n (o := o)).s1, (Gr.new h n (o := o)).s2⟩
/-- freezing what is new since H -/
theorem Gr.freeze (g : Gr sa F H F' H') {p : Addr} {o : HO} (n : H p = none) (f : F' p = none) (e : H' p = some o) : Gr sa F H (upd F' p o) H' :=
  ⟨g.ff.trans (Ex.new f), fun a u e' => by
      by_cases q : a = p
      · rw [q, upd_same] at e'; rw [q, e]; exact e'
      · rw [upd_ne q] at e'; exact g.fh a u e',
    g.hh, fun a u e' => by
      by_cases q : a = p
      · rw [q]; exact .inr n
      · rw [upd_ne q] at e'; exact g.nw a u e', g.s1, g.s2⟩
theorem SrcR.n1 {S : Sr} (s : SrcR sa F H S) : H sa.s1 ≠ none := by rw [s.h1]; exact fun z => nomatch z
theorem SrcR.n2 {S : Sr} (s : SrcR sa F H S) : H sa.s2 ≠ none := by rw [s.h2]; exact fun z => nomatch z
theorem SrcR.new {S : Sr} (s : SrcR sa F H S) {p : Addr} {o : HO} (n : H p = none) : SrcR sa F (upd H p o) S :=
  ⟨s.f1, s.f2, s.ne, by rw [upd_ne (ne_of_none s.h1 n)]; exact s.h1, by rw [upd_ne (ne_of_none s.h2 n)]; exact s.h2⟩
theorem SrcR.fz {S : Sr} (s : SrcR sa F H S) {p : Addr} {o : HO} (n1 : p ≠ sa.s1) (n2 : p ≠ sa.s2) : SrcR sa (upd F p o) H S :=
  ⟨by rw [upd_ne n1.symm]; exact s.f1, by rw [upd_ne n2.symm]; exact s.f2, s.ne, s.h1, s.h2⟩
end

/-- how a value is held: frozen; new; an owned one that is only read -/
inductive Md | fz | fr | br
  deriving DecidableEq

/-- the object at p holds the container d, its items frozen -/
def OR (K : PySem.W.Frag) (sa : Sa) (F H : Hp) (p : Addr) : D → Prop
  | .lst ds => ∃ xs, H p = some (.lst xs) ∧ DRs K sa F xs ds
  | .dct kvs => kvs = [] ∧ H p = some (.dK [])
  | .dic ds => ∃ o kvs, H p = some (dicO sa.prog sa.w p o kvs) ∧ DKs K sa F kvs ds
  | _ => False
def VR (K : PySem.W.Frag) (sa : Sa) (m : Md) (H0 F H : Hp) (v : V) (d : D) : Prop :=
  match m with
  | .fz => DR K sa F v d
  | .fr => ∃ p, v = .ref p ∧ H0 p = none ∧ F p = none ∧ p ≠ sa.s1 ∧ p ≠ sa.s2 ∧ OR K sa F H p d
  | .br => ∃ p, v = .ref p ∧ F p = none ∧ p ≠ sa.s1 ∧ p ≠ sa.s2 ∧ OR K sa F H p d

section
variable {K : PySem.W.Frag} {sa : Sa} {F H F' H' F'' H'' H0 : Hp}
theorem OR.there {p : Addr} {d : D} (h : OR K sa F H p d) : ∃ o, H p = some o := by
  cases d with
  | lst ds => obtain ⟨xs, h, _⟩ := h; exact ⟨_, h⟩
  | dct kvs => exact ⟨_, h.2⟩
  | dic ds => obtain ⟨o, kvs, h, _⟩ := h; exact ⟨_, h⟩
  | _ => exact h.elim
theorem OR.mono {p : Addr} {d : D} (h : OR K sa F H p d) (e : Ex F F') (k : ∀ o, H p = some o → H' p = some o) : OR K sa F' H' p d := by
  cases d with
  | lst ds => obtain ⟨xs, h, r⟩ := h; exact ⟨xs, k _ h, r.mono e⟩
  | dct kvs => exact ⟨h.1, k _ h.2⟩
  | dic ds => obtain ⟨o, kvs, h, r⟩ := h; exact ⟨o, kvs, k _ h, r.mono e⟩
  | _ => exact h.elim
theorem VR.mono {m : Md} {v : V} {d : D} (h : VR K sa m H0 F H v d) (g : Gr sa F H F' H') : VR K sa m H0 F' H' v d := by
  cases m with
  | fz => exact DR.mono g.ff h
  | fr =>
    obtain ⟨p, e, n, f, h1, h2, o⟩ := h
    obtain ⟨u, hu⟩ := o.there
    exact ⟨p, e, n, g.nofz f (by rw [hu]; exact fun z => nomatch z), h1, h2, o.mono g.ff fun o e => g.hh p o e h1 h2⟩
  | br =>
    obtain ⟨p, e, f, h1, h2, o⟩ := h
    obtain ⟨u, hu⟩ := o.there
    exact ⟨p, e, g.nofz f (by rw [hu]; exact fun z => nomatch z), h1, h2, o.mono g.ff fun o e => g.hh p o e h1 h2⟩
/-- to be frozen: anything but what is only read -/
theorem VR.frozen {m : Md} {v : V} {d : D} {S : Sr} (hm : m ≠ .br) (h : VR K sa m H F' H' v d) (g : Gr sa F H F' H') (s : SrcR sa F' H' S) :
    ∃ F'', Gr sa F H F'' H' ∧ Ex F' F'' ∧ SrcR sa F'' H' S ∧ DR K sa F'' v d := by
  cases m with
  | fz => exact ⟨F', g, Ex.refl _, s, h⟩
  | br => exact absurd rfl hm
  | fr =>
    obtain ⟨p, e, n, f, h1, h2, o⟩ := h
    obtain ⟨u, hu⟩ := o.there
    refine ⟨upd F' p u, g.freeze n f hu, Ex.new f, s.fz h1 h2, ?_⟩
    subst e
    cases d with
    | lst ds =>
      obtain ⟨xs, h, r⟩ := o
      rw [hu] at h
      cases h
      exact .lst upd_same (r.mono (Ex.new f))
    | dct kvs =>
      obtain ⟨rfl, h⟩ := o
      rw [hu] at h
      cases h
      exact .dct0 upd_same
    | dic ds =>
      obtain ⟨ob, kvs, h, r⟩ := o
      rw [hu] at h
      cases h
      exact .dic upd_same (r.mono (Ex.new f))
    | _ => exact o.elim
end
end Mp
set_option Elab.async false
set_option maxRecDepth 100000
set_option maxHeartbeats 2000000
/-! Mp2: the written form of defs (Xp, St), and what it comes to over data. -/
namespace Mp
open PySem L2 Evl

inductive Bop | add | sub | mul | fdiv | mod | pow | shl | shr | band | bor | bxor
  deriving DecidableEq
inductive Cop | eq | ne | lt | le | gt | ge | is_ | isn | in_ | nin
  deriving DecidableEq
/-- built-ins by their name -/
inductive Bf | len | abs | int | sorted | tuple | list | min | max | all | any | sum | str
  deriving DecidableEq
/-- built-in methods that only read -/
inductive Mf | index | count | tcount
  deriving DecidableEq
/-- built-in types asked by isinstance -/
inductive Ty | int | bool | tuple | list | str | dict
  deriving DecidableEq
inductive Lit | non | tr (b : Bool) | int (i : Int) | str (x : Str)

inductive Tg
  | nm (i : Nat) | tp (is : List Nat)

mutual
inductive Xp
  | lit (l : Lit)
  | var (i : Nat)
  | con (x : Str)
  | bin (o : Bop) (a b : Xp)
  | neg (a : Xp) | not (a : Xp)
  | cmp (o : Cop) (a b : Xp)
  | cmp2 (o o' : Cop) (a b c : Xp)
  | bool (k : Bool) (es : List Xp)
  | ite (c a b : Xp)
  | tup (es : List Xp) | lst (es : List Xp) | dct0
  | ix (a i : Xp)
  | sl (a : Xp) (lo hi : Option Xp)
  | call (f : Str) (es : List Xp)
  | blt (f : Bf) (es : List Xp)
  | isi (a : Xp) (c : Ty)
  | isx (a : Xp) (c : Str)
  | meth (m : Mf) (o : Xp) (es : List Xp)
  | sset (a : Xp)
  | rev (a : Xp)
  | lrg (a : Xp)
  | mkrow (a : Xp)
  | mkey (a b : Xp)
  | mkmap (a : Xp)
  | mget (o k1 k2 d : Xp)
  | smap (kvs : List (Str × Str)) (e : Xp)
  | dic0
  | dic1 (k v : Xp)
  | dget (o k d : Xp)
  | mset (a : Xp)
  | mkx0 (c : Str)
  | mkx1 (c : Str) (a : Xp)
  | mki (c : Str) (es : List Xp)
  | fld (a : Xp) (f : Str)
  | callN (f : Str) (es : List Xp)
  | varT (i : Nat)
  | comp (own : List Nat) (tg : Tg) (it : It) (ifs : List Xp) (e : Xp)
  | comp2 (own vs : List Nat) (tg : Tg) (it : It) (ifs : List Xp) (tg' : Tg) (it' : It) (ifs' : List Xp) (e : Xp)
inductive It
  | ov (e : Xp)
  | rg (a : Xp) | rg2 (a b : Xp)
  | enum (a : Xp)
  | zips (a b : Xp)
  | items (a : Xp)
end

mutual
/-- Python's == -/
def D.eqb : D → D → Bool
  | .non, .non => true
  | .bl a, .bl b => a == b
  | .bl a, .int j => (if a then 1 else 0) == j
  | .int i, .bl b => i == (if b then 1 else 0)
  | .int i, .int j => i == j
  | .str x, .str y => x == y
  | .lst xs, .lst ys => D.eqbs xs ys
  | .tup xs, .tup ys => D.eqbs xs ys
  | _, _ => false
def D.eqbs : List D → List D → Bool
  | [], [] => true
  | x :: xs, y :: ys => D.eqb x y && D.eqbs xs ys
  | _, _ => false
end

mutual
/-- data without lists: texts, numbers, tuples of these -/
def D.hard : D → Bool
  | .non => true
  | .bl _ => true
  | .int _ => true
  | .str _ => true
  | .tup xs => D.hards xs
  | _ => false
def D.hards : List D → Bool
  | [] => true
  | x :: xs => D.hard x && D.hards xs
end

/-- how an evaluation ends: a value; an exception; outside of what is carried -/
inductive R
  | ok (m : Md) (d : D) (S : Sr)
  | exc (x : D) (S : Sr)
  | bad
def R.b (r : R) (k : Md → D → Sr → R) : R :=
  match r with
  | .ok m d S => k m d S
  | .exc x S => .exc x S
  | .bad => .bad
/-- the value must be one that may be kept -/
def R.f (r : R) (k : D → Sr → R) : R := r.b fun m d S => if m = .br then .bad else k d S
inductive Rl
  | ok (ds : List D) (S : Sr)
  | exc (x : D) (S : Sr)
  | bad
def Rl.b (r : Rl) (k : List D → Sr → R) : R :=
  match r with
  | .ok ds S => k ds S
  | .exc x S => .exc x S
  | .bad => .bad

/-- how the evaluation of a walked thing ends; the flag: an owned list, only read -/
inductive Ri
  | ok (br : Bool) (ds : List D) (S : Sr)
  | exc (x : D) (S : Sr)
  | bad
def R.i (r : R) (k : Md → D → Sr → Ri) : Ri :=
  match r with
  | .ok m d S => k m d S
  | .exc x S => .exc x S
  | .bad => .bad
def Ri.b (r : Ri) (k : List D → Sr → R) : R :=
  match r with
  | .ok _ ds S => k ds S
  | .exc x S => .exc x S
  | .bad => .bad
abbrev Env := List (Option (Bool × D))
def okd (o : Option D) (S : Sr) : R := match o with | some d => .ok .fz d S | none => .bad
def okb (o : Option Bool) (S : Sr) : R := match o with | some b => .ok .fz (.bl b) S | none => .bad

def szMax : Nat := 1000000
def W64 (i : Int) : Prop := -(2 ^ 64) < i ∧ i < 2 ^ 64
instance (i : Int) : Decidable (W64 i) := inferInstanceAs (Decidable (_ ∧ _))

instance (xs : List D) : Decidable (xs ≠ []) := match xs with | [] => isFalse fun h => h rfl | _ :: _ => isTrue fun h => nomatch h
instance (x : Str) (n : Int) : Decidable (PySem.MulOk x n) := inferInstanceAs (Decidable (_ ∧ _ ∧ _))
def binD (o : Bop) (x y : D) (S : Sr) : R :=
  match x, y with
  | .int i, .int j =>
    match o with
    | .add => .ok .fz (.int (i + j)) S
    | .sub => .ok .fz (.int (i - j)) S
    | .mul => if W64 i ∨ W64 j then .ok .fz (.int (i * j)) S else .bad
    | .fdiv => if 0 < j ∧ j < 1073741824 then .ok .fz (.int (i / j)) S else .bad
    | .mod => if 0 < j then .ok .fz (.int (i % j)) S else .bad
    | .pow => if 0 ≤ j ∧ j ≤ 1000000 ∧ i.natAbs < 2 ^ 64 then .ok .fz (.int (i ^ j.toNat)) S else .bad
    | .shl => if 0 ≤ j ∧ j ≤ 1000000 ∧ i.natAbs < 2 ^ 64 then .ok .fz (.int (i * 2 ^ j.toNat)) S else .bad
    | .shr => if 0 ≤ j then .ok .fz (.int (i / 2 ^ j.toNat)) S else .bad
    | .band => .ok .fz (.int (Builtin.bitAnd i j)) S
    | .bor => .ok .fz (.int (Builtin.bitOr i j)) S
    | .bxor => .ok .fz (.int (Builtin.bitXor i j)) S
  | .lst xs, .lst ys => if o = .add ∧ xs.length + ys.length ≤ szMax then .ok .fr (.lst (xs ++ ys)) S else .bad
  | .tup xs, .tup ys => if o = .add ∧ xs.length + ys.length ≤ szMax then .ok .fz (.tup (xs ++ ys)) S else .bad
  | .str a, .int k => if o = .mul ∧ PySem.MulOk a k then .ok .fz (.str (PySem.Txt.mul a k)) S else .bad
  | .str a, .str b => if o = .add ∧ a.length + b.length ≤ szMax then .ok .fz (.str (a ++ b)) S else .bad
  | .lst xs, .int k => if o = .mul ∧ 0 ≤ k ∧ k ≤ 1000000 ∧ xs.length * k.toNat ≤ szMax then .ok .fr (.lst (List.flatten (List.replicate k.toNat xs))) S else .bad
  | .tup xs, .int k => if o = .mul ∧ 1 ≤ k ∧ k ≤ 1000 ∧ xs ≠ [] ∧ xs.length ≤ 1000 then .ok .fz (.tup (List.flatten (List.replicate k.toNat xs))) S else .bad
  | _, _ => .bad

def deq (x y : D) : Option Bool := if x.ok 60 && y.ok 60 then some (D.eqb x y) else none
/-- x < y may be asked -/
def cmpOk (x y : D) : Bool := x.ok 60 && y.ok 60 && PySem.W.alike x.pd y.pd && (match x with | .non => false | _ => true)
def dltb (x y : D) : Bool := PySem.W.dataLt x.pd y.pd
def din (x : D) (ys : List D) : Option Bool := if x.ok 60 && D.oks ys 60 then some (ys.any fun y => D.eqb y x) else none
def D.items : D → Option (List D)
  | .lst xs => some xs
  | .tup xs => some xs
  | _ => none
/-- a row, read as a tuple -/
def D.asT : D → D
  | .row xs => .tup xs
  | d => d
def D.isNon : D → Bool
  | .non => true
  | _ => false
def intsOf : List D → Option (List Int)
  | [] => some []
  | .int b :: r => (intsOf r).map (b :: ·)
  | _ :: _ => none
/-- the rows of data: tuples of whole numbers -/
def rowOf : D → Option (List Int)
  | .tup ds => intsOf ds
  | _ => none
/-- a dict's value at a key; a dict with a value put in -/
def lookD : List (D × D) → NestedKey → Option D
  | [], _ => none
  | p :: r, k => if p.1.nk = some k then some p.2 else lookD r k
def putD (ds : List (D × D)) (kd : D) (k : NestedKey) (v : D) : List (D × D) :=
  if (lookD ds k).isSome then ds.map fun p => if p.1.nk = some k then (p.1, v) else p else ds ++ [(kd, v)]
/-- x in y -/
def inD (x y : D) : Option Bool :=
  match y with
  | .dic ds => match x.nk with | some k => some (lookD ds k).isSome | none => none
  | .ts xs => match rowOf x with | some r => some (decide (r ∈ xs)) | none => none
  | y => match y.items with | some ys => din x ys | none => none
def cmpD (o : Cop) (x y : D) : Option Bool :=
  match o with
  | .eq => deq x y
  | .ne => (deq x y).map (!·)
  | .lt => match x, y with | .int i, .int j => some (decide (i < j)) | _, _ => if cmpOk x y then some (dltb x y) else none
  | .gt => match x, y with | .int i, .int j => some (decide (j < i)) | _, _ => if cmpOk x y then some (dltb y x) else none
  | .le => match x, y with | .int i, .int j => some (decide (i ≤ j)) | _, _ => if cmpOk x y then some (!dltb y x) else none
  | .ge => match x, y with | .int i, .int j => some (decide (j ≤ i)) | _, _ => if cmpOk x y then some (!dltb x y) else none
  | .is_ => if y.isNon then some x.isNon else none
  | .isn => if y.isNon then some (!x.isNon) else none
  | .in_ => inD x y
  | .nin => (inD x y).map (!·)

def ixD (x y : D) : Option D :=
  match x, y with
  | .lst xs, .int i => atI xs i
  | .tup xs, .int i => atI xs i
  | .dic ds, y => match y.nk with | some k => lookD ds k | none => none
  | _, _ => none

/-- isinstance of data, by a built-in type -/
def isiD (d : D) (c : Ty) : Option Bool :=
  match d with
  | .non => some false
  | .bl _ => some (c == .bool || c == .int)
  | .int _ => some (c == .int)
  | .str _ => some (c == .str)
  | .lst _ => some (c == .list)
  | .tup _ => some (c == .tuple)
  | .dct _ => some (c == .dict)
  | _ => none

def cutD (xs : List D) (lo hi : Option Int) : List D := (xs.drop (HT.sIx xs.length 0 lo)).take (HT.sIx xs.length xs.length hi - HT.sIx xs.length 0 lo)
def bools : List D → Option (List Bool)
  | [] => some []
  | .bl b :: r => (bools r).map (b :: ·)
  | _ :: _ => none
def maxL : Int → List Int → Int
  | m, [] => m
  | m, x :: r => maxL (if x > m then x else m) r
def minL : Int → List Int → Int
  | m, [] => m
  | m, x :: r => minL (if x < m then x else m) r

/-- the order of sorted over data that are alike -/
def dle (x y : D) : Bool := PySem.W.dataLe false D.pd x y
def allAlike (ps : List D) : Bool := ps.all fun a => ps.all fun b => PySem.W.alike a.pd b.pd
def sortable (ps : List D) : Bool := (ps.all fun a => match a with | .tup (_ :: _) => true | _ => false) || ps.all fun a => match a with | .non => false | .tup _ => false | _ => true
def sortD (ds : List D) : Option (List D) :=
  if D.oks ds 60 && allAlike ds && sortable ds && decide (ds.length ≤ szMax) then some (ds.mergeSort dle) else none

def bltD (f : Bf) (ds : List D) (S : Sr) : R :=
  match f, ds with
  | .len, [.lst xs] => .ok .fz (.int xs.length) S
  | .len, [.tup xs] => .ok .fz (.int xs.length) S
  | .len, [.dic xs] => .ok .fz (.int xs.length) S
  | .len, [.str x] => if x.length ≤ szMax then .ok .fz (.int x.length) S else .bad
  | .abs, [.int i] => .ok .fz (.int (if i < 0 then -i else i)) S
  | .int, [.int i] => .ok .fz (.int i) S
  | .int, [.bl b] => .ok .fz (.int (if b then 1 else 0)) S
  | .tuple, [.lst xs] => .ok .fz (.tup xs) S
  | .tuple, [.tup xs] => .ok .fz (.tup xs) S
  | .list, [.lst xs] => .ok .fr (.lst xs) S
  | .list, [.tup xs] => .ok .fr (.lst xs) S
  | .all, [.lst xs] => okb ((bools xs).map (·.all id)) S
  | .any, [.lst xs] => okb ((bools xs).map (·.any id)) S
  | .sum, [.lst xs] => okd ((intsOf xs).map fun l => .int l.sum) S
  | .max, [.lst xs] => match intsOf xs with | some (m :: r) => .ok .fz (.int (maxL m r)) S | _ => .bad
  | .min, [.lst xs] => match intsOf xs with | some (m :: r) => .ok .fz (.int (minL m r)) S | _ => .bad
  | .max, [.tup xs] => match intsOf xs with | some (m :: r) => .ok .fz (.int (maxL m r)) S | _ => .bad
  | .min, [.tup xs] => match intsOf xs with | some (m :: r) => .ok .fz (.int (minL m r)) S | _ => .bad
  | .max, [.int i, .int j] => .ok .fz (.int (if j > i then j else i)) S
  | .min, [.int i, .int j] => .ok .fz (.int (if j < i then j else i)) S
  | .sorted, [.lst xs] => match sortD xs with | some ys => .ok .fr (.lst ys) S | none => .bad
  | _, _ => .bad
def idxD (x : D) (ys : List D) : Option Nat := if x.ok 60 && D.oks ys 60 then ys.findIdx? fun y => D.eqb y x else none
def cntD (x : D) (ys : List D) : Option Nat := if x.ok 60 && D.oks ys 60 then some (ys.countP fun y => D.eqb y x) else none
def methD (f : Mf) (o : D) (ds : List D) (S : Sr) : R :=
  match f, o, ds with
  | .index, .lst xs, [x] => match idxD x xs with | some i => .ok .fz (.int i) S | none => .bad
  | .count, .lst xs, [x] => match cntD x xs with | some i => .ok .fz (.int i) S | none => .bad
  | .tcount, .row xs, [x] => match cntD x xs with | some i => .ok .fz (.int i) S | none => .bad
  | _, _, _ => .bad

def rowsD : List D → Option (List (List Int))
  | [] => some []
  | d :: r => match rowOf d, rowsD r with
    | some x, some y => some (x :: y)
    | _, _ => none
def tupD (l : List Int) : D := .tup (l.map .int)
/-- without what comes again -/
def once : List (List Int) → List (List Int)
  | [] => []
  | x :: r => if x ∈ r then once r else x :: once r
/-- in ascending order, each once -/
def ssort (l : List (List Int)) : List (List Int) := (once l).mergeSort fun a b => decide (a ≤ b)
def onceI : List Int → List Int
  | [] => []
  | x :: r => if x ∈ r then onceI r else x :: onceI r
def isort (l : List Int) : List Int := (onceI l).mergeSort fun a b => decide (a ≤ b)
/-- no more than 1198 of them are distinct -/
def BigOk (ls : List (List Int)) : Prop := ls.length < 1199 ∨ ((once ls).length < 1199 ∧ ls.length ≤ 1000000)
instance (ls : List (List Int)) : Decidable (BigOk ls) := inferInstanceAs (Decidable (_ ∨ (_ ∧ _)))
/-- sorted(set(xs)) -/
def ssetD (xs : List D) : Option (List D) :=
  match rowsD xs with
  | some ls => if BigOk ls ∧ ∀ l ∈ ls, l ≠ [] then some ((ssort ls).map tupD) else none
  | none => match intsOf xs with
    | some l => if l.length < 4000 ∧ (onceI l).length < 64 then some ((isort l).map .int) else none
    | none => none
/-- the pairs of a map to be -/
def pairsM : List D → Option (List ((Int × Int) × Int))
  | [] => some []
  | .tup [.kt x y, .int v] :: r => (pairsM r).map (((x, y), v) :: ·)
  | _ :: _ => none
/-- a written dict of texts -/
def mapS (kvs : List (Str × Str)) : List (Key × V) := kvs.map fun p => (.inr p.1, .str p.2)
def lookS (kvs : List (Str × Str)) (x : Str) : Option Str := match valV (mergeK [] (mapS kvs)) (.inr x) with
  | some (.str y) => some y
  | _ => none
mutual
/-- data in which no list is one of whole numbers alone -/
def D.noI : D → Bool
  | .non => true
  | .bl _ => true
  | .int _ => true
  | .str _ => true
  | .src => true
  | .tup xs => D.noIs xs
  | .lst xs => !(intsOf xs).isSome && D.noIs xs
  | _ => false
def D.noIs : List D → Bool
  | [] => true
  | x :: xs => D.noI x && D.noIs xs
end
/-- what a def gives back: a list of whole numbers that is a new one, or None -/
def newI (r : R) : R :=
  match r with
  | .ok m (.lst rs) S => if m ≠ .br ∧ (intsOf rs).isSome = true then .ok .fr (.lst rs) S else .bad
  | .ok _ .non S => .ok .fz .non S
  | .exc x S => .exc x S
  | _ => .bad
structure Tab where
  con : Str → Option D
  sub : Str → Str → Bool
  isc : Str → Bool
  wh : Nat
  ini : Str → Option (List Str) := fun _ => none

def setAt (env : Env) (i : Nat) (v : Option (Bool × D)) : Env := env.set i v
def wipeE (env : Env) : List Nat → Env
  | [] => env
  | v :: vs => (wipeE env vs).set v none
/-- owned lists are out of sight -/
def noOwnE (env : Env) : Env := env.map fun o => match o with
  | some (true, _) => none
  | o => o
/-- a target takes an item -/
def tgD (t : Tg) (d : D) (env : Env) : Option Env :=
  match t with
  | .nm i => some (env.set i (some (false, d)))
  | .tp is => match d with
    | .tup ds => if is.length = ds.length then some ((is.zip ds).foldl (fun e p => e.set p.1 (some (false, p.2))) env) else none
    | _ => none

inductive Rt
  | ok (b : Bool) (S : Sr)
  | bad
/-- the items of a comprehension -/
def compL (turn : D → Sr → Option (Option D × Sr)) : List D → Sr → Option (List D × Sr)
  | [], S => some ([], S)
  | d :: r, S => match turn d S with
    | some (o, S1) => match compL turn r S1 with
      | some (ds, S2) => some (match o with | some x => x :: ds | none => ds, S2)
      | none => none
    | none => none
def compL2 (turn : D → Sr → Option (List D × Sr)) : List D → Sr → Option (List D × Sr)
  | [], S => some ([], S)
  | d :: r, S => match turn d S with
    | some (xs, S1) => match compL2 turn r S1 with
      | some (ds, S2) => some (xs ++ ds, S2)
      | none => none
    | none => none

def rangeD (lo n : Int) : List D := (List.range (n - lo).toNat).map fun (k : Nat) => .int (lo + k)
def zipD (xs ys : List D) : List D := (xs.zip ys).map fun p => .tup [p.1, p.2]
def enumD (xs : List D) : List D := (List.range xs.length).zip xs |>.map fun p => .tup [.int p.1, p.2]

section
variable (T : Tab) (call : Str → List D → Sr → R)
mutual
def evE : Xp → Env → Sr → R
  | .lit .non, _, S => .ok .fz .non S
  | .lit (.tr b), _, S => .ok .fz (.bl b) S
  | .lit (.int i), _, S => .ok .fz (.int i) S
  | .lit (.str x), _, S => .ok .fz (.str x) S
  | .var i, env, S => match env[i]? with
    | some (some (false, d)) => .ok .fz d S
    | some (some (true, d)) => .ok .br d S
    | _ => .bad
  | .con x, _, S => okd (T.con x) S
  | .bin o a b, env, S => (evE a env S).b fun _ x S => (evE b env S).b fun _ y S => binD o x y S
  | .neg a, env, S => (evE a env S).b fun _ x S => match x with | .int i => .ok .fz (.int (-i)) S | _ => .bad
  | .not a, env, S => (evE a env S).b fun _ x S => match x with | .bl b => .ok .fz (.bl (!b)) S | _ => .bad
  | .cmp o a b, env, S => (evE a env S).b fun _ x S => (evE b env S).b fun _ y S => okb (cmpD o x y) S
  | .cmp2 o o' a b c, env, S => (evE a env S).b fun _ x S => (evE b env S).b fun _ y S =>
      match cmpD o x y with
      | some true => (evE c env S).b fun _ z S => okb (cmpD o' y z) S
      | some false => .ok .fz (.bl false) S
      | none => .bad
  | .bool k es, env, S => evB k es env S
  | .ite c a b, env, S => (evE c env S).b fun _ x S => match x with | .bl true => evE a env S | .bl false => evE b env S | _ => .bad
  | .tup es, env, S => (evEs es env S).b fun ds S => .ok .fz (.tup ds) S
  | .lst es, env, S => (evEs es env S).b fun ds S => .ok .fr (.lst ds) S
  | .dct0, _, S => .ok .fr (.dct []) S
  | .ix a i, env, S => (evE a env S).b fun _ x S => (evE i env S).b fun _ y S => okd (ixD x y) S
  | .sl a lo hi, env, S => (evE a env S).b fun _ x S => evO lo env S fun l S => evO hi env S fun h S =>
      match x with
      | .lst xs => .ok .fr (.lst (cutD xs l h)) S
      | .tup xs => .ok .fz (.tup (cutD xs l h)) S
      | _ => .bad
  | .call f es, env, S => (evEs es env S).b fun ds S => call f ds S
  | .blt f es, env, S => evBs es env S fun ds S => bltD f ds S
  | .isi a c, env, S => (evE a env S).b fun _ x S => okb (isiD x c) S
  | .isx a c, env, S => if T.isc c = true then (evE a env S).b fun _ x S => match x with
    | .exc n _ => .ok .fz (.bl (T.sub n c)) S
    | .non => .ok .fz (.bl false) S
    | _ => .bad else .bad
  | .meth m o es, env, S => (evE o env S).b fun _ x S => match x with | .lst _ => if m = .tcount then .bad else (evEs es env S).b fun ds S => methD m x ds S | .row _ => if m = .tcount then (evEs es env S).b fun ds S => methD m x ds S else .bad | _ => .bad
  | .sset a, env, S => (evE a env S).b fun _ x S => match x.items with
      | some xs => match ssetD xs with | some ys => .ok .fr (.lst ys) S | none => .bad
      | none => .bad
  | .rev a, env, S => (evE a env S).b fun _ x S => match x with
      | .lst xs => .ok .fr (.lst xs.reverse) S
      | .tup xs => .ok .fz (.tup xs.reverse) S
      | _ => .bad
  | .mkrow a, env, S => (evE a env S).b fun _ x S => match x with
      | .lst xs => if xs.length ≤ szMax then .ok .fz (.row xs) S else .bad
      | _ => .bad
  | .mkey a b, env, S => (evE a env S).b fun _ x S => (evE b env S).b fun _ y S => match x, y with
      | .int i, .int j => .ok .fz (.kt i j) S
      | _, _ => .bad
  | .mkmap a, env, S => (evE a env S).b fun _ x S => match x with
      | .lst xs => match pairsM xs with | some ps => if ps.length ≤ 1000 then .ok .fz (.map ps) S else .bad | none => .bad
      | _ => .bad
  | .mget o k1 k2 d, env, S => (evE o env S).b fun _ m S => match m with
      | .map ps => (evE k1 env S).b fun _ x S => (evE k2 env S).b fun _ y S => match x, y with
        | .int i, .int j => (evE d env S).b fun _ z S => match z with
          | .int z => .ok .fz (.int ((lookM ps i j).getD z)) S
          | _ => .bad
        | _, _ => .bad
      | _ => .bad
  | .smap kvs e, env, S => (evE e env S).b fun _ x S => match x with
      | .str x => match lookS kvs x with | some y => .ok .fz (.str y) S | none => .bad
      | _ => .bad
  | .dic0, _, S => .ok .fr (.dic []) S
  | .dic1 k v, env, S => (evE k env S).b fun m kd S => if m = .br then .bad else (evE v env S).b fun m' vd S => if m' = .br then .bad else if kd.nk.isSome then .ok .fr (.dic [(kd, vd)]) S else .bad
  | .dget o k d, env, S => (evE o env S).b fun _ m S => match m with
      | .dic ds => (evE k env S).b fun _ kd S => match kd.nk with
        | some k => (evE d env S).b fun md z S => if md = .br then .bad else match lookD ds k with
          | some v => .ok .fz v S
          | none => .ok md z S
        | none => .bad
      | _ => .bad
  | .mset a, env, S => (evE a env S).b fun _ x S => match x.items with
      | some xs => match rowsD xs with | some ls => if BigOk ls then .ok .fz (.ts ls) S else .bad | none => .bad
      | none => .bad
  | .mkx0 c, _, S => if T.isc c = true ∧ (T.ini c).isNone = true ∧ c ≠ "ValueError" then .ok .fz (.exc c []) S else .bad
  | .mkx1 c a, env, S => if T.isc c = true ∧ (T.ini c).isNone = true ∧ c ≠ "ValueError" then (evE a env S).b fun _ _ S => .ok .fz (.exc c []) S else .bad
  | .mki c es, env, S => match T.ini c with
    | some fs => (evEs es env S).b fun ds S => if ds.length = fs.length then .ok .fz (.exc c (fs.zip ds).reverse) S else .bad
    | none => .bad
  | .fld a f, env, S => (evE a env S).b fun _ x S => match x with
    | .exc _ fs => okd (fs.lookup f) S
    | _ => .bad
  | .callN f es, env, S => (evEs es env S).b fun ds S => if D.noIs ds = true then newI (call f ds S) else .bad
  | .varT i, env, S => match env[i]? with
    | some (some (false, d)) => .ok .fz d.asT S
    | _ => .bad
  | .lrg a, env, S => (evE a env S).b fun _ x S => match x with
      | .int i => if -1000000 ≤ i ∧ i ≤ 1000000 then .ok .fr (.lst (rangeD 0 i)) S else .bad
      | _ => .bad
  | .comp own tg it ifs e, env, S => (evI it env S).b fun ds S =>
      match compL (fun d S => match tgD tg d (wipeE env own) with
        | some env' => match evT ifs env' S with
          | .ok true S => match evE e env' S with
            | .ok m x S => if m = .br then none else some (some x, S)
            | _ => none
          | .ok false S => some (none, S)
          | .bad => none
        | none => none) ds S with
      | some (xs, S) => .ok .fr (.lst xs) S
      | none => .bad
  | .comp2 own vs tg it ifs tg' it' ifs' e, env, S => (evI it env S).b fun ds S =>
      match compL2 (fun d S => match tgD tg d (wipeE env own) with
        | some env' => match evT ifs env' S with
          | .ok true S => match evI it' (noOwnE env') S with
            | .ok false ds' S => compL (fun d' S => match tgD tg' d' (wipeE (noOwnE env') vs) with
                | some env2 => match evT ifs' env2 S with
                  | .ok true S => match evE e env2 S with
                    | .ok m x S => if m = .br then none else some (some x, S)
                    | _ => none
                  | .ok false S => some (none, S)
                  | .bad => none
                | none => none) ds' S
            | _ => none
          | .ok false S => some ([], S)
          | .bad => none
        | none => none) ds S with
      | some (xs, S) => if xs.length ≤ szMax then .ok .fr (.lst xs) S else .bad
      | none => .bad
def evEs : List Xp → Env → Sr → Rl
  | [], _, S => .ok [] S
  | e :: es, env, S => match evE e env S with
    | .ok m d S => if m = .br then .bad else match evEs es env S with
      | .ok ds S => .ok (d :: ds) S
      | .exc x S => .exc x S
      | .bad => .bad
    | .exc x S => .exc x S
    | .bad => .bad
/-- arguments of a built-in: they are only read -/
def evBs : List Xp → Env → Sr → (List D → Sr → R) → R
  | [], _, S, k => k [] S
  | e :: es, env, S, k => (evE e env S).b fun _ d S => evBs es env S fun ds S => k (d :: ds) S
/-- and, or -/
def evB (k : Bool) : List Xp → Env → Sr → R
  | [], _, _ => .bad
  | [e], env, S => (evE e env S).b fun _ x S => match x with | .bl b => .ok .fz (.bl b) S | _ => .bad
  | e :: e' :: es, env, S => (evE e env S).b fun _ x S => match x with
    | .bl b => if b = k then evB k (e' :: es) env S else .ok .fz (.bl b) S
    | _ => .bad
def evO : Option Xp → Env → Sr → (Option Int → Sr → R) → R
  | none, _, S, k => k none S
  | some e, env, S, k => (evE e env S).b fun _ x S => match x with | .int i => k (some i) S | _ => .bad
/-- the tests of a comprehension (no exception leaves) -/
def evT : List Xp → Env → Sr → Rt
  | [], _, S => .ok true S
  | e :: es, env, S => match evE e env S with
    | .ok _ (.bl true) S => evT es env S
    | .ok _ (.bl false) S => .ok false S
    | _ => .bad
/-- what is walked -/
def evI : It → Env → Sr → Ri
  | .ov e, env, S => (evE e env S).i fun m x S => match x.items with | some ds => .ok (m == .br) ds S | none => .bad
  | .rg a, env, S => (evE a env S).i fun _ x S => match x with | .int i => if -1000000 ≤ i ∧ i ≤ 1000000 then .ok false (rangeD 0 i) S else .bad | _ => .bad
  | .rg2 a b, env, S => (evE a env S).i fun _ x S => (evE b env S).i fun _ y S => match x, y with
    | .int i, .int j => if -1000000 ≤ i ∧ i ≤ 1000000 ∧ -1000000 ≤ j ∧ j ≤ 1000000 then .ok false (rangeD i j) S else .bad
    | _, _ => .bad
  | .enum a, env, S => (evE a env S).i fun m x S => match x.items with | some ds => .ok (m == .br) (enumD ds) S | none => .bad
  | .zips a b, env, S => (evE a env S).i fun _ x S => (evE b env S).i fun _ y S => match x, y with
    | .tup xs, .tup ys => if xs.length = ys.length then .ok false (zipD xs ys) S else .bad
    | _, _ => .bad
  | .items a, env, S => (evE a env S).i fun m x S => match x with
    | .dic ds => if m = .fz then .ok false (ds.map fun p => .tup [p.1, p.2]) S else .bad
    | _ => .bad
end
end
end Mp
set_option Elab.async false
set_option maxRecDepth 100000
set_option maxHeartbeats 4000000
/-! Mp3: the judgements; operators over data. -/
namespace Mp
open PySem L2 Evl

/-! ### the weakest readings -/
def WE (X : Cx) (e : Expr) : TE := fun σ H Q => ∀ pins s, Inv X pins σ H s → wpAny (model X.prog X.w) X.A (eval e X.env) (EP X pins σ Q) X.xe s
def WT (X : Cx) (e : Expr) : TT := fun σ H Q => ∀ pins s, Inv X pins σ H s → wpAny (model X.prog X.w) X.A (PySem.isTrue e X.env (eval e X.env)) (TP X pins σ Q) X.xe s
def WW (X : Cx) (e : Expr) : TT := fun σ H Q => ∀ whole pins s, Inv X pins σ H s → wpAny (model X.prog X.w) X.A (PySem.isTrue e X.env whole) (TP X pins σ Q) X.xe s
def WA (X : Cx) (es : List Expr) : TA := fun σ H Q => ∀ pos pins s, Inv X pins σ H s → wpAny (model X.prog X.w) X.A (spliced (backTo pos (starEach es X.env))) (AP X pins σ Q) X.xe s
def WI (X : Cx) (tg e : Expr) : TI := fun σ H R => ∀ pins s, Inv X pins σ H s →
  wpAny (model X.prog X.w) X.A (eval e X.env) (fun v s1 => wpAny (model X.prog X.w) X.A (pyIter v) (PIE X pins σ tg R) X.xe s1) X.xe s
def WO (X : Cx) (f : Value → Value → Sem Value) : R2 := fun x y H Q => ∀ pins s σ v u, Inv X pins σ H s → RelV x v → RelV y u → wpAny (model X.prog X.w) X.A (f v u) (EP X pins σ Q) X.xe s
def WU (X : Cx) (f : Value → Sem Value) : V → Hp → VK → Prop := fun x H Q => ∀ pins s σ v, Inv X pins σ H s → RelV x v → wpAny (model X.prog X.w) X.A (f v) (EP X pins σ Q) X.xe s
def WC (X : Cx) (f : Value) : List V → Hp → VK → Prop := fun xs H Q => ∀ pins s σ us, Inv X pins σ H s → Vals xs us → wpAny (model X.prog X.w) X.A (PySem.call f us) (EP X pins σ Q) X.xe s
section
variable {X : Cx} {e : Expr} {es : List Expr} {tg : Expr}
theorem we : PE X e (WE X e) := ⟨fun pins s _ _ _ I h => h pins s I⟩
/-- the sizes of lists and tuples, as the state bears them -/
def HB (X : Cx) (H : Hp) : Prop := (∀ a xs, SqL X.K H a xs → xs.length ≤ sizeLine) ∧ ∀ a xs, SqT X.K H a xs → xs.length ≤ sizeLine
theorem hb_of {pins : List (Addr × Obj)} {σ : L2.St} {H : Hp} {s : Shared} (I : Inv X pins σ H s) : HB X H :=
  ⟨fun a xs h => by obtain ⟨_, _, _, z⟩ := I.list h; exact z, fun a xs h => by obtain ⟨_, _, _, z⟩ := I.tuple h; exact z⟩
theorem weI : PE X e (fun σ H Q => WE X e σ H (fun v H' => HB X H' → Q v H')) := ⟨fun pins s _ _ _ I h => thn (h pins s I) fun u s' ⟨v, H', I', r, q⟩ => ⟨v, H', I', r, q (hb_of I')⟩⟩
theorem wt : PT X e (WT X e) := ⟨fun pins s _ _ _ I h => h pins s I⟩
theorem ww : PW X e (WW X e) := ⟨fun whole pins s _ _ _ I h => h whole pins s I⟩
theorem wa : PA X es (WA X es) := ⟨fun pos pins s _ _ _ I h => h pos pins s I⟩
theorem wi : PI X tg e (WI X tg e) := ⟨fun pins s _ _ _ I h => h pins s I⟩
theorem wo {f : Value → Value → Sem Value} : OpR X f (WO X f) := fun pins s σ _ _ _ v u _ I rx ry h => h pins s σ v u I rx ry
theorem wu {f : Value → Sem Value} : UnR X f (WU X f) := fun pins s σ _ _ v _ I rx h => h pins s σ v I rx
theorem wc {f : Value} : CallR X f (WC X f) := fun pins s σ _ _ us _ I r h => h pins s σ us I r
theorem WE.of {t : TE} {σ : L2.St} {H : Hp} {Q : VK} (p : PE X e t) (h : t σ H Q) : WE X e σ H Q := fun pins s I => p.run pins s σ H Q I h
theorem WT.of {t : TT} {σ : L2.St} {H : Hp} {Q : Bool → Hp → Prop} (p : PT X e t) (h : t σ H Q) : WT X e σ H Q := fun pins s I => p.run pins s σ H Q I h
theorem WW.of {t : TT} {σ : L2.St} {H : Hp} {Q : Bool → Hp → Prop} (p : PW X e t) (h : t σ H Q) : WW X e σ H Q := fun whole pins s I => p.run whole pins s σ H Q I h
theorem WA.of {t : TA} {σ : L2.St} {H : Hp} {Q : List V → Hp → Prop} (p : PA X es t) (h : t σ H Q) : WA X es σ H Q := fun pos pins s I => p.run pos pins s σ H Q I h
theorem WI.of {t : TI} {σ : L2.St} {H : Hp} {R : L2.It → Hp → Prop} (p : PI X tg e t) (h : t σ H R) : WI X tg e σ H R := fun pins s I => p.run pins s σ H R I h
theorem WO.of {f : Value → Value → Sem Value} {r : R2} {x y : V} {H : Hp} {Q : VK} (p : OpR X f r) (h : r x y H Q) : WO X f x y H Q := fun pins s σ v u I rx ry => p pins s σ H x y v u Q I rx ry h
theorem WU.of {f : Value → Sem Value} {r : V → Hp → VK → Prop} {x : V} {H : Hp} {Q : VK} (p : UnR X f r) (h : r x H Q) : WU X f x H Q := fun pins s σ v I rx => p pins s σ H x v Q I rx h
theorem WC.of {f : Value} {r : List V → Hp → VK → Prop} {xs : List V} {H : Hp} {Q : VK} (p : CallR X f r) (h : r xs H Q) : WC X f xs H Q := fun pins s σ us I rx => p pins s σ H xs us Q I rx h
end

/-! ### exceptions, ends -/
/-- an exception of class c with fields fs: the class's address, the fields' dict -/
def XR (cls : Str → Option Addr) (x : D) (c : Value) (dx : Option Addr) (H : Hp) : Prop :=
  match x with
  | .exc n fs => ∃ C, cls n = some C ∧ c = .ref C ∧ fs = [] ∧ dx = none
  | _ => False

/-- all that a body is told: the level, the calls, the classes -/
structure Gd where
  sa : Sa
  T : Tab
  cl : Str → List D → Sr → R
  np : Str → Option Nat

def Gd.cls (G : Gd) : Str → Option Addr := G.sa.cls
/-- the value of a class by its name -/
def NmV (X : Cx) (x : Str) (u : Value) : Prop := X.mg x = some u ∨ (X.mg x = none ∧ bootBuiltins x = some u ∧ x ≠ "__name__")
abbrev WXs := L2.St → Value → Option Addr → Hp → Prop

/-- what is wanted behind an evaluation -/
def Post (K : PySem.W.Frag) (G : Gd) (W : XK) (F H : Hp) (r : R) (Q : VK) : Prop :=
  match r with
  | .ok m d S' => ∀ v F' H', Gr G.sa F H F' H' → SrcR G.sa F' H' S' → VR K G.sa m H F' H' v d → Q v H'
  | .exc x S' => ∀ c dx F' H', Gr G.sa F H F' H' → SrcR G.sa F' H' S' → XR G.cls x c dx H' → W c dx H'
  | .bad => False

/-- a def's promise -/
def spCall (K : PySem.W.Frag) (G : Gd) (f : Str) (np : Nat) : Sp := fun vs H Q E =>
  vs.length = np ∧ ∃ F ds S, Ex F H ∧ SrcR G.sa F H S ∧ DRs K G.sa F vs ds ∧ Post K G E F H (G.cl f ds S) Q

/-- the built-ins' names that must stay -/
def bltNames : List Str := ["len", "abs", "int", "sorted", "tuple", "list", "min", "max", "all", "any", "sum", "str", "set", "range", "enumerate", "zip", "isinstance", "bool", "dict", "ValueError", "super"]

/-- an own exception class without __init__ over ValueError -/
structure ExcF (X : Cx) (c : Str) (C : Addr) : Prop where
  mg : X.mg c = some (.ref C)
  kp : PySem.W.keepIn X.K (.ref C) = true
  bs : PySem.W.subIn X.K (.ref C) (.type "BaseException") = some true
  ty : PySem.W.typeIn X.K (.ref C) = some (.type "type")
  ec : ExcC X.K C
structure Cn (X : Cx) (n : Nat) (G : Gd) (fo : Scope → Str → Bool) (W : WX) : Prop where
  room : Room n X.A
  calm : X.calm = true
  nd : X.N.Nodup
  fns : ∀ f np, G.np f = some np → ∃ fa fd ps, ps.length = np ∧ X.mg f = some (.ref fa) ∧ PySem.W.keepIn X.K (.ref fa) = true ∧ Binds X.K fd ps [] ∧
    FnOk X.prog X.w X.K X.mg X.base (CX X.prog X.w) n fa fd ps (spCall X.K G f np)
  con : ∀ x d, G.T.con x = some d → ∃ v u, X.mg x = some u ∧ RelV v u ∧ ∀ F, DR X.K G.sa F v d
  blt : ∀ x ∈ bltNames, X.mg x = none
  exc : ∀ c C, G.cls c = some C → ExcF X c C
  exn : ∀ c C, G.cls c = some C → G.T.ini c = none → PySem.W.excIn X.K C [.type "ValueError", .type "Exception", .type "BaseException", .type "object"] "ValueError.__new__" = true
  ini : ∀ c fs, G.T.ini c = some fs → fs ≠ [] ∧ fs.length ≤ 900 ∧ ∃ C sl as, G.cls c = some C ∧ as.map (·.1) = fs ∧ IniC X.prog X.K C sl as
  cls : ∀ c, G.T.isc c = true → c ≠ "ValueError" → (G.cls c).isSome = true
  sub : ∀ c', G.T.isc c' = true → ∃ cv v, RelV v cv ∧ ClsV v cv ∧ NmV X c' cv ∧ PySem.W.kitOne X.K (.type "NoneType") cv = some false ∧
    ∀ c C, G.cls c = some C → PySem.W.exmOne X.K (.ref C) cv = some (G.T.sub c c') ∧ PySem.W.kitOne X.K (.ref C) cv = some (G.T.sub c c')
  fn : ∀ x, fo X.env.scope x = true → X.fn x = true ∨ X.env.scope.names.lookup x = some .local
  takes : Takes X W
  pw : G.sa.prog = X.prog ∧ G.sa.w = X.w

/-- the slots -/
def SR (K : PySem.W.Frag) (sa : Sa) (F H : Hp) (env : Env) (σ : L2.St) : Prop :=
  env.length = σ.length ∧ ∀ (i : Nat) (m : Bool) (d : D), env[i]? = some (some (m, d)) → ∃ v, σ[i]? = some (some v) ∧ VR K sa (if m then .br else .fz) H F H v d

section
variable {K : PySem.W.Frag} {sa : Sa} {F H F' H' H0 H1 : Hp} {v : V} {d : D} {m : Md}
theorem VR.base (h : VR K sa m H0 F H v d) (e : ∀ p, H0 p = none → H1 p = none) : VR K sa m H1 F H v d := by
  cases m with
  | fz => exact h
  | br => exact h
  | fr =>
    obtain ⟨p, a, b, c⟩ := h
    exact ⟨p, a, e p b, c⟩
theorem SR.mono {env : Env} {σ : L2.St} (h : SR K sa F H env σ) (g : Gr sa F H F' H') : SR K sa F' H' env σ := ⟨h.1, fun i m d e => by
  obtain ⟨v, h1, h2⟩ := h.2 i m d e
  refine ⟨v, h1, ?_⟩
  have := h2.mono g
  cases m with
  | true => exact this
  | false => exact this⟩
theorem Post.mono {G : Gd} {W W' : XK} {r : R} {Q Q' : VK} (h : Post K G W F H r Q) (hq : ∀ v H, Q v H → Q' v H) (hw : ∀ c d H, W c d H → W' c d H) : Post K G W' F H r Q' := by
  cases r with
  | ok m d S => exact fun v F' H' g s w => hq _ _ (h v F' H' g s w)
  | exc x S => exact fun c dx F' H' g s w => hw _ _ _ (h c dx F' H' g s w)
  | bad => exact h
theorem Post.next {G : Gd} {W : XK} {r : R} {Q : VK} (h : Post K G W F H r Q) (g : Gr G.sa F H F' H') : Post K G W F' H' r Q := by
  cases r with
  | ok m d S => exact fun v F2 H2 g2 s w => h v F2 H2 (g.trans g2) s (w.base fun p n => g.back n)
  | exc x S => exact fun c dx F2 H2 g2 s w => h c dx F2 H2 (g.trans g2) s w
  | bad => exact h
/-- values of flat data -/
theorem VR.int {i : Int} (h : VR K sa m H0 F H v (.int i)) : v = .int i ∧ m = .fz := by
  cases m with
  | fz => cases h; exact ⟨rfl, rfl⟩
  | fr => obtain ⟨_, _, _, _, _, _, o⟩ := h; exact o.elim
  | br => obtain ⟨_, _, _, _, _, o⟩ := h; exact o.elim
theorem VR.bl {i : Bool} (h : VR K sa m H0 F H v (.bl i)) : v = .bl i ∧ m = .fz := by
  cases m with
  | fz => cases h; exact ⟨rfl, rfl⟩
  | fr => obtain ⟨_, _, _, _, _, _, o⟩ := h; exact o.elim
  | br => obtain ⟨_, _, _, _, _, o⟩ := h; exact o.elim
theorem VR.str {i : Str} (h : VR K sa m H0 F H v (.str i)) : v = .str i ∧ m = .fz := by
  cases m with
  | fz => cases h; exact ⟨rfl, rfl⟩
  | fr => obtain ⟨_, _, _, _, _, _, o⟩ := h; exact o.elim
  | br => obtain ⟨_, _, _, _, _, o⟩ := h; exact o.elim
theorem VR.tup {ds : List D} (h : VR K sa m H0 F H v (.tup ds)) : ∃ a xs, v = .ref a ∧ SqT K F a xs ∧ DRs K sa F xs ds := by
  cases m with
  | fz => cases h with | tup h r => exact ⟨_, _, rfl, h, r⟩
  | fr => obtain ⟨_, _, _, _, _, _, o⟩ := h; exact o.elim
  | br => obtain ⟨_, _, _, _, _, o⟩ := h; exact o.elim
theorem VR.lst {ds : List D} (h : VR K sa m H0 F H v (.lst ds)) (e : Ex F H) : ∃ a xs, v = .ref a ∧ H a = some (.lst xs) ∧ DRs K sa F xs ds := by
  cases m with
  | fz => cases h with | lst h r => exact ⟨_, _, rfl, e _ _ h, r⟩
  | fr => obtain ⟨p, e1, _, _, _, _, xs, h, r⟩ := h; exact ⟨p, xs, e1, h, r⟩
  | br => obtain ⟨p, e1, _, _, _, xs, h, r⟩ := h; exact ⟨p, xs, e1, h, r⟩
theorem Dp_mono_aux {F H : Hp} (e : Ex F H) : True := trivial
mutual
theorem Dp.mono (e : Ex F H) : ∀ {v : V} {p : PyData}, Dp K F v p → Dp K H v p
  | _, _, .non => .non
  | _, _, .bl b => .bl b
  | _, _, .int i => .int i
  | _, _, .str x => .str x
  | _, _, .lst h r => .lst (ex_l e h) (DpAll.mono e r)
  | _, _, .tup h r => .tup (ex_t e h) (DpAll.mono e r)
theorem DpAll.mono (e : Ex F H) : ∀ {vs : List V} {ps : List PyData}, DpAll K F vs ps → DpAll K H vs ps
  | _, _, .nil => .nil
  | _, _, .cons h r => .cons (Dp.mono e h) (DpAll.mono e r)
end
mutual
theorem ok_facts : ∀ (d : D) (n : Nat), d.ok n = true → d.pd.plain = true ∧ d.pd.depth ≤ n
  | .non, n, _ => ⟨rfl, by simp [D.pd, PyData.depth]⟩
  | .bl _, n, _ => ⟨rfl, by simp [D.pd, PyData.depth]⟩
  | .int _, n, _ => ⟨rfl, by simp [D.pd, PyData.depth]⟩
  | .str _, n, _ => ⟨rfl, by simp [D.pd, PyData.depth]⟩
  | .lst xs, 0, h => by simp [D.ok] at h
  | .lst xs, n + 1, h => by
    obtain ⟨h1, h2⟩ := oks_facts xs n (by simpa [D.ok] using h)
    rw [D.pd]
    exact ⟨by rw [PyData.plain]; exact h1, by rw [PyData.depth]; omega⟩
  | .tup xs, 0, h => by simp [D.ok] at h
  | .tup xs, n + 1, h => by
    obtain ⟨h1, h2⟩ := oks_facts xs n (by simpa [D.ok] using h)
    rw [D.pd]
    exact ⟨by rw [PyData.plain]; exact h1, by rw [PyData.depth]; omega⟩
  | .dct _, n, h => by simp [D.ok] at h
  | .set _, n, h => by simp [D.ok] at h
  | .row _, n, h => by simp [D.ok] at h
  | .kt _ _, n, h => by simp [D.ok] at h
  | .map _, n, h => by simp [D.ok] at h
  | .dic _, n, h => by simp [D.ok] at h
  | .ts _, n, h => by simp [D.ok] at h
  | .exc _ _, n, h => by simp [D.ok] at h
  | .src, n, h => by simp [D.ok] at h
theorem oks_facts : ∀ (ds : List D) (n : Nat), D.oks ds n = true → PyData.plainAll (D.pds ds) = true ∧ PyData.depthAll (D.pds ds) ≤ n
  | [], n, _ => ⟨rfl, by simp [D.pds, PyData.depthAll]⟩
  | d :: ds, n, h => by
    rw [D.oks, Bool.and_eq_true] at h
    obtain ⟨a1, a2⟩ := ok_facts d n h.1
    obtain ⟨b1, b2⟩ := oks_facts ds n h.2
    rw [D.pds]
    exact ⟨by rw [PyData.plainAll, a1, b1]; rfl, by rw [PyData.depthAll]; omega⟩
end
mutual
theorem eqv_eqb : ∀ (x y : D) (n m : Nat), x.ok n = true → y.ok m = true → PyData.eqv x.pd y.pd = D.eqb x y
  | .non, y, n, m, _, h => by cases y <;> simp [D.pd, PyData.eqv, D.eqb, D.ok] at h ⊢
  | .bl a, y, n, m, _, h => by cases y <;> simp [D.pd, PyData.eqv, D.eqb, D.ok] at h ⊢
  | .int i, y, n, m, _, h => by cases y <;> simp [D.pd, PyData.eqv, D.eqb, D.ok] at h ⊢
  | .str a, y, n, m, _, h => by cases y <;> simp [D.pd, PyData.eqv, D.eqb, D.ok] at h ⊢
  | .lst xs, y, n, m, hx, h => by
    cases n with
    | zero => simp [D.ok] at hx
    | succ n =>
      cases y with
      | lst ys =>
        cases m with
        | zero => simp [D.ok] at h
        | succ m =>
          rw [D.pd, D.pd, PyData.eqv, D.eqb]
          exact eqvs_eqbs xs ys n m (by simpa [D.ok] using hx) (by simpa [D.ok] using h)
      | _ => simp [D.pd, PyData.eqv, D.eqb, D.ok] at h ⊢
  | .tup xs, y, n, m, hx, h => by
    cases n with
    | zero => simp [D.ok] at hx
    | succ n =>
      cases y with
      | tup ys =>
        cases m with
        | zero => simp [D.ok] at h
        | succ m =>
          rw [D.pd, D.pd, PyData.eqv, D.eqb]
          exact eqvs_eqbs xs ys n m (by simpa [D.ok] using hx) (by simpa [D.ok] using h)
      | _ => simp [D.pd, PyData.eqv, D.eqb, D.ok] at h ⊢
  | .dct _, _, n, _, h, _ => by simp [D.ok] at h
  | .set _, _, n, _, h, _ => by simp [D.ok] at h
  | .row _, _, n, _, h, _ => by simp [D.ok] at h
  | .kt _ _, _, n, _, h, _ => by simp [D.ok] at h
  | .map _, _, n, _, h, _ => by simp [D.ok] at h
  | .dic _, _, n, _, h, _ => by simp [D.ok] at h
  | .ts _, _, n, _, h, _ => by simp [D.ok] at h
  | .exc _ _, _, n, _, h, _ => by simp [D.ok] at h
  | .src, _, n, _, h, _ => by simp [D.ok] at h
theorem eqvs_eqbs : ∀ (xs ys : List D) (n m : Nat), D.oks xs n = true → D.oks ys m = true → PyData.eqvAll (D.pds xs) (D.pds ys) = D.eqbs xs ys
  | [], [], _, _, _, _ => by simp [D.pds, PyData.eqvAll, D.eqbs]
  | [], _ :: _, _, _, _, _ => by simp [D.pds, PyData.eqvAll, D.eqbs]
  | _ :: _, [], _, _, _, _ => by simp [D.pds, PyData.eqvAll, D.eqbs]
  | x :: xs, y :: ys, n, m, hx, hy => by
    rw [D.oks, Bool.and_eq_true] at hx hy
    rw [D.pds, D.pds, PyData.eqvAll, D.eqbs, eqv_eqb x y n m hx.1 hy.1, eqvs_eqbs xs ys n m hx.2 hy.2]
end
mutual
theorem DR.dp : ∀ {v : V} {d : D}, DR K sa F v d → ∀ {n : Nat}, d.ok n = true → Dp K F v d.pd
  | _, _, .non, n, h => by rw [D.pd]; exact .non
  | _, _, .bl b, n, h => by rw [D.pd]; exact .bl b
  | _, _, .int i, n, h => by rw [D.pd]; exact .int i
  | _, _, .str x, n, h => by rw [D.pd]; exact .str x
  | _, _, .lst (ds := ds) h r, n, e => by
    cases n with
    | zero => simp [D.ok] at e
    | succ n =>
      rw [D.pd]
      exact .lst (Or.inl (Or.inl h)) (DRs.dp r (n := n) (by simpa [D.ok] using e))
  | _, _, .tup (ds := ds) h r, n, e => by
    cases n with
    | zero => simp [D.ok] at e
    | succ n =>
      rw [D.pd]
      exact .tup h (DRs.dp r (n := n) (by simpa [D.ok] using e))
  | _, _, .row _ _ _ _, n, e => by simp [D.ok] at e
  | _, _, .kt _ _ _, n, e => by simp [D.ok] at e
  | _, _, .map _ _, n, e => by simp [D.ok] at e
  | _, _, .dic _ _, n, e => by simp [D.ok] at e
  | _, _, .ts _ _ _, n, e => by simp [D.ok] at e
  | _, _, .dct0 _, n, e => by simp [D.ok] at e
  | _, _, .exc _ _, n, e => by simp [D.ok] at e
  | _, _, .exf _ _ _ _ _, n, e => by simp [D.ok] at e
  | _, _, .src, n, e => by simp [D.ok] at e
theorem DRs.dp : ∀ {vs : List V} {ds : List D}, DRs K sa F vs ds → ∀ {n : Nat}, D.oks ds n = true → DpAll K F vs (D.pds ds)
  | _, _, .nil, n, h => by rw [D.pds]; exact .nil
  | _, _, .cons (d := d) (ds := ds) h r, n, e => by
    rw [D.oks, Bool.and_eq_true] at e
    rw [D.pds]
    exact .cons (DR.dp h e.1) (DRs.dp r e.2)
end
theorem VR.dp (h : VR K sa m H0 F H v d) (e : Ex F H) {n : Nat} (q : d.ok n = true) : Dp K H v d.pd := by
  have own : ∀ a, OR K sa F H a d → Dp K H (.ref a) d.pd := fun a o => by
    cases d with
    | lst ds =>
      obtain ⟨xs, h1, r⟩ := o
      cases n with
      | zero => simp [D.ok] at q
      | succ n =>
        rw [D.pd]
        exact .lst (Or.inl (Or.inl h1)) (DpAll.mono e (r.dp (n := n) (by simpa [D.ok] using q)))
    | dct kvs => simp [D.ok] at q
    | dic kvs => simp [D.ok] at q
    | _ => exact o.elim
  cases m with
  | fz => exact Dp.mono e (DR.dp h q)
  | fr => obtain ⟨a, e1, _, _, _, _, o⟩ := h; subst e1; exact own a o
  | br => obtain ⟨a, e1, _, _, _, o⟩ := h; subst e1; exact own a o
end

theorem szMax_le {n : Nat} (h : n ≤ szMax) : n ≤ sizeLine := Nat.le_trans h (by decide)

/-! ### posts by cases -/
section
variable {K : PySem.W.Frag} {G : Gd} {W : XK} {F H : Hp} {Q : VK} {S : Sr}
theorem Post.flat {d : D} {v : V} (h : Post K G W F H (.ok .fz d S) Q) (e : Ex F H) (s : SrcR G.sa F H S) (r : DR K G.sa F v d) : Q v H := h v F H (Gr.refl e) s r
theorem Post.newTup {ds : List D} {xs : List V} (h : Post K G W F H (.ok .fz (.tup ds) S) Q) (e : Ex F H) (s : SrcR G.sa F H S) (r : DRs K G.sa F xs ds) : ∀ p, H p = none → Q (.ref p) (upd H p (.tup xs)) := fun p n => by
  have n1 : p ≠ G.sa.s1 := fun z => by rw [z] at n; exact s.n1 n
  have n2 : p ≠ G.sa.s2 := fun z => by rw [z] at n; exact s.n2 n
  exact h _ _ _ (Gr.newF e n) ((s.new n).fz n1 n2) (DR.tup (Or.inl (Or.inl upd_same)) (r.mono (Ex.new (fresh_back e n))))
theorem Post.newLst {ds : List D} {xs : List V} (h : Post K G W F H (.ok .fr (.lst ds) S) Q) (e : Ex F H) (s : SrcR G.sa F H S) (r : DRs K G.sa F xs ds) : ∀ p, H p = none → Q (.ref p) (upd H p (.lst xs)) := fun p n => by
  have n1 : p ≠ G.sa.s1 := fun z => by rw [z] at n; exact s.n1 n
  have n2 : p ≠ G.sa.s2 := fun z => by rw [z] at n; exact s.n2 n
  exact h _ _ _ (Gr.new e n) (s.new n) ⟨p, rfl, n, fresh_back e n, n1, n2, xs, upd_same, r⟩
end
end Mp
set_option Elab.async false
set_option maxRecDepth 100000
set_option maxHeartbeats 4000000
/-! MpR: a tuple times one is that very tuple. -/
namespace Mp
open PySem PySem.Spec PyProof.Rows L2
theorem tuple_mul1 (l : Addr) (items : Array Value) (n : Nat) (dd : Option Addr) (sl : Array (Option Value)) (u : Tok) :
    Meets (Builtin.«tuple.__mul__» ⟨[.ref l, .int 1 u], []⟩) (fun _ R s => s.heap.get? l = some { cls := .type "tuple", dict := dd, data := .seq items n, slots := sl } ∧
      R (.ok (.ret (Value.ref l))) s) :=
  .of_wp fun prog w A R s h => by
    obtain ⟨hp, g, d, tk, os⟩ := s
    obtain ⟨hl, h⟩ := h
    have f1 := AutoSeq1.idx_int
    have c0 : (decide ((1 : Int) < -(2 ^ 63)) || decide ((1 : Int) ≥ 2 ^ 63)) = false := by decide
    have c1 : (items.isEmpty || (1 : Int) == 1) = true := by
      rw [Bool.or_eq_true]
      exact .inr (by decide)
    wp_walk using wpAny_loadPart' hl
    repeat (first
      | (refine wpAny_ite_false (decide_eq_false (by rw [c0]; exact Bool.false_ne_true)) ?_; wp_walk using wpAny_loadPart' hl)
      | (refine wpAny_ite_true (decide_eq_true c1) ?_; wp_walk using wpAny_loadPart' hl))
    exact ⟨_, rfl, h⟩
def rRepT1 (K : PySem.W.Frag) : R2 := fun x y H Q => ∃ l xs, x = .ref l ∧ y = .int 1 ∧ SqT K H l xs ∧ Q (.ref l) H
theorem op_repT1 {X : Cx} : OpR X (binaryOp .Mult) (rRepT1 X.K) := by
  intro pins s σ H x y v u Q I rx ry h
  obtain ⟨l, xs, rfl, rfl, hT, q⟩ := h
  cases rx
  obtain ⟨t, rfl⟩ := ry
  obtain ⟨its, r, ⟨⟨cls, dd, data, sl⟩, ho, hc, n, hd⟩, hs⟩ := I.tuple hT
  simp only at hc hd
  subst hc hd
  refine wpAny_binaryOp_repeat_ref (T := "tuple") (U := "int") (by decide) ⟨_, ho, rfl⟩ (fun s' => typeIs_int s' 1 t) noFill_tuple_mul F.fills_int_mul F.slot_int_rmul repeat_tuple F.slot_int_index.lookup
    (call_meets F.slot_int_rmul (typeIs_int s 1 t) F.entry_int_rmul (F.args_int_rmul_2 _ _) (int_rmul_tuple 1 t l its.toArray n dd sl)
      ⟨ho, rfl, ⟨_, ho, rfl⟩, call_meets F.slot_tuple_mul ⟨_, ho, rfl⟩ F.entry_tuple_mul (F.args_tuple_mul_2 _ _) (tuple_mul1 l its.toArray n dd sl t) ⟨ho, ?_⟩⟩)
  exact ⟨.ref l, H, I, rfl, q⟩
end Mp
set_option Elab.async false
set_option maxRecDepth 100000
set_option maxHeartbeats 4000000
/-! Mp4: operators over data. -/
namespace Mp
open PySem L2 Evl

def Bop.op : Bop → Operator
  | .add => .Add | .sub => .Sub | .mul => .Mult | .fdiv => .FloorDiv | .mod => .Mod | .pow => .Pow | .shl => .LShift | .shr => .RShift | .band => .BitAnd | .bor => .BitOr | .bxor => .BitXor
def Cop.op : Cop → CmpOp
  | .eq => .Eq | .ne => .NotEq | .lt => .Lt | .le => .LtE | .gt => .Gt | .ge => .GtE | .is_ => .Is | .isn => .IsNot | .in_ => .In | .nin => .NotIn

section
variable {X : Cx} {G : Gd} {W : XK} {F H H1 H2 : Hp} {Q : VK} {S : Sr} {x y v : V} {dx dy d : D} {m1 m2 m : Md}
theorem sBinI (o : Bop) {i j : Int} (e : Ex F H) (s : SrcR G.sa F H S) (p : Post X.K G W F H (binD o (.int i) (.int j) S) Q) : WO X (binaryOp o.op) (.int i) (.int j) H Q := by
  cases o with
  | add => exact .of op_add ⟨i, j, rfl, rfl, p.flat e s (.int _)⟩
  | sub => exact .of op_sub ⟨i, j, rfl, rfl, p.flat e s (.int _)⟩
  | mul =>
    simp only [binD] at p
    split at p
    · rename_i h
      exact .of op_mul ⟨i, j, rfl, rfl, h, p.flat e s (.int _)⟩
    · exact p.elim
  | fdiv =>
    simp only [binD] at p
    split at p
    · rename_i h
      exact .of op_fdiv ⟨i, j, rfl, rfl, h, p.flat e s (.int _)⟩
    · exact p.elim
  | mod =>
    simp only [binD] at p
    split at p
    · rename_i h
      exact .of op_mod ⟨i, j, rfl, rfl, h, p.flat e s (.int _)⟩
    · exact p.elim
  | pow =>
    simp only [binD] at p
    split at p
    · rename_i h
      exact .of op_pow ⟨i, j, rfl, rfl, h, p.flat e s (.int _)⟩
    · exact p.elim
  | shl =>
    simp only [binD] at p
    split at p
    · rename_i h
      exact .of op_shl ⟨i, j, rfl, rfl, h, p.flat e s (.int _)⟩
    · exact p.elim
  | shr =>
    simp only [binD] at p
    split at p
    · rename_i h
      exact .of op_shr ⟨i, j, rfl, rfl, h, p.flat e s (.int _)⟩
    · exact p.elim
  | band => exact .of op_and ⟨i, j, rfl, rfl, p.flat e s (.int _)⟩
  | bor => exact .of op_or ⟨i, j, rfl, rfl, p.flat e s (.int _)⟩
  | bxor => exact .of op_xor ⟨i, j, rfl, rfl, p.flat e s (.int _)⟩
theorem DRs.flatten_rep {K : PySem.W.Frag} {sa : Sa} {xs : List V} {ds : List D} (r : DRs K sa F xs ds) : ∀ n : Nat, DRs K sa F (List.replicate n xs).flatten (List.replicate n ds).flatten
  | 0 => .nil
  | n + 1 => by
    rw [List.replicate_succ, List.replicate_succ, List.flatten_cons, List.flatten_cons]
    exact r.append (DRs.flatten_rep r n)
theorem op_mul_str {a : Str} {k : Int} (h : PySem.MulOk a k) : OpR X (binaryOp .Mult) (fun x y H Q => x = .str a ∧ y = .int k ∧ Q (.str (PySem.Txt.mul a k)) H) := by
  intro pins s σ H x y v u Q I rx ry q
  obtain ⟨rfl, rfl, q⟩ := q
  obtain ⟨t, rfl⟩ : ∃ t, v = .str a t := rx
  obtain ⟨t2, rfl⟩ : ∃ t, u = .int k t := ry
  exact PySem.SB.mul h fun t' k' => ⟨.str (PySem.Txt.mul a k), H, I.tok _, ⟨t', rfl⟩, q⟩
theorem sBin (o : Bop) (hx : VR X.K G.sa m1 H1 F H x dx) (hy : VR X.K G.sa m2 H2 F H y dy) (e : Ex F H) (s : SrcR G.sa F H S) (p : Post X.K G W F H (binD o dx dy S) Q) : WO X (binaryOp o.op) x y H Q := by
  cases dx with
  | int i =>
    cases dy with
    | int j =>
      obtain ⟨rfl, _⟩ := hx.int
      obtain ⟨rfl, _⟩ := hy.int
      exact sBinI o e s p
    | _ => exact (show False from p).elim
  | str a =>
    cases dy with
    | str b =>
      obtain ⟨rfl, _⟩ := hx.str
      obtain ⟨rfl, _⟩ := hy.str
      simp only [binD] at p
      split at p
      · rename_i h
        obtain ⟨rfl, h⟩ := h
        exact .of op_add_str ⟨a, b, rfl, rfl, szMax_le h, p.flat e s (.str _)⟩
      · exact p.elim
    | int k =>
      obtain ⟨rfl, _⟩ := hx.str
      obtain ⟨rfl, _⟩ := hy.int
      simp only [binD] at p
      split at p
      · rename_i h
        obtain ⟨rfl, h⟩ := h
        exact .of (op_mul_str h) ⟨rfl, rfl, p.flat e s (.str _)⟩
      · exact p.elim
    | _ => exact (show False from p).elim
  | lst xs =>
    cases dy with
    | lst ys =>
      obtain ⟨a, us, rfl, h1, r1⟩ := hx.lst e
      obtain ⟨b, ws, rfl, h2, r2⟩ := hy.lst e
      simp only [binD] at p
      split at p
      · rename_i h
        obtain ⟨rfl, h⟩ := h
        exact .of op_cat ⟨a, b, us, ws, rfl, rfl, h1, h2, by rw [r1.length, r2.length]; exact szMax_le h, p.newLst e s (r1.append r2)⟩
      · exact p.elim
    | int k =>
      obtain ⟨a, us, rfl, h1, r1⟩ := hx.lst e
      obtain ⟨rfl, _⟩ := hy.int
      simp only [binD] at p
      split at p
      · rename_i h
        obtain ⟨rfl, h0, hk, h⟩ := h
        exact .of op_rep ⟨a, k, us, rfl, rfl, h1, by omega, by omega, by rw [r1.length]; exact szMax_le h, p.newLst e s (r1.flatten_rep _)⟩
      · exact p.elim
    | _ => exact (show False from p).elim
  | tup xs =>
    cases dy with
    | tup ys =>
      obtain ⟨a, us, rfl, h1, r1⟩ := hx.tup
      obtain ⟨b, ws, rfl, h2, r2⟩ := hy.tup
      simp only [binD] at p
      split at p
      · rename_i h
        obtain ⟨rfl, h⟩ := h
        refine .of op_catA ⟨a, b, us, ws, rfl, rfl, ex_t e h1, ex_t e h2, by rw [r1.length, r2.length]; exact szMax_le h, fun z => ?_, fun _ z => ?_, fun _ _ => p.newTup e s (r1.append r2)⟩
        · subst z
          cases r1
          exact p.flat e s (.tup h2 r2)
        · subst z
          cases r2
          rw [List.append_nil] at p
          exact p.flat e s (.tup h1 r1)
      · exact p.elim
    | int k =>
      obtain ⟨a, us, rfl, h1, r1⟩ := hx.tup
      obtain ⟨rfl, _⟩ := hy.int
      simp only [binD] at p
      split at p
      · rename_i h
        obtain ⟨rfl, h0, hk, hn, h⟩ := h
        by_cases h2 : k = 1
        · subst h2
          have e1 : (List.replicate (1 : Int).toNat xs).flatten = xs := by
            show (List.replicate 1 xs).flatten = xs
            simp
          rw [e1] at p
          exact .of op_repT1 ⟨a, us, rfl, rfl, ex_t e h1, p.flat e s (.tup h1 r1)⟩
        · exact .of op_repT ⟨a, k, us, rfl, rfl, ex_t e h1, fun z => hn (by subst z; cases r1; rfl), by omega, hk, by rw [r1.length]; exact h, p.newTup e s (r1.flatten_rep _)⟩
      · exact p.elim
    | _ => exact (show False from p).elim
  | _ => exact (show False from p).elim

/-! ### comparisons -/
theorem okFacts {d : D} (h : d.ok 60 = true) : d.pd.plain = true ∧ d.pd.depth ≤ 60 := ok_facts d 60 h
theorem sEq (hu : X.A.units + 100 < cLine) (hx : VR X.K G.sa m1 H1 F H x dx) (hy : VR X.K G.sa m2 H2 F H y dy) (e : Ex F H) {b : Bool} (q : deq dx dy = some b) (h : Q (.bl b) H) : WO X (compareOp .Eq) x y H Q := by
  unfold deq at q
  split at q
  · rename_i hs
    rw [Bool.and_eq_true] at hs
    cases q
    intro pins s σ v u I rx ry
    obtain ⟨as, r1⟩ := Dp.reads I _ x v (hx.dp e hs.1) rx
    obtain ⟨bs, r2⟩ := Dp.reads I _ y u (hy.dp e hs.2) ry
    have f1 := okFacts hs.1
    have f2 := okFacts hs.2
    refine PySem.SeqAt.eq_plain r1 r2 f1.1 f2.1 (by omega) ?_
    rw [eqv_eqb dx dy 60 60 hs.1 hs.2]
    exact ⟨.bl _, H, I, rfl, h⟩
  · cases q
theorem sNe (hu : X.A.units + 100 < cLine) (hx : VR X.K G.sa m1 H1 F H x dx) (hy : VR X.K G.sa m2 H2 F H y dy) (e : Ex F H) {b : Bool} (q : deq dx dy = some b) (h : Q (.bl (!b)) H) : WO X (compareOp .NotEq) x y H Q := by
  unfold deq at q
  split at q
  · rename_i hs
    rw [Bool.and_eq_true] at hs
    cases q
    intro pins s σ v u I rx ry
    obtain ⟨as, r1⟩ := Dp.reads I _ x v (hx.dp e hs.1) rx
    obtain ⟨bs, r2⟩ := Dp.reads I _ y u (hy.dp e hs.2) ry
    have f1 := okFacts hs.1
    have f2 := okFacts hs.2
    refine PySem.SeqAt.ne_plain r1 r2 f1.1 f2.1 (by omega) ?_
    rw [eqv_eqb dx dy 60 60 hs.1 hs.2]
    exact ⟨.bl _, H, I, rfl, h⟩
  · cases q
/-- the four orders, over data that may be compared -/
theorem cmpFacts (hx : VR X.K G.sa m1 H1 F H x dx) (hy : VR X.K G.sa m2 H2 F H y dy) (e : Ex F H) (q : cmpOk dx dy = true) :
    dx.ok 60 = true ∧ dy.ok 60 = true ∧ PySem.W.alike dx.pd dy.pd = true ∧ dx.pd ≠ .none := by
  unfold cmpOk at q
  rw [Bool.and_eq_true, Bool.and_eq_true, Bool.and_eq_true] at q
  obtain ⟨⟨⟨q1, q2⟩, q3⟩, q4⟩ := q
  refine ⟨q1, q2, q3, fun z => ?_⟩
  cases dx <;> simp [D.pd, D.ok] at z q1 q4
theorem sOrd (hu : X.A.units + 100 < cLine) (hx : VR X.K G.sa m1 H1 F H x dx) (hy : VR X.K G.sa m2 H2 F H y dy) (e : Ex F H) (q : cmpOk dx dy = true) :
    (Q (.bl (dltb dx dy)) H → WO X (compareOp .Lt) x y H Q) ∧ (Q (.bl (dltb dy dx)) H → WO X (compareOp .Gt) x y H Q) ∧ (Q (.bl (!dltb dy dx)) H → WO X (compareOp .LtE) x y H Q) ∧ (Q (.bl (!dltb dx dy)) H → WO X (compareOp .GtE) x y H Q) := by
  obtain ⟨q1, q2, q3, q4⟩ := cmpFacts hx hy e q
  have f1 := okFacts q1
  have f2 := okFacts q2
  refine ⟨fun h => ?_, fun h => ?_, fun h => ?_, fun h => ?_⟩ <;> intro pins s σ v u I rx ry <;> obtain ⟨as, r1⟩ := Dp.reads I _ x v (hx.dp e q1) rx <;> obtain ⟨bs, r2⟩ := Dp.reads I _ y u (hy.dp e q2) ry
  · exact PySem.W.lt_data r1 r2 q3 q4 (by omega) ⟨.bl _, H, I, rfl, h⟩
  · exact PySem.W.gt_data r1 r2 q3 q4 (by omega) ⟨.bl _, H, I, rfl, h⟩
  · exact PySem.W.le_data r1 r2 q3 q4 (by omega) ⟨.bl _, H, I, rfl, h⟩
  · exact PySem.W.ge_data r1 r2 q3 q4 (by omega) ⟨.bl _, H, I, rfl, h⟩
theorem pds_map : ∀ ds : List D, D.pds ds = ds.map D.pd
  | [] => by rw [D.pds]; rfl
  | d :: ds => by rw [D.pds, pds_map ds]; rfl
theorem oks_mem {n : Nat} : ∀ {ds : List D} {d : D}, D.oks ds n = true → d ∈ ds → d.ok n = true
  | x :: xs, d, h, m => by
    rw [D.oks, Bool.and_eq_true] at h
    rcases List.mem_cons.mp m with rfl | m
    · exact h.1
    · exact oks_mem h.2 m
theorem any_eqb {ds : List D} {d : D} (h1 : d.ok 60 = true) (h2 : D.oks ds 60 = true) : ((D.pds ds).any fun y => PyData.eqv y d.pd) = ds.any fun y => D.eqb y d := by
  rw [pds_map, List.any_map]
  have k : ∀ l : List D, (∀ y ∈ l, y ∈ ds) → (l.any ((fun y => PyData.eqv y d.pd) ∘ D.pd)) = l.any fun y => D.eqb y d := by
    intro l
    induction l with
    | nil => intro _; rfl
    | cons a l ih =>
      intro hm
      rw [List.any_cons, List.any_cons, ih fun y hy => hm y (List.mem_cons_of_mem _ hy)]
      rw [show ((fun y => PyData.eqv y d.pd) ∘ D.pd) a = D.eqb a d from eqv_eqb a d 60 60 (oks_mem h2 (hm a List.mem_cons_self)) h1]
  exact k ds fun _ h => h
theorem sIn (hu : X.A.units + 100 < cLine) (hx : VR X.K G.sa m1 H1 F H x dx) (hy : VR X.K G.sa m2 H2 F H y dy) (e : Ex F H) {ys : List D} (hi : dy.items = some ys) {b : Bool} (q : din dx ys = some b) :
    (Q (.bl b) H → WO X (compareOp .In) x y H Q) ∧ (Q (.bl (!b)) H → WO X (compareOp .NotIn) x y H Q) := by
  unfold din at q
  split at q
  · rename_i hs
    rw [Bool.and_eq_true] at hs
    cases q
    have f1 := okFacts hs.1
    have f2 := oks_facts ys 60 hs.2
    rw [← any_eqb hs.1 hs.2]
    cases dy with
    | lst zs =>
      obtain rfl : zs = ys := by simpa [D.items] using hi
      have q2 : (D.lst zs).ok 61 = true := by simpa [D.ok] using hs.2
      refine ⟨fun h => ?_, fun h => ?_⟩ <;> intro pins s σ v u I rx ry <;> obtain ⟨as, r1⟩ := Dp.reads I _ x v (hx.dp e hs.1) rx <;> obtain ⟨bs, r2⟩ := Dp.reads I _ y u (hy.dp e q2) ry <;> rw [D.pd] at r2
      · exact PySem.SeqAt.in_list_data r2 r1 f2.1 f1.1 (by omega) ⟨.bl _, H, I, rfl, h⟩
      · exact PySem.SeqAt.notIn_list_data r2 r1 f2.1 f1.1 (by omega) ⟨.bl _, H, I, rfl, h⟩
    | tup zs =>
      obtain rfl : zs = ys := by simpa [D.items] using hi
      have q2 : (D.tup zs).ok 61 = true := by simpa [D.ok] using hs.2
      refine ⟨fun h => ?_, fun h => ?_⟩ <;> intro pins s σ v u I rx ry <;> obtain ⟨as, r1⟩ := Dp.reads I _ x v (hx.dp e hs.1) rx <;> obtain ⟨bs, r2⟩ := Dp.reads I _ y u (hy.dp e q2) ry <;> rw [D.pd] at r2
      · exact PySem.SeqAt.in_tuple_data r2 r1 f2.1 f1.1 (by omega) ⟨.bl _, H, I, rfl, h⟩
      · exact PySem.SeqAt.notIn_tuple_data r2 r1 f2.1 f1.1 (by omega) ⟨.bl _, H, I, rfl, h⟩
    | _ => cases hi
  · cases q
theorem VR.non (h : VR X.K G.sa m H1 F H v .non) : v = .non := by
  cases m with
  | fz => cases h; rfl
  | fr => obtain ⟨_, _, _, _, _, _, o⟩ := h; exact o.elim
  | br => obtain ⟨_, _, _, _, _, o⟩ := h; exact o.elim
theorem VR.isNon (h : VR X.K G.sa m H1 F H v d) : decide (v = .non) = d.isNon := by
  have k : ∀ p, decide (V.ref p = .non) = false := fun p => decide_eq_false (fun z => nomatch z)
  cases m with
  | fz => cases h <;> first | rfl | exact k _ | exact decide_eq_false (fun z => nomatch z)
  | fr =>
    obtain ⟨p, rfl, _, _, _, _, o⟩ := h
    cases d <;> first | exact k _ | exact o.elim
  | br =>
    obtain ⟨p, rfl, _, _, _, o⟩ := h
    cases d <;> first | exact k _ | exact o.elim
/-! ### keys, dicts, sets of tuples -/
theorem nk_of {d : D} {k : NestedKey} (h : d.nk = some k) : (∃ ds, d = .tup ds) ∧ d.ok 60 = true ∧ nkP d.pd = some k ∧ k.depth ≤ 8 := by
  unfold D.nk at h
  split at h
  · rename_i ds
    split at h
    · rename_i hok
      split at h
      · rename_i k' hk
        split at h
        · rename_i hd
          cases h
          exact ⟨⟨_, rfl⟩, hok, hk, hd⟩
        · cases h
      · cases h
    · cases h
  · cases h
theorem VR.keyIn {k : NestedKey} (h : VR X.K G.sa m H1 F H v d) (e : Ex F H) (q : d.nk = some k) : ∃ b, v = .ref b ∧ KeyIn X.K H (.ref b) k := by
  obtain ⟨⟨ds, rfl⟩, h1, h2, h3⟩ := nk_of q
  obtain ⟨b, xs, rfl, _, _⟩ := h.tup
  exact ⟨b, rfl, _, h.dp e h1, h2, h3⟩
theorem DR.keyIn {K : PySem.W.Frag} {sa : Sa} {b : Addr} {k : NestedKey} (h : DR K sa F (.ref b) d) (e : Ex F H) (q : d.nk = some k) : KeyIn K H (.ref b) k := by
  obtain ⟨_, h1, h2, h3⟩ := nk_of q
  exact ⟨_, Dp.mono e (h.dp h1), h2, h3⟩
theorem DKs.keysIn {K : PySem.W.Frag} {sa : Sa} (e : Ex F H) : ∀ {kvs : List Ent} {ds : List (D × D)}, DKs K sa F kvs ds → KeysIn K H kvs
  | _, _, .nil => fun p hp => nomatch hp
  | _, _, .cons h q v r => fun p hp => by
    rcases List.mem_cons.mp hp with e1 | hp
    · subst e1
      exact DR.keyIn h e q
    · exact DKs.keysIn e r p hp
theorem DKs.length {K : PySem.W.Frag} {sa : Sa} : ∀ {kvs : List Ent} {ds : List (D × D)}, DKs K sa F kvs ds → kvs.length = ds.length
  | _, _, .nil => rfl
  | _, _, .cons _ _ _ r => by rw [List.length_cons, List.length_cons, DKs.length r]
theorem DKs.look {K : PySem.W.Frag} {sa : Sa} (k : NestedKey) : ∀ {kvs : List Ent} {ds : List (D × D)}, DKs K sa F kvs ds →
    match lookD ds k with | some d => ∃ v, lookN kvs k = some v ∧ DR K sa F v d | none => lookN kvs k = none
  | _, _, .nil => rfl
  | _, _, .cons (k := k') (kd := kd) h q v r => by
    rw [lookD, lookN]
    by_cases hk : k' = k
    · rw [if_pos (by rw [q, hk]), if_pos hk]
      exact ⟨_, rfl, v⟩
    · rw [if_neg (by rw [q]; exact fun z => hk (Option.some.inj z)), if_neg hk]
      exact DKs.look k r
theorem DKs.isS {K : PySem.W.Frag} {sa : Sa} {k : NestedKey} {kvs : List Ent} {ds : List (D × D)} (r : DKs K sa F kvs ds) : (lookN kvs k).isSome = (lookD ds k).isSome := by
  have h := r.look k
  cases hd : lookD ds k with
  | none => rw [hd] at h; dsimp only at h; rw [h]; rfl
  | some d =>
    rw [hd] at h
    obtain ⟨v, h, _⟩ := h
    rw [h]
    rfl
theorem DKs.repl {K : PySem.W.Frag} {sa : Sa} {k : NestedKey} {y : V} {dy : D} (ry : DR K sa F y dy) : ∀ {kvs : List Ent} {ds : List (D × D)}, DKs K sa F kvs ds →
    DKs K sa F (kvs.map fun p => if p.1 = k then (p.1, p.2.1, y) else p) (ds.map fun p => if p.1.nk = some k then (p.1, dy) else p)
  | _, _, .nil => .nil
  | _, _, .cons (k := k') h q v r => by
    rw [List.map_cons, List.map_cons]
    by_cases hk : k' = k
    · rw [if_pos (show k' = k from hk), if_pos (by rw [q, hk])]
      exact .cons h q ry (DKs.repl ry r)
    · rw [if_neg (show ¬ k' = k from hk), if_neg (by rw [q]; exact fun z => hk (Option.some.inj z))]
      exact .cons h q v (DKs.repl ry r)
theorem DKs.snoc {K : PySem.W.Frag} {sa : Sa} {k : NestedKey} {b : Addr} {y : V} {kd dy : D} (hb : DR K sa F (.ref b) kd) (hk : kd.nk = some k) (ry : DR K sa F y dy) : ∀ {kvs : List Ent} {ds : List (D × D)}, DKs K sa F kvs ds → DKs K sa F (kvs ++ [(k, b, y)]) (ds ++ [(kd, dy)])
  | _, _, .nil => .cons hb hk ry .nil
  | _, _, .cons h q v r => .cons h q v (DKs.snoc hb hk ry r)
theorem DKs.put {K : PySem.W.Frag} {sa : Sa} {k : NestedKey} {b : Addr} {y : V} {kd dy : D} {kvs : List Ent} {ds : List (D × D)} (r : DKs K sa F kvs ds) (hb : DR K sa F (.ref b) kd) (hk : kd.nk = some k) (ry : DR K sa F y dy) :
    DKs K sa F (putN kvs k b y) (putD ds kd k dy) := by
  unfold putN putD
  rw [r.isS]
  split
  · exact DKs.repl ry r
  · exact DKs.snoc hb hk ry r
theorem VR.dic {ds : List (D × D)} (h : VR X.K G.sa m H1 F H v (.dic ds)) (e : Ex F H) : ∃ a o kvs, v = .ref a ∧ H a = some (dicO G.sa.prog G.sa.w a o kvs) ∧ DKs X.K G.sa F kvs ds := by
  cases m with
  | fz => cases h with | dic h r => exact ⟨_, _, _, rfl, e _ _ h, r⟩
  | fr => obtain ⟨p, e1, _, _, _, _, o, kvs, h, r⟩ := h; exact ⟨p, o, kvs, e1, h, r⟩
  | br => obtain ⟨p, e1, _, _, _, o, kvs, h, r⟩ := h; exact ⟨p, o, kvs, e1, h, r⟩
theorem VR.ts {xs : List (List Int)} (h : VR X.K G.sa m H1 F H v (.ts xs)) (e : Ex F H) : ∃ a L, v = .ref a ∧ H a = some (BTO G.sa.prog G.sa.w a L) ∧ (∀ p ∈ L, SqT X.K H p.1 (p.2.map V.int)) ∧ ∀ x, x ∈ L.map (·.2) ↔ x ∈ xs := by
  cases m with
  | fz => cases h with | ts h r q => exact ⟨_, _, rfl, e _ _ h, fun p hp => ex_t e (r p hp), q⟩
  | fr => obtain ⟨_, _, _, _, _, _, o⟩ := h; exact o.elim
  | br => obtain ⟨_, _, _, _, _, o⟩ := h; exact o.elim
theorem rowDR {K : PySem.W.Frag} {sa : Sa} : ∀ {vs : List V} {ds : List D} {l : List Int}, DRs K sa F vs ds → intsOf ds = some l → vs = l.map V.int
  | _, _, _, .nil, h => by
    rw [intsOf] at h
    cases h
    rfl
  | _, _, l, .cons (d := d) h r, q => by
    unfold intsOf at q
    split at q
    · rename_i e0; cases e0
    · rename_i b r0 e0
      cases e0
      obtain ⟨l', q1, rfl⟩ := Option.map_eq_some_iff.mp q
      cases h
      rw [rowDR r q1]
      rfl
    · cases q
theorem sInD (hpw : G.sa.prog = X.prog ∧ G.sa.w = X.w) (hu : X.A.units + 100 < cLine) (hx : VR X.K G.sa m1 H1 F H x dx) (hy : VR X.K G.sa m2 H2 F H y dy) (e : Ex F H) {b : Bool} (q : inD dx dy = some b) :
    (Q (.bl b) H → WO X (compareOp .In) x y H Q) ∧ (Q (.bl (!b)) H → WO X (compareOp .NotIn) x y H Q) := by
  cases dy with
  | dic ds =>
    obtain ⟨a, o, kvs, rfl, ha, r⟩ := hy.dic e
    rw [hpw.1, hpw.2] at ha
    have q1 : (match dx.nk with | some k => some (lookD ds k).isSome | none => none) = some b := q
    cases hk : dx.nk with
    | none => rw [hk] at q1; cases q1
    | some k =>
      rw [hk] at q1
      dsimp only at q1
      cases q1
      obtain ⟨bb, rfl, kin⟩ := hx.keyIn e hk
      rw [← r.isS (k := k)]
      exact ⟨fun h => .of (op_inN (by omega)) ⟨bb, a, o, kvs, k, rfl, rfl, kin, ha, r.keysIn e, h⟩, fun h => .of (op_notInN (by omega)) ⟨bb, a, o, kvs, k, rfl, rfl, kin, ha, r.keysIn e, h⟩⟩
  | ts xs =>
    obtain ⟨a, L, rfl, ha, hL, hm⟩ := hy.ts e
    rw [hpw.1, hpw.2] at ha
    have q1 : (match rowOf dx with | some r => some (decide (r ∈ xs)) | none => none) = some b := q
    cases hk : rowOf dx with
    | none => rw [hk] at q1; cases q1
    | some k =>
      rw [hk] at q1
      dsimp only at q1
      cases q1
      cases dx with
      | tup es =>
        obtain ⟨bb, us, rfl, h1, r1⟩ := hx.tup
        obtain rfl := rowDR r1 hk
        have em : decide (k ∈ L.map (·.2)) = decide (k ∈ xs) := decide_eq_decide.mpr (hm k)
        rw [← em]
        exact ⟨fun h => .of (op_inB (by omega)) ⟨bb, a, k, L, rfl, rfl, ex_t e h1, ha, hL, h⟩, fun h => .of (op_notInB (by omega)) ⟨bb, a, k, L, rfl, rfl, ex_t e h1, ha, hL, h⟩⟩
      | _ => cases hk
  | lst ys => exact sIn hu hx hy e (ys := ys) rfl q
  | tup ys => exact sIn hu hx hy e (ys := ys) rfl q
  | _ => cases q
theorem sCmp (o : Cop) (hpw : G.sa.prog = X.prog ∧ G.sa.w = X.w) (hu : X.A.units + 100 < cLine) (hx : VR X.K G.sa m1 H1 F H x dx) (hy : VR X.K G.sa m2 H2 F H y dy) (e : Ex F H) {b : Bool} (q : cmpD o dx dy = some b) (h : Q (.bl b) H) : WO X (compareOp o.op) x y H Q := by
  have ordI : ∀ (op : Cop), op = .lt ∨ op = .le ∨ op = .gt ∨ op = .ge → ∀ i j, dx = .int i → dy = .int j → cmpD op (.int i) (.int j) = some b → WO X (compareOp op.op) x y H Q := by
    intro op hop i j e1 e2 q
    subst e1
    subst e2
    obtain ⟨rfl, _⟩ := hx.int
    obtain ⟨rfl, _⟩ := hy.int
    rcases hop with rfl | rfl | rfl | rfl <;> cases q
    · exact .of op_lt ⟨i, j, rfl, rfl, h⟩
    · exact .of op_le ⟨i, j, rfl, rfl, h⟩
    · exact .of op_gt ⟨i, j, rfl, rfl, h⟩
    · exact .of op_ge ⟨i, j, rfl, rfl, h⟩
  cases o with
  | eq => exact sEq hu hx hy e q h
  | ne =>
    simp only [cmpD, Option.map_eq_some_iff] at q
    obtain ⟨a, q, rfl⟩ := q
    exact sNe hu hx hy e q h
  | lt =>
    simp only [cmpD] at q
    split at q
    · exact ordI .lt (.inl rfl) _ _ rfl rfl q
    · split at q
      · rename_i c
        cases q
        exact (sOrd hu hx hy e c).1 h
      · cases q
  | gt =>
    simp only [cmpD] at q
    split at q
    · exact ordI .gt (.inr (.inr (.inl rfl))) _ _ rfl rfl q
    · split at q
      · rename_i c
        cases q
        exact (sOrd hu hx hy e c).2.1 h
      · cases q
  | le =>
    simp only [cmpD] at q
    split at q
    · exact ordI .le (.inr (.inl rfl)) _ _ rfl rfl q
    · split at q
      · rename_i c
        cases q
        exact (sOrd hu hx hy e c).2.2.1 h
      · cases q
  | ge =>
    simp only [cmpD] at q
    split at q
    · exact ordI .ge (.inr (.inr (.inr rfl))) _ _ rfl rfl q
    · split at q
      · rename_i c
        cases q
        exact (sOrd hu hx hy e c).2.2.2 h
      · cases q
  | is_ =>
    simp only [cmpD] at q
    split at q
    · rename_i hn
      cases q
      refine .of op_isN ⟨of_decide_eq_true (hy.isNon.trans hn), ?_⟩
      rw [hx.isNon]
      exact h
    · cases q
  | isn =>
    simp only [cmpD] at q
    split at q
    · rename_i hn
      cases q
      refine .of op_notN ⟨of_decide_eq_true (hy.isNon.trans hn), ?_⟩
      rw [hx.isNon]
      exact h
    · cases q
  | in_ =>
    exact (sInD hpw hu hx hy e q).1 h
  | nin =>
    obtain ⟨a, q1, rfl⟩ := Option.map_eq_some_iff.mp q
    exact (sInD hpw hu hx hy e q1).2 h
end
end Mp
set_option Elab.async false
set_option maxRecDepth 100000
set_option maxHeartbeats 4000000
/-! Mp5: built-in calls, subscripts, slices, isinstance, methods over data. -/
namespace Mp
open PySem L2 Evl

def Bf.nm : Bf → Str
  | .len => "len" | .abs => "abs" | .int => "int" | .sorted => "sorted" | .tuple => "tuple" | .list => "list" | .min => "min" | .max => "max" | .all => "all" | .any => "any" | .sum => "sum" | .str => "str"
def Bf.val : Bf → Value
  | .len => .builtin "len" | .abs => .builtin "abs" | .int => .type "int" | .sorted => .builtin "sorted" | .tuple => .type "tuple" | .list => .type "list" | .min => .builtin "min" | .max => .builtin "max"
  | .all => .builtin "all" | .any => .builtin "any" | .sum => .builtin "sum" | .str => .type "str"
def Ty.nm : Ty → String
  | .int => "int" | .bool => "bool" | .tuple => "tuple" | .list => "list" | .str => "str" | .dict => "dict"
def Mf.nm : Mf → Str
  | .index => "index" | .count => "count" | .tcount => "count"

section
variable {X : Cx} {G : Gd} {W : XK} {F H H1 H2 : Hp} {Q : VK} {S : Sr} {x y v : V} {dx dy d : D} {m1 m2 m : Md}
theorem drs_bools {K : PySem.W.Frag} {sa : Sa} : ∀ {xs : List V} {ds : List D} {bs : List Bool}, DRs K sa F xs ds → bools ds = some bs → xs = bs.map V.bl
  | _, _, bs, .nil, h => by cases h; rfl
  | _, _, bs, .cons (d := d) (ds := ds) h r, e => by
    cases d <;> simp only [bools] at e <;> try (cases e; done)
    obtain ⟨cs, e1, rfl⟩ := Option.map_eq_some_iff.mp e
    cases h
    rw [drs_bools r e1, List.map_cons]
theorem drs_ints {K : PySem.W.Frag} {sa : Sa} : ∀ {xs : List V} {ds : List D} {bs : List Int}, DRs K sa F xs ds → intsOf ds = some bs → xs = bs.map V.int
  | _, _, bs, .nil, h => by cases h; rfl
  | _, _, bs, .cons (d := d) (ds := ds) h r, e => by
    cases d <;> simp only [intsOf] at e <;> try (cases e; done)
    obtain ⟨cs, e1, rfl⟩ := Option.map_eq_some_iff.mp e
    cases h
    rw [drs_ints r e1, List.map_cons]
theorem maxL_spec : ∀ (l : List Int) (m : Int), maxL m l ∈ m :: l ∧ ∀ y ∈ m :: l, y ≤ maxL m l
  | [], m => ⟨List.mem_cons_self, fun y h => by rw [List.mem_singleton.mp h]; exact Int.le_refl _⟩
  | x :: r, m => by
    unfold maxL
    obtain ⟨h1, h2⟩ := maxL_spec r (if x > m then x else m)
    have hm := h2 _ List.mem_cons_self
    refine ⟨?_, fun y hy => ?_⟩
    · rcases List.mem_cons.mp h1 with h | h
      · rw [h]
        split
        · exact List.mem_cons_of_mem _ List.mem_cons_self
        · exact List.mem_cons_self
      · exact List.mem_cons_of_mem _ (List.mem_cons_of_mem _ h)
    · rcases List.mem_cons.mp hy with h | h
      · subst h
        refine Int.le_trans ?_ hm
        split <;> omega
      · rcases List.mem_cons.mp h with h | h
        · subst h
          refine Int.le_trans ?_ hm
          split <;> omega
        · exact h2 y (List.mem_cons_of_mem _ h)
theorem minL_spec : ∀ (l : List Int) (m : Int), minL m l ∈ m :: l ∧ ∀ y ∈ m :: l, minL m l ≤ y
  | [], m => ⟨List.mem_cons_self, fun y h => by rw [List.mem_singleton.mp h]; exact Int.le_refl _⟩
  | x :: r, m => by
    unfold minL
    obtain ⟨h1, h2⟩ := minL_spec r (if x < m then x else m)
    have hm := h2 _ List.mem_cons_self
    refine ⟨?_, fun y hy => ?_⟩
    · rcases List.mem_cons.mp h1 with h | h
      · rw [h]
        split
        · exact List.mem_cons_of_mem _ List.mem_cons_self
        · exact List.mem_cons_self
      · exact List.mem_cons_of_mem _ (List.mem_cons_of_mem _ h)
    · rcases List.mem_cons.mp hy with h | h
      · subst h
        refine Int.le_trans hm ?_
        split <;> omega
      · rcases List.mem_cons.mp h with h | h
        · subst h
          refine Int.le_trans hm ?_
          split <;> omega
        · exact h2 y (List.mem_cons_of_mem _ h)
theorem max_one {m k : Int} {l : List Int} (h1 : k ∈ m :: l) (h2 : ∀ y ∈ m :: l, y ≤ k) : k = maxL m l := by
  obtain ⟨a, b⟩ := maxL_spec l m
  exact Int.le_antisymm (b k h1) (h2 _ a)
theorem min_one {m k : Int} {l : List Int} (h1 : k ∈ m :: l) (h2 : ∀ y ∈ m :: l, k ≤ y) : k = minL m l := by
  obtain ⟨a, b⟩ := minL_spec l m
  exact Int.le_antisymm (h2 _ a) (b k h1)

/-! ### sorted -/
def Stands (K : PySem.W.Frag) (sa : Sa) (F : Hp) (u : Value) (d : D) : Prop := ∃ v, RelV v u ∧ DR K sa F v d
theorem stands_of {K : PySem.W.Frag} {sa : Sa} : ∀ {xs : List V} {ds : List D} {us : List Value}, DRs K sa F xs ds → Vals xs us → PySem.W.EachIs (Stands K sa F) us ds
  | _, _, _, .nil, .nil => .nil
  | _, _, _, .cons h r, .cons q t => .cons ⟨_, q, h⟩ (stands_of r t)
theorem of_stands {K : PySem.W.Frag} {sa : Sa} : ∀ {ds : List D} {us : List Value}, PySem.W.EachIs (Stands K sa F) us ds → ∃ xs, DRs K sa F xs ds ∧ Vals xs us
  | _, _, .nil => ⟨[], .nil, .nil⟩
  | _, _, .cons ⟨v, q, h⟩ t => by
    obtain ⟨xs, h1, h2⟩ := of_stands t
    exact ⟨v :: xs, .cons h h1, .cons q h2⟩
theorem reads_of {pins : List (Addr × Obj)} {σ : L2.St} {s : Shared} {n : Nat} (I : Inv X pins σ H s) (e : Ex F H) : ∀ {xs : List V} {ds : List D} {us : List Value}, DRs X.K G.sa F xs ds → Vals xs us → D.oks ds n = true →
    PySem.W.EachIs (fun u d => ∃ as, Reads s.heap u (D.pd d) as) us ds
  | _, _, _, .nil, .nil, _ => .nil
  | _, _, _, .cons h r, .cons q t, o => by
    rw [D.oks, Bool.and_eq_true] at o
    exact .cons (Dp.reads I _ _ _ (Dp.mono e (DR.dp h o.1)) q) (reads_of I e r t o.2)
theorem sSorted (hu : X.A.units + 100 < cLine) (hx : VR X.K G.sa m H1 F H x (.lst ds)) (e : Ex F H) (s : SrcR G.sa F H S) {ys : List D} (hs : sortD ds = some ys) (p : Post X.K G W F H (.ok .fr (.lst ys) S) Q) : WC X (.builtin "sorted") [x] H Q := by
  unfold sortD at hs
  split at hs
  · rename_i c
    rw [Bool.and_eq_true, Bool.and_eq_true, Bool.and_eq_true] at c
    obtain ⟨⟨⟨c1, c2⟩, c3⟩, c4⟩ := c
    cases hs
    have hL := of_decide_eq_true c4
    obtain ⟨a, xs, rfl, h1, r1⟩ := hx.lst e
    intro pins s0 σ us I r
    obtain ⟨u, rfl, ru⟩ := vals1 r
    cases ru
    obtain ⟨its, rv, hl, _⟩ := I.list (SqL.of h1)
    refine PySem.W.sorted_data (enc := D.pd) hl.isList (stands_of r1 rv) (reads_of I e r1 rv c1) ?_ ?_ (szMax_le hL) ?_ ?_
    · intro p1 hp1 p2 hp2
      obtain ⟨d1, m1, rfl⟩ := List.mem_map.mp hp1
      obtain ⟨d2, m2, rfl⟩ := List.mem_map.mp hp2
      exact List.all_eq_true.mp (List.all_eq_true.mp c2 d1 m1) d2 m2
    · unfold sortable at c3
      rw [Bool.or_eq_true] at c3
      rcases c3 with c3 | c3
      · refine .inl fun p1 hp1 => ?_
        obtain ⟨d1, m1, rfl⟩ := List.mem_map.mp hp1
        have := List.all_eq_true.mp c3 d1 m1
        cases d1 with
        | tup zs =>
          cases zs with
          | nil => cases this
          | cons z zs => exact ⟨z.pd, D.pds zs, by rw [D.pd, D.pds]⟩
        | _ => cases this
      · refine .inr fun p1 hp1 => ?_
        obtain ⟨d1, m1, rfl⟩ := List.mem_map.mp hp1
        have hk := List.all_eq_true.mp c3 d1 m1
        have ho := oks_mem c1 m1
        cases d1 <;> simp [D.pd, D.ok] at hk ho ⊢
    · intro b hb
      have := (ok_facts b 60 (oks_mem c1 hb)).2
      omega
    · intro out hlen hout
      obtain ⟨zs, hz, hv⟩ := of_stands hout
      obtain ⟨ep, he'⟩ := PyProof.Rows.sortedAll_at s0.heap its out.toArray
      have hlz : zs.length ≤ sizeLine := by rw [hz.length, List.length_mergeSort]; exact szMax_le hL
      refine ⟨.ref _, upd H (s0.heap.objs.size + 1) (.lst zs), I.laid (t' := s0.toks) (fun _ _ => PyProof.Rows.sortedAll_old) (Nat.le_succ _) ⟨hlz, out, ep, hv, by simpa using he'⟩, rfl, ?_⟩
      exact p.newLst e s hz _ (I.hok.fresh (Nat.le_succ _))
  · cases hs
end
end Mp
set_option Elab.async false
set_option maxRecDepth 100000
set_option maxHeartbeats 4000000
/-! MpN: min and max of a tuple of whole numbers. -/
namespace Mp
open PySem PySem.W L2 Evl
theorem depthAll_ints : ∀ l : List Int, PyData.depthAll (l.map PyData.int) = 0
  | [] => rfl
  | x :: l => by
    rw [List.map_cons, PyData.depthAll, depthAll_ints l, PyData.depth]
    rfl
theorem readsAll_ints {h : Heap} : ∀ {is : List Int} {us : List Value}, Vals (is.map V.int) us → ReadsAll h us (is.map PyData.int) []
  | [], _, .nil => .nil
  | i :: is, _, .cons q t => by
    obtain ⟨tk, rfl⟩ := (show ∃ tk, _ = Value.int i tk from q)
    exact .cons (.int i tk) (readsAll_ints t)
theorem alike_ints (is : List Int) : AlikeAll (is.map PyData.int) := by
  refine ⟨fun x hx y hy => ?_, fun x hx => ?_⟩
  · obtain ⟨a, _, rfl⟩ := List.mem_map.mp hx
    obtain ⟨b, _, rfl⟩ := List.mem_map.mp hy
    simp [PySem.W.alike]
  · obtain ⟨a, _, rfl⟩ := List.mem_map.mp hx
    exact fun z => nomatch z
theorem fold_min : ∀ (l : List Int) (m : Int), l.foldl min m = minL m l
  | [], m => rfl
  | x :: r, m => by
    rw [List.foldl_cons, minL, fold_min r]
    congr 1
    split <;> omega
theorem fold_max : ∀ (l : List Int) (m : Int), l.foldl max m = maxL m l
  | [], m => rfl
  | x :: r, m => by
    rw [List.foldl_cons, maxL, fold_max r]
    congr 1
    split <;> omega
def rMinT (K : PySem.W.Frag) : List V → Hp → VK → Prop := fun vs H Q => ∃ (a : Addr) (k : Int) (r : List Int), vs = [V.ref a] ∧ SqT K H a ((k :: r).map V.int) ∧ Q (.int (minL k r)) H
def rMaxT (K : PySem.W.Frag) : List V → Hp → VK → Prop := fun vs H Q => ∃ (a : Addr) (k : Int) (r : List Int), vs = [V.ref a] ∧ SqT K H a ((k :: r).map V.int) ∧ Q (.int (maxL k r)) H
theorem cr_minT {X : Cx} (hc : X.calm = true) (hu : X.A.units + 100 < cLine) : CallR X (.builtin "min") (rMinT X.K) := by
  intro pins s σ H vs us Q I r h
  obtain ⟨a, k, rest, rfl, hT, q⟩ := h
  obtain ⟨its, rv, hl, _⟩ := I.tuple hT
  rw [Vals.ref1 r]
  have hd := depthAll_ints (k :: rest)
  refine min_tuple_data (x := .int k) (xs := rest.map .int) (vs := its.toArray) (I.ok.hd hc) hl (by rw [List.map_cons] at rv; exact readsAll_ints (is := k :: rest) rv) (alike_ints (k :: rest)) ?_ ?_
  · rw [show PyData.int k :: rest.map PyData.int = (k :: rest).map PyData.int from rfl, hd]
    omega
  · intro i v h' tk bs hv hr hk
    rw [minD_ints, fold_min] at hr
    cases hr with
    | int _ t => exact ⟨.int _, H, I.kept hk, ⟨_, rfl⟩, q⟩
theorem cr_maxT {X : Cx} (hc : X.calm = true) (hu : X.A.units + 100 < cLine) : CallR X (.builtin "max") (rMaxT X.K) := by
  intro pins s σ H vs us Q I r h
  obtain ⟨a, k, rest, rfl, hT, q⟩ := h
  obtain ⟨its, rv, hl, _⟩ := I.tuple hT
  rw [Vals.ref1 r]
  have hd := depthAll_ints (k :: rest)
  refine max_tuple_data (x := .int k) (xs := rest.map .int) (vs := its.toArray) (I.ok.hd hc) hl (by rw [List.map_cons] at rv; exact readsAll_ints (is := k :: rest) rv) (alike_ints (k :: rest)) ?_ ?_
  · rw [show PyData.int k :: rest.map PyData.int = (k :: rest).map PyData.int from rfl, hd]
    omega
  · intro i v h' tk bs hv hr hk
    rw [maxD_ints, fold_max] at hr
    cases hr with
    | int _ t => exact ⟨.int _, H, I.kept hk, ⟨_, rfl⟩, q⟩
end Mp
set_option Elab.async false
set_option maxRecDepth 100000
set_option maxHeartbeats 4000000
/-! Mp6: built-in calls, subscripts, slices, isinstance, methods over data (2). -/
namespace Mp
open PySem L2 Evl PyProof.Rows

def WM (X : Cx) (id : String) : V → List V → Hp → VK → Prop := fun x xs H Q => ∀ pins s σ v us, Inv X pins σ H s → RelV x v → Vals xs us → wpAny (model X.prog X.w) X.A (PySem.call (.builtin id) (v :: us)) (EP X pins σ Q) X.xe s
theorem wm {X : Cx} {id : String} : MtR X id (WM X id) := fun pins s σ _ _ _ v us _ I rx r h => h pins s σ v us I rx r

/-- arguments: each is held somehow -/
def VRs (K : PySem.W.Frag) (sa : Sa) (H0 F H : Hp) : List V → List D → Prop := Paired fun v d => ∃ m, VR K sa m H0 F H v d
section
variable {K : PySem.W.Frag} {sa : Sa} {H0 F H F' H' : Hp}
theorem VRs.mono (g : Gr sa F H F' H') : ∀ {vs : List V} {ds : List D}, VRs K sa H0 F H vs ds → VRs K sa H0 F' H' vs ds
  | _, _, .nil => .nil
  | _, _, .cons ⟨m, h⟩ t => .cons ⟨m, h.mono g⟩ (VRs.mono g t)
end

section
variable {X : Cx} {G : Gd} {W : XK} {F H H1 H2 : Hp} {Q : VK} {S : Sr} {x y v : V} {dx dy d : D} {m1 m2 m : Md}
theorem okb_some {o : Option Bool} (p : Post X.K G W F H (okb o S) Q) : ∃ b, o = some b ∧ Post X.K G W F H (.ok .fz (.bl b) S) Q := by
  cases o with
  | none => exact p.elim
  | some b => exact ⟨b, rfl, p⟩
theorem okd_some {o : Option D} (p : Post X.K G W F H (okd o S) Q) : ∃ d, o = some d ∧ Post X.K G W F H (.ok .fz d S) Q := by
  cases o with
  | none => exact p.elim
  | some b => exact ⟨b, rfl, p⟩
theorem vrs1 {K : PySem.W.Frag} {sa : Sa} {vs : List V} {d : D} (h : VRs K sa H1 F H vs [d]) : ∃ v m, vs = [v] ∧ VR K sa m H1 F H v d := by
  cases h with
  | cons h t =>
    cases t
    obtain ⟨m, h⟩ := h
    exact ⟨_, m, rfl, h⟩
theorem vrs2 {K : PySem.W.Frag} {sa : Sa} {vs : List V} {d e : D} (h : VRs K sa H1 F H vs [d, e]) : ∃ v u m n, vs = [v, u] ∧ VR K sa m H1 F H v d ∧ VR K sa n H1 F H u e := by
  cases h with
  | cons h t =>
    obtain ⟨u, n, rfl, h2⟩ := vrs1 t
    obtain ⟨m, h⟩ := h
    exact ⟨_, u, m, n, rfl, h, h2⟩
theorem sBlt (f : Bf) (hpw : G.sa.prog = X.prog ∧ G.sa.w = X.w) (hc : X.calm = true) (hu : X.A.units + 100 < cLine) {vs : List V} {ds : List D} (hv : VRs X.K G.sa H1 F H vs ds) (e : Ex F H) (s : SrcR G.sa F H S) (p : Post X.K G W F H (bltD f ds S) Q) : WC X f.val vs H Q := by
  unfold bltD at p
  split at p
  · obtain ⟨x, m, rfl, h⟩ := vrs1 hv
    obtain ⟨a, us, rfl, h1, r1⟩ := h.lst e
    refine .of call_len_seq ⟨a, us, rfl, .inl (SqL.of h1), ?_⟩
    rw [r1.length]
    exact p.flat e s (.int _)
  · obtain ⟨x, m, rfl, h⟩ := vrs1 hv
    obtain ⟨a, us, rfl, h1, r1⟩ := h.tup
    refine .of call_len_seq ⟨a, us, rfl, .inr (ex_t e h1), ?_⟩
    rw [r1.length]
    exact p.flat e s (.int _)
  · obtain ⟨x, m, rfl, h⟩ := vrs1 hv
    obtain ⟨a, o, kvs, rfl, ha, r⟩ := h.dic e
    rw [hpw.1, hpw.2] at ha
    refine .of call_lenN ⟨a, o, kvs, rfl, ha, r.keysIn e, ?_⟩
    rw [r.length]
    exact p.flat e s (.int _)
  · obtain ⟨x, m, rfl, h⟩ := vrs1 hv
    obtain ⟨rfl, _⟩ := h.str
    split at p
    · rename_i hz
      exact .of call_len_str ⟨_, rfl, szMax_le hz, p.flat e s (.int _)⟩
    · exact p.elim
  · obtain ⟨x, m, rfl, h⟩ := vrs1 hv
    obtain ⟨rfl, _⟩ := h.int
    exact .of call_abs ⟨_, rfl, p.flat e s (.int _)⟩
  · obtain ⟨x, m, rfl, h⟩ := vrs1 hv
    obtain ⟨rfl, _⟩ := h.int
    exact .of call_int1 (.inl ⟨_, rfl, p.flat e s (.int _)⟩)
  · obtain ⟨x, m, rfl, h⟩ := vrs1 hv
    obtain ⟨rfl, _⟩ := h.bl
    exact .of call_int1 (.inr ⟨_, rfl, p.flat e s (.int _)⟩)
  · obtain ⟨x, m, rfl, h⟩ := vrs1 hv
    obtain ⟨a, us, rfl, h1, r1⟩ := h.lst e
    exact .of call_tuple_of ⟨a, us, rfl, .inl ⟨SqL.of h1, p.newTup e s r1⟩⟩
  · obtain ⟨x, m, rfl, h⟩ := vrs1 hv
    obtain ⟨a, us, rfl, h1, r1⟩ := h.tup
    exact .of call_tuple_of ⟨a, us, rfl, .inr ⟨ex_t e h1, p.flat e s (.tup h1 r1)⟩⟩
  · obtain ⟨x, m, rfl, h⟩ := vrs1 hv
    obtain ⟨a, us, rfl, h1, r1⟩ := h.lst e
    exact .of call_list_of ⟨a, us, rfl, .inl (SqL.of h1), p.newLst e s r1⟩
  · obtain ⟨x, m, rfl, h⟩ := vrs1 hv
    obtain ⟨a, us, rfl, h1, r1⟩ := h.tup
    exact .of call_list_of ⟨a, us, rfl, .inr (ex_t e h1), p.newLst e s r1⟩
  · obtain ⟨x, m, rfl, h⟩ := vrs1 hv
    obtain ⟨a, us, rfl, h1, r1⟩ := h.lst e
    obtain ⟨b, hb, p⟩ := okb_some p
    obtain ⟨bs, hbs, rfl⟩ := Option.map_eq_some_iff.mp hb
    obtain rfl := drs_bools r1 hbs
    exact .of (cr_all hc) ⟨a, bs, rfl, SqL.of h1, p.flat e s (.bl _)⟩
  · obtain ⟨x, m, rfl, h⟩ := vrs1 hv
    obtain ⟨a, us, rfl, h1, r1⟩ := h.lst e
    obtain ⟨b, hb, p⟩ := okb_some p
    obtain ⟨bs, hbs, rfl⟩ := Option.map_eq_some_iff.mp hb
    obtain rfl := drs_bools r1 hbs
    exact .of (cr_any hc) ⟨a, bs, rfl, SqL.of h1, p.flat e s (.bl _)⟩
  · obtain ⟨x, m, rfl, h⟩ := vrs1 hv
    obtain ⟨a, us, rfl, h1, r1⟩ := h.lst e
    obtain ⟨b, hb, p⟩ := okd_some p
    obtain ⟨bs, hbs, rfl⟩ := Option.map_eq_some_iff.mp hb
    obtain rfl := drs_ints r1 hbs
    exact .of (cr_sum hc) ⟨a, bs, rfl, SqL.of h1, p.flat e s (.int _)⟩
  · obtain ⟨x, m, rfl, h⟩ := vrs1 hv
    obtain ⟨a, us, rfl, h1, r1⟩ := h.lst e
    split at p
    · rename_i k r hk
      obtain rfl := drs_ints r1 hk
      refine .of (cr_max hc) ⟨a, k :: r, rfl, SqL.of h1, by simp, fun z hz1 hz2 => ?_⟩
      rw [max_one hz1 hz2]
      exact p.flat e s (.int _)
    · exact p.elim
  · obtain ⟨x, m, rfl, h⟩ := vrs1 hv
    obtain ⟨a, us, rfl, h1, r1⟩ := h.lst e
    split at p
    · rename_i k r hk
      obtain rfl := drs_ints r1 hk
      refine .of (cr_min hc) ⟨a, k :: r, rfl, SqL.of h1, by simp, fun z hz1 hz2 => ?_⟩
      rw [min_one hz1 hz2]
      exact p.flat e s (.int _)
    · exact p.elim
  · obtain ⟨x, m, rfl, h⟩ := vrs1 hv
    obtain ⟨a, us, rfl, h1, r1⟩ := h.tup
    split at p
    · rename_i k r hk
      obtain rfl := drs_ints r1 hk
      exact .of (cr_maxT hc hu) ⟨a, k, r, rfl, ex_t e h1, p.flat e s (.int _)⟩
    · exact p.elim
  · obtain ⟨x, m, rfl, h⟩ := vrs1 hv
    obtain ⟨a, us, rfl, h1, r1⟩ := h.tup
    split at p
    · rename_i k r hk
      obtain rfl := drs_ints r1 hk
      exact .of (cr_minT hc hu) ⟨a, k, r, rfl, ex_t e h1, p.flat e s (.int _)⟩
    · exact p.elim
  · obtain ⟨x, y, m, n, rfl, h1, h2⟩ := vrs2 hv
    obtain ⟨rfl, _⟩ := h1.int
    obtain ⟨rfl, _⟩ := h2.int
    exact .of (call_max2 hc) ⟨_, _, rfl, p.flat e s (.int _)⟩
  · obtain ⟨x, y, m, n, rfl, h1, h2⟩ := vrs2 hv
    obtain ⟨rfl, _⟩ := h1.int
    obtain ⟨rfl, _⟩ := h2.int
    exact .of (call_min2 hc) ⟨_, _, rfl, p.flat e s (.int _)⟩
  · obtain ⟨x, m, rfl, h⟩ := vrs1 hv
    split at p
    · rename_i ys hs
      exact sSorted hu h e s hs p
    · exact p.elim
  · exact p.elim

/-! ### a[i], a[lo:hi] -/
def WX' (X : Cx) : R2 := fun x y H Q => ∀ (value slice : Expr) pins s σ v u, Inv X pins σ H s → RelV x v → RelV y u → subscripted slice false v u = operate [v, u] (getItem v u) → wpAny (model X.prog X.w) X.A (subscriptTail value slice v u) (EP X pins σ Q) X.xe s
theorem wx {X : Cx} : IxR X (WX' X) := fun value slice pins s σ _ _ _ v u _ I rx ry h hs => h value slice pins s σ v u I rx ry hs
theorem WX'.of {r : R2} {x y : V} {H : Hp} {Q : VK} (p : IxR X r) (h : r x y H Q) : WX' X x y H Q := fun value slice pins s σ v u I rx ry hs => p value slice pins s σ H x y v u Q I rx ry h hs
theorem drs_at {K : PySem.W.Frag} {sa : Sa} {xs : List V} {ds : List D} {i : Int} {d : D} (r : DRs K sa F xs ds) (h : atI ds i = some d) : ∃ v, atI xs i = some v ∧ DR K sa F v d := by
  unfold atI at h ⊢
  rw [r.length]
  cases q : ixN ds.length i with
  | none => rw [q] at h; cases h
  | some j =>
    rw [q] at h
    exact r.get h
theorem sIx (hpw : G.sa.prog = X.prog ∧ G.sa.w = X.w) (hu : X.A.units + 100 < cLine) (hx : VR X.K G.sa m1 H1 F H x dx) (hy : VR X.K G.sa m2 H2 F H y dy) (e : Ex F H) (s : SrcR G.sa F H S) (p : Post X.K G W F H (okd (ixD dx dy) S) Q) : WX' X x y H Q := by
  obtain ⟨d, q, p'⟩ := okd_some p
  clear p
  unfold ixD at q
  split at q
  · obtain ⟨a, us, rfl, h1, r1⟩ := hx.lst e
    obtain ⟨rfl, _⟩ := hy.int
    obtain ⟨v, hv, hd⟩ := drs_at r1 q
    exact .of ix_list ⟨a, us, _, v, rfl, rfl, SqL.of h1, hv, p'.flat e s hd⟩
  · obtain ⟨a, us, rfl, h1, r1⟩ := hx.tup
    obtain ⟨rfl, _⟩ := hy.int
    obtain ⟨v, hv, hd⟩ := drs_at r1 q
    exact .of ix_tup ⟨a, us, _, v, rfl, rfl, ex_t e h1, hv, p'.flat e s hd⟩
  · split at q
    · rename_i k hk
      obtain ⟨a, o, kvs, rfl, ha, r⟩ := hx.dic e
      rw [hpw.1, hpw.2] at ha
      obtain ⟨b, rfl, kin⟩ := hy.keyIn e hk
      have z := r.look k
      rw [q] at z
      obtain ⟨v, hv, hd⟩ := z
      exact .of (ix_dicN (by omega)) ⟨b, a, o, kvs, k, v, rfl, rfl, kin, ha, r.keysIn e, hv, p'.flat e s hd⟩
    · cases q
  · cases q
/-- slices -/
def WS' (X : Cx) : V → Option Int → Option Int → Hp → VK → Prop := fun x lo hi H Q => rSlL X.K x lo hi H Q ∨ rSlA X.K x lo hi H Q
theorem ws : SlR X (WS' X) := SlR.or sl_list sl_tupA
theorem drs_cut {K : PySem.W.Frag} {sa : Sa} {xs : List V} {ds : List D} (r : DRs K sa F xs ds) (lo hi : Option Int) : DRs K sa F (cutV xs lo hi) (cutD ds lo hi) := by
  unfold cutV cutD
  rw [r.length]
  exact (r.drop _).take _
theorem sSlL {xs : List D} {lo hi : Option Int} (hx : VR X.K G.sa m H1 F H x (.lst xs)) (e : Ex F H) (s : SrcR G.sa F H S) (p : Post X.K G W F H (.ok .fr (.lst (cutD xs lo hi)) S) Q) : WS' X x lo hi H Q := by
  obtain ⟨a, us, rfl, h1, r1⟩ := hx.lst e
  exact .inl ⟨a, us, rfl, SqL.of h1, p.newLst e s (drs_cut r1 lo hi)⟩
theorem sSlT {xs : List D} {lo hi : Option Int} (hx : VR X.K G.sa m H1 F H x (.tup xs)) (e : Ex F H) (s : SrcR G.sa F H S) (p : Post X.K G W F H (.ok .fz (.tup (cutD xs lo hi)) S) Q) : WS' X x lo hi H Q := by
  obtain ⟨a, us, rfl, h1, r1⟩ := hx.tup
  refine .inr ⟨a, us, rfl, ex_t e h1, fun hw => ?_, fun _ => p.newTup e s (drs_cut r1 lo hi)⟩
  rw [r1.length] at hw
  have ec : cutD xs lo hi = xs := by
    unfold cutD
    rw [hw.1, hw.2]
    simp
  rw [ec] at p
  exact p.flat e s (.tup h1 r1)

/-! ### isinstance -/
theorem sIsi (c : Ty) (hx : VR X.K G.sa m H1 F H x d) (e : Ex F H) (s : SrcR G.sa F H S) {b : Bool} (hb : isiD d c = some b) (p : Post X.K G W F H (.ok .fz (.bl b) S) Q) : WC X (.builtin "isinstance") [x, .ty c.nm] H Q := by
  have k : ∀ t : String, TyX X.K H x (.type t) → kitB t c.nm = some b → WC X (.builtin "isinstance") [x, .ty c.nm] H Q := fun t ty hk =>
    .of call_isi ⟨x, .ty c.nm, .type t, .type c.nm, b, rfl, .ty _, ty, kit_ty hk, p.flat e s (.bl _)⟩
  cases d with
  | non =>
    cases hx.non
    refine k "NoneType" (.base .non) ?_
    cases c <;> cases hb <;> decide +kernel
  | bl _ =>
    obtain ⟨rfl, _⟩ := hx.bl
    refine k "bool" (.base (.bl _)) ?_
    cases c <;> cases hb <;> decide +kernel
  | int _ =>
    obtain ⟨rfl, _⟩ := hx.int
    refine k "int" (.base (.int _)) ?_
    cases c <;> cases hb <;> decide +kernel
  | str _ =>
    obtain ⟨rfl, _⟩ := hx.str
    refine k "str" (.base (.str _)) ?_
    cases c <;> cases hb <;> decide +kernel
  | lst _ =>
    obtain ⟨a, us, rfl, h1, r1⟩ := hx.lst e
    refine k "list" (.base (.lst h1)) ?_
    cases c <;> cases hb <;> decide +kernel
  | tup _ =>
    obtain ⟨a, us, rfl, h1, r1⟩ := hx.tup
    refine k "tuple" ?_ ?_
    · rcases ex_t e h1 with (h1 | ⟨o, h1⟩) | h1
      · exact .base (.tup h1)
      · exact .fTuple h1
      · obtain ⟨o, its, n, h1, h2, _⟩ := h1
        exact .kTuple h1 h2
    · cases c <;> cases hb <;> decide +kernel
  | dct kvs =>
    have hd : ∃ a, x = .ref a ∧ H a = some (.dK []) := by
      cases m with
      | fz => cases hx with | dct0 h => exact ⟨_, rfl, e _ _ h⟩
      | fr => obtain ⟨a, e1, _, _, _, _, o⟩ := hx; exact ⟨a, e1, o.2⟩
      | br => obtain ⟨a, e1, _, _, _, o⟩ := hx; exact ⟨a, e1, o.2⟩
    obtain ⟨a, rfl, h1⟩ := hd
    refine k "dict" (.base (.dK h1)) ?_
    cases c <;> cases hb <;> decide +kernel
  | _ => cases hb
end
end Mp
set_option Elab.async false
/-! MpS: the empty set's object. -/
namespace Mp
open PySem PySem.Spec PyProof.Rows L2 Evl
/-- the empty set's object -/
abbrev eset (w : World) : Obj := { cls := .type "set", dict := none, data := .set #[] 0 (.fresh 0 0 (!w.params.followText "set-order")) }
end Mp
set_option Elab.async false
set_option maxRecDepth 100000
set_option maxHeartbeats 4000000
/-! MpS2: sorted of a set of tuples; what is told by a list of lists of whole numbers. -/
namespace Mp
open PySem PySem.Spec PyProof.Rows L2 Evl

theorem intsOf_eq : ∀ {ds : List D} {l : List Int}, intsOf ds = some l → ds = l.map .int
  | [], l, h => by cases h; rfl
  | d :: ds, l, h => by
    cases d <;> simp only [intsOf] at h <;> try (cases h; done)
    obtain ⟨r, h1, rfl⟩ := Option.map_eq_some_iff.mp h
    rw [intsOf_eq h1, List.map_cons]
theorem rowOf_eq {d : D} {l : List Int} (h : rowOf d = some l) : d = tupD l := by
  cases d <;> simp only [rowOf] at h <;> try (cases h; done)
  rw [intsOf_eq h]
  rfl
theorem rowsD_eq : ∀ {ds : List D} {ls : List (List Int)}, rowsD ds = some ls → ds = ls.map tupD
  | [], ls, h => by cases h; rfl
  | d :: ds, ls, h => by
    unfold rowsD at h
    cases h1 : rowOf d with
    | none => rw [h1] at h; cases h
    | some x =>
      cases h2 : rowsD ds with
      | none => rw [h1, h2] at h; cases h
      | some y =>
        rw [h1, h2] at h
        cases h
        rw [rowOf_eq h1, rowsD_eq h2, List.map_cons]
theorem intsOf_map : ∀ l : List Int, intsOf (l.map .int) = some l
  | [] => rfl
  | x :: l => by
    show (intsOf (l.map .int)).map (x :: ·) = _
    rw [intsOf_map l]
    rfl
theorem rowsD_map : ∀ ls : List (List Int), rowsD (ls.map tupD) = some ls
  | [] => rfl
  | x :: ls => by
    have e : rowOf (tupD x) = some x := intsOf_map x
    show (match rowOf (tupD x), rowsD (ls.map tupD) with | some x, some y => some (x :: y) | _, _ => none) = _
    rw [e, rowsD_map ls]
theorem mem_once {x : List Int} : ∀ {l : List (List Int)}, x ∈ once l ↔ x ∈ l
  | [] => Iff.rfl
  | y :: r => by
    unfold once
    split
    · rename_i h
      rw [mem_once (l := r), List.mem_cons]
      exact ⟨.inr, fun q => q.elim (fun e => e ▸ h) id⟩
    · rw [List.mem_cons, List.mem_cons, mem_once (l := r)]
theorem nodup_once : ∀ l : List (List Int), (once l).Nodup
  | [] => List.nodup_nil
  | y :: r => by
    unfold once
    split
    · exact nodup_once r
    · rename_i h
      exact List.nodup_cons.mpr ⟨fun q => h (mem_once.mp q), nodup_once r⟩
theorem le_tot (a b : List Int) : a ≤ b ∨ b ≤ a := List.le_total a b
theorem ssort_sorted (l : List (List Int)) : (ssort l).Pairwise fun a b => a ≤ b := by
  have := List.pairwise_mergeSort (le := fun a b : List Int => decide (a ≤ b)) (fun a b c h1 h2 => by
    simp only [decide_eq_true_eq] at *
    exact List.le_trans h1 h2) (fun a b => by
    rw [Bool.or_eq_true, decide_eq_true_eq, decide_eq_true_eq]
    exact List.le_total a b) (once l)
  exact this.imp fun h => of_decide_eq_true h
theorem mem_ssort {x : List Int} {l : List (List Int)} : x ∈ ssort l ↔ x ∈ l := by
  unfold ssort
  rw [List.mem_mergeSort, mem_once]
theorem nodup_ssort (l : List (List Int)) : (ssort l).Nodup := (List.mergeSort_perm _ _).nodup_iff.mpr (nodup_once l)
theorem sorted_one {l m : List (List Int)} (hp : l.Perm m) (hl : l.Pairwise fun a b => a ≤ b) (hm : m.Pairwise fun a b => a ≤ b) : l = m :=
  hp.eq_of_pairwise (fun a b _ _ h1 h2 => List.le_antisymm h1 h2) hl hm
theorem dle_rowsP (a b : List Int) : (!PySem.W.dataLt (.tuple (b.map PyData.int)) (.tuple (a.map PyData.int))) = decide (a ≤ b) := by
  have e := PySem.W.dataLt_ints b a
  have e2 : PySem.W.dataLt (.tuple (b.map .int)) (.tuple (a.map .int)) = PySem.W.rowLt (b.map .int) (a.map .int) := by
    rw [PySem.W.dataLt_tuple]
    rfl
  rw [e2, e]
  by_cases h : a ≤ b
  · rw [decide_eq_true h, decide_eq_false (List.not_lt.mpr h)]
    rfl
  · rw [decide_eq_false h, decide_eq_true (List.not_le.mp h)]
    rfl

theorem perm_mapped {α β : Type} {f : β → α} {vs m : List α} (h : vs.Perm m) : ∀ l : List β, m = l.map f → ∃ l1 : List β, l1.Perm l ∧ vs = l1.map f := by
  induction h with
  | nil =>
    intro l e
    cases l with
    | nil => exact ⟨[], List.Perm.refl _, rfl⟩
    | cons => cases e
  | cons x _ ih =>
    intro l e
    cases l with
    | nil => cases e
    | cons y l =>
      rw [List.map_cons] at e
      injection e with e1 e2
      obtain ⟨l1, p, e3⟩ := ih l e2
      exact ⟨y :: l1, p.cons y, by rw [List.map_cons, e1, e3]⟩
  | swap x y l0 =>
    intro l e
    rcases l with _ | ⟨a, _ | ⟨b, l⟩⟩
    · cases e
    · cases e
    · rw [List.map_cons, List.map_cons] at e
      injection e with e1 e2
      injection e2 with e2 e3
      exact ⟨b :: a :: l, List.Perm.swap a b l, by rw [List.map_cons, List.map_cons, e1, e2, e3]⟩
  | trans _ _ ih1 ih2 =>
    intro l e
    obtain ⟨l2, p2, e2⟩ := ih2 l e
    obtain ⟨l1, p1, e1⟩ := ih1 l2 e2
    exact ⟨l1, p1.trans p2, e1⟩
theorem reads_ints {h : Heap} {k : List Int} {vs : List Value} (x : IntsAre vs k) : ReadsAll h vs (k.map PyData.int) [] := by
  induction x with
  | nil => exact .nil
  | cons k0 t _ ih => exact ReadsAll.cons (as := []) (.int k0 t) ih
theorem reads_tupI {P : Program} {w : World} {h : Heap} {k : List Int} {b : Addr} (x : IsT P w h k b) : Reads h (.ref b) (.tuple (k.map PyData.int)) [] := by
  obtain ⟨o, items, n, ho, hc, hd, hi⟩ := x
  exact .tuple ho hc hd (reads_ints (ints_of_items hi))
section
variable {X : Cx} {H : Hp} {Q : VK}
/-- sorted(set), the set of tuples of whole numbers, none empty -/
theorem sSortSet {a : Addr} {L : List (Addr × List Int)} (hc : X.calm = true) (hu : X.A.units + 100 < cLine) (ha : H a = some (BTO X.prog X.w a L)) (hk : ∀ p ∈ L, SqT X.K H p.1 (p.2.map V.int)) (hne : ∀ p ∈ L, p.2 ≠ [])
    (q : ∀ (L' : List (Addr × List Int)) (p : Addr), L'.Perm L → (L'.map (·.2)).Nodup → L'.Pairwise (fun x y => x.2 ≤ y.2) → H p = none → Q (.ref p) (upd H p (.lst (L'.map fun x => V.ref x.1)))) : WC X (.builtin "sorted") [.ref a] H Q := by
  intro pins s σ us I r
  obtain ⟨u, rfl, ru⟩ := vals1 r
  cases ru
  obtain ⟨es, ep, t, R⟩ := asked I ha hk
  obtain ⟨o, getS, exact1, dataS⟩ := R.ob
  have few := R.few
  have sz := R.size
  refine Calls.call_function_entry kind_sorted plain_sorted entry_sorted (args_sorted1 _) ?_
  unfold Builtin.«sorted»
  refine wpAny_bind (m := checkCount "sorted" 1 1 _) (wpAny_pure ?_)
  refine wpAny_bind (collect_set (A := X.A.in1) (I.ok.hd hc) ⟨o, getS, exact1.1, dataS⟩ R.fits (by rw [sz]; exact Nat.lt_of_lt_of_le few (by decide)) R.tab.ris R.led fun s1 vs kept grown sameG sameO pm => ?_)
  have rows : es.toList.map (·.2) = L.map fun p => Value.ref p.1 := by
    rw [R.rows, rowsOf, List.map_map]
    rfl
  rw [rows] at pm
  obtain ⟨L1, pm1, rfl⟩ := perm_mapped pm L rfl
  have len1 : L1.length < 1229 := by rw [pm1.length_eq]; exact few
  have line64 : 1229 ≤ sizeLine := by rw [sizeLine_eq]; omega
  refine wpAny_bind (wpAny_newList ?_ (by rw [List.length_map]; omega))
  have there : (s1.heap.push (seqObj "list" (L1.map fun p => Value.ref p.1).toArray 0)).get? s1.heap.objs.size = some (seqObj "list" (L1.map fun p => Value.ref p.1).toArray 0) := Heap.get?_push_size _ rfl
  have tupL : ∀ p ∈ L1, IsT X.prog X.w (s1.heap.push (seqObj "list" (L1.map fun p => Value.ref p.1).toArray 0)) p.2 p.1 := fun p hp =>
    isT_keep (R.tup p (pm1.mem_iff.mp hp)) fun b u e => Heap.get?_push_of_some _ (kept b u e)
  let enc : Addr × List Int → PyData := fun p => .tuple (p.2.map PyData.int)
  have each : ∀ l : List (Addr × List Int), (∀ p ∈ l, p ∈ L1) → PySem.W.EachIs (fun v p => v = Value.ref p.1 ∧ p ∈ L1) (l.map fun p => Value.ref p.1) l := by
    intro l
    induction l with
    | nil => intro _; exact .nil
    | cons p l ih => intro hl; exact .cons ⟨rfl, hl p List.mem_cons_self⟩ (ih fun y hy => hl y (List.mem_cons_of_mem _ hy))
  have eachR : ∀ l : List (Addr × List Int), (∀ p ∈ l, p ∈ L1) → PySem.W.EachIs (fun v p => ∃ as, Reads (s1.heap.push (seqObj "list" (L1.map fun p => Value.ref p.1).toArray 0)) v (enc p) as ∧ s1.heap.objs.size ∉ as) (l.map fun p => Value.ref p.1) l := by
    intro l
    induction l with
    | nil => intro _; exact .nil
    | cons p l ih => intro hl; exact .cons ⟨[], reads_tupI (tupL p (hl p List.mem_cons_self)), fun z => nomatch z⟩ (ih fun y hy => hl y (List.mem_cons_of_mem _ hy))
  have alikeI : ∀ x y : List Int, PySem.W.alike (.tuple (x.map PyData.int)) (.tuple (y.map PyData.int)) = true := fun x y => by
    show PySem.W.alikeAll (x.map PyData.int) (y.map PyData.int) = true
    exact PySem.W.alike_ints x y
  refine wpAny_bind (wpAny_holding (PySem.W.list_sort_data (β := Addr × List Int) (R := fun v p => v = Value.ref p.1 ∧ p ∈ L1) (enc := enc) (bs := L1) (s := { s1 with heap := s1.heap.push (seqObj "list" (L1.map fun p => Value.ref p.1).toArray 0) })
    there (each L1 fun _ z => z) (eachR L1 fun _ z => z) ?_ ?_ ?_ ?_ ?_))
  · intro d1 h1 d2 h2
    obtain ⟨p1, _, rfl⟩ := List.mem_map.mp h1
    obtain ⟨p2, _, rfl⟩ := List.mem_map.mp h2
    exact alikeI p1.2 p2.2
  · refine .inl fun d hd => ?_
    obtain ⟨p, hp, rfl⟩ := List.mem_map.mp hd
    cases e : p.2 with
    | nil => exact absurd e (hne p (pm1.mem_iff.mp hp))
    | cons z zs =>
      refine ⟨.int z, zs.map PyData.int, ?_⟩
      show PyData.tuple (p.2.map PyData.int) = _
      rw [e]
      rfl
  · omega
  · intro p hp
    have : (enc p).depth ≤ 1 := by
      show PyData.depth (.tuple (p.2.map PyData.int)) ≤ 1
      rw [PyData.depth, PySem.W.depth_ints]
      decide
    show X.A.in1.units + 1 + (enc p).depth < cLine
    have : X.A.in1.units = X.A.units + 1 := rfl
    omega
  · intro out lo eo
    have hout : out = (L1.mergeSort (PySem.W.dataLe false enc)).map fun p => Value.ref p.1 := by
      clear lo
      generalize L1.mergeSort (PySem.W.dataLe false enc) = L2 at eo
      induction eo with
      | nil => rfl
      | cons h _ ih => rw [h.1, ih, List.map_cons]
    have pmS := List.mergeSort_perm L1 (PySem.W.dataLe false enc)
    have ord : (L1.mergeSort (PySem.W.dataLe false enc)).Pairwise fun x y => x.2 ≤ y.2 := by
      have k : ∀ x y : Addr × List Int, PySem.W.dataLe false enc x y = decide (x.2 ≤ y.2) := fun x y => dle_rowsP x.2 y.2
      have := List.pairwise_mergeSort (le := PySem.W.dataLe false enc) (fun x y z h1 h2 => by
        rw [k, decide_eq_true_eq] at *
        exact List.le_trans h1 h2) (fun x y => by
        rw [k, k, Bool.or_eq_true, decide_eq_true_eq, decide_eq_true_eq]
        exact List.le_total x.2 y.2) L1
      exact this.imp fun {x y} h => by
        rw [k] at h
        exact of_decide_eq_true h
    obtain ⟨c, hcS⟩ := sortedHeap_at (vs := L1.map fun p => Value.ref p.1) (out := out.toArray) there
    have hn : H s1.heap.objs.size = none := I.hok.fresh grown
    have kept2 : ∀ b u, s.heap.get? b = some u → (sortedHeap (s1.heap.push (seqObj "list" (L1.map fun p => Value.ref p.1).toArray 0)) s1.heap.objs.size (L1.map fun p => Value.ref p.1) out.toArray).get? b = some u := fun b u e => by
      have e1 := kept b u e
      have lt := Heap.lt_size e1
      rw [sortedHeap_old (Nat.ne_of_lt lt) (by rw [Heap.size_push]; exact Nat.lt_succ_of_lt lt)]
      exact Heap.get?_push_of_some _ e1
    rcases s1 with ⟨y1, y2, y3, y4, y5⟩
    dsimp only at sameG sameO
    subst sameG sameO
    have hv : Vals ((L1.mergeSort (PySem.W.dataLe false enc)).map fun p => V.ref p.1) out := by
      rw [hout]
      exact vals_of_refs _
    have J : Inv X pins σ (upd H y1.objs.size (.lst ((L1.mergeSort (PySem.W.dataLe false enc)).map fun p => V.ref p.1)))
        ⟨sortedHeap (y1.push (seqObj "list" (L1.map fun p => Value.ref p.1).toArray 0)) y1.objs.size (L1.map fun p => Value.ref p.1) out.toArray, s.gens, y3, y4, s.os⟩ :=
      I.call' (ch := []) rfl (Un.laid kept2 grown hn) (I.hok.laid kept2 grown ⟨by rw [List.length_map, List.length_mergeSort]; omega, out, c, hv, hcS⟩) I.bare (fun _ z => nomatch z)
    exact wpAny_pure ⟨_, rfl, .ref _, _, J, rfl, q _ _ (pmS.trans pm1) (((pmS.trans pm1).map (·.2)).nodup_iff.mpr R.nd) ord hn⟩
end
end Mp
set_option Elab.async false
set_option maxRecDepth 100000
set_option maxHeartbeats 4000000
/-! MpI: sorted(set(xs)), xs few whole numbers. -/
namespace Mp
open PySem PySem.Spec PyProof.Rows L2 Evl
section
variable {P : Program} {w : World} {A : Around} {E : Value → Shared → Prop} {s : Shared}
set_option maxHeartbeats 8000000 in
/-- set(t), t a list of whole numbers -/
theorem setOfInts {l : Addr} {items : Array Value} (ns : List Int) {Q : Value → Shared → Prop} (hh : A.handled = none) (hl : s.heap.IsList l items) (hit : IntsAre items.toList ns) (few : ns.length + 1 < scanBound)
    (h : ∀ (h' : Heap) (tk c : Nat), SetR w h' s.heap.objs.size (fun j => decide (j ∈ ns)) c → c ≤ ns.length → (∀ b o, s.heap.get? b = some o → h'.get? b = some o) → Q (.ref s.heap.objs.size) { s with heap := h', toks := tk }) :
    wpAny (model P w) A (call (.type "set") [.ref l]) Q E s := by
  have sizes : items.size = ns.length := by
    have z := IntsAre.length hit
    rw [Array.length_toList] at z
    exact z
  obtain ⟨c1, c2, c3⟩ := F.called_set.mro
  have k1 := F.called_set.made
  have k2 := F.called_set.sub
  refine wpAny_call (codeAny_of_tree ?_)
  show wpAny _ _ (callAny (.type "set") _) _ _ _
  refine wpAny_pure ⟨Code.quiet_builtin _ (by decide +kernel), codeAny_builtin F.entry_type_call ?_⟩
  rw [Around.under_plain (weight_type_call_type "set" [.ref l] []) rfl]
  have k3 := F.called_set.notType
  have k4 := F.called_set.canCreate
  have k5 := F.typeCall_set_1 (.ref l)
  repeat (any_goals (first | assumption | wp_step))
  refine codeAny_mono (code_set_led1 (.ref l) (E := E)
    (Q₁ := fun x t => x = .ref s.heap.objs.size ∧ t = { s with heap := s.heap.push (eset w) }) ⟨rfl, rfl⟩) fun r t hr => ?_
  cases r with
  | error e => exact hr
  | ok fl =>
    cases fl with
    | ret x =>
      obtain ⟨rfl, rfl⟩ := hr
      have there : (s.heap.push (eset w)).get? s.heap.objs.size = some (eset w) := Heap.get?_push_size _ rfl
      have tyS : Shared.TypeIs { s with heap := s.heap.push (eset w) } (.ref s.heap.objs.size) "set" := ⟨_, there, rfl⟩
      have k6 := F.called_set.init.lookup
      have k7 := F.called_set.init.bind (.ref s.heap.objs.size)
      repeat (any_goals (first | assumption | wp_step))
      refine codeAny_mono (codeAny_call_builtin (R := wants (fun r t => r = .none ∧ ∃ h' tk c, t = { s with heap := h', toks := tk } ∧
          SetR w h' s.heap.objs.size (fun j => decide (j ∈ ns)) c ∧ c ≤ ns.length ∧ (∀ b o, s.heap.get? b = some o → h'.get? b = some o)) E) F.called_set.init.plain F.entry_set_init (check_set_init_1 tyS ?_)) fun r2 t2 hr2 => ?_
      · obtain ⟨ob, getL, clsL, nn, dataL⟩ := hl
        rcases ob with ⟨x1, x2, x3, x4⟩
        dsimp only at clsL dataL
        subst clsL dataL
        have getL2 : (s.heap.push (eset w)).get? l = some { cls := .type "list", dict := x2, data := .seq items nn, slots := x4 } := Heap.get?_push_of_some _ getL
        have m1 := F.sub_list_set
        have m2 := F.sub_list_frozenset
        have m3 : (Value.type "list" == Value.type "dict") = false := by decide
        have isL2 : (s.heap.push (eset w)).IsList l items := ⟨_, getL2, rfl, nn, rfl⟩
        unfold Builtin.«set.__init__» noKeywords Builtin.Frozenset.updateFrom
        generalize hIter : pyIter = theIter
        wp_walk
        subst hIter
        refine wpAny_pyIter_list isL2 (wpAny_bind (wpAny_runValue ?_))
        have below : l < s.heap.objs.size := Heap.lt_size getL
        have calm3 : A.in1.in1.in1.handled = none := by simp [hh]
        have grown : (s.heap.push (eset w)).objs.size = s.heap.objs.size + 1 := Heap.size_push ..
        have apart : l ≠ (s.heap.push (eset w)).objs.size := by
          rw [grown]
          exact Nat.ne_of_lt (Nat.lt_succ_of_lt below)
        have notIn : s.heap.objs.size ∉ [(s.heap.push (eset w)).objs.size, l] := by
          rw [grown]
          intro hm
          rcases List.mem_cons.mp hm with q | q
          · exact absurd q (Nat.ne_of_lt (Nat.lt_succ_self _))
          · exact absurd (List.mem_singleton.mp q) (Nat.ne_of_gt below)
        have vals : ∀ (i : Nat) (v : Value), items[i]? = some v → ∃ k t, ns[i]? = some k ∧ v = .int k t := by
          intro i v hv
          have hi : i < ns.length := by
            rw [← sizes]
            exact (Array.getElem?_eq_some_iff.mp hv).1
          obtain ⟨t, e⟩ := IntsAre.int_at hit i v (by rw [Array.getElem?_toList]; exact hv)
          refine ⟨ns[i], t, List.getElem?_eq_getElem hi, ?_⟩
          rw [List.getD_eq_getElem?_getD, List.getElem?_eq_getElem hi] at e
          exact e
        refine set_update_ints ((Walks.list calm3 _ l apart items).toS) s.heap.objs.size notIn ns sizes few vals (items.size - 0) 0 _ (by omega) (Nat.zero_le _)
          ⟨⟨_, Heap.get?_push_size _ rfl, rfl, rfl⟩, (isL2.push _)⟩ ?first ?last
        case first =>
          exact ⟨0, Nat.le_refl 0, setR_new_at (Heap.get?_push_of_some _ there)⟩
        case last =>
          intro t3 c mv hc isS
          rcases t3 with ⟨y1, y2, y3, y4, y5⟩
          have z2 : y2 = s.gens := mv.gens
          have z3 : y3 = s.drawn := mv.drawn
          have z5 : y5 = s.os := mv.os
          subst z2 z3 z5
          rw [sizes] at hc
          refine wpAny_pure (wpAny_pure ⟨rfl, y1, y4, c, rfl, isS, hc, fun b o e => ?_⟩)
          have lt := Heap.lt_size e
          have n1 : b ≠ s.heap.objs.size := Nat.ne_of_lt lt
          have n2 : b ≠ (s.heap.push (eset w)).objs.size := by
            rw [grown]
            exact Nat.ne_of_lt (Nat.lt_succ_of_lt lt)
          have out : b ∉ s.heap.objs.size :: [(s.heap.push (eset w)).objs.size] := by
            intro hm
            rcases List.mem_cons.mp hm with q | q
            · exact n1 q
            · exact n2 (List.mem_singleton.mp q)
          exact mv.heap b o out (Heap.get?_push_of_some _ (Heap.get?_push_of_some _ e))
      · cases r2 with
        | error e => exact hr2
        | ok f2 =>
          cases f2 with
          | ret v =>
            obtain ⟨rfl, h', tk, c, rfl, isS, hc, kept⟩ := hr2
            repeat (any_goals (first | assumption | wp_step))
            exact h _ _ _ isS hc kept
          | _ => exact hr2.elim
    | _ => exact hr.elim
end
theorem mem_onceI {x : Int} : ∀ {l : List Int}, x ∈ onceI l ↔ x ∈ l
  | [] => Iff.rfl
  | y :: r => by
    unfold onceI
    split
    · rename_i h
      rw [mem_onceI (l := r), List.mem_cons]
      exact ⟨.inr, fun z => z.elim (fun q => q ▸ h) id⟩
    · rw [List.mem_cons, List.mem_cons, mem_onceI (l := r)]
theorem nodup_onceI : ∀ l : List Int, (onceI l).Nodup
  | [] => .nil
  | y :: r => by
    unfold onceI
    split
    · exact nodup_onceI r
    · rename_i h
      exact List.nodup_cons.mpr ⟨fun q => h (mem_onceI.mp q), nodup_onceI r⟩
theorem setR_count {w : World} {h : Heap} {a : Addr} {ns : List Int} {c : Nat} (R : SetR w h a (fun j => decide (j ∈ ns)) c) : c = (onceI ns).length := by
  obtain ⟨o, es, ep, t, _, _, _, _, nd, mem, _, _, hn, _⟩ := R
  have pm : (es.toList.map keyOf).Perm (onceI ns) := (List.perm_ext_iff_of_nodup nd (nodup_onceI ns)).mpr fun x => by
    rw [← mem x, mem_onceI]
    exact decide_eq_true_iff
  have := pm.length_eq
  rw [List.length_map, Array.length_toList, hn] at this
  exact this
section
variable {X : Cx} {H : Hp} {Q : VK}
/-- set(xs), a list or a tuple of whole numbers -/
theorem iSetOf {l : Addr} {ns : List Int} (hc : X.calm = true) (hl : SqL X.K H l (ns.map V.int) ∨ SqT X.K H l (ns.map V.int)) (few : ns.length < 4000)
    (q : ∀ a c, H a = none → c = (onceI ns).length → Q (.ref a) (upd H a (SetO X.w a (fun j => decide (j ∈ ns)) c))) : WC X (.type "set") [.ref l] H Q := by
  have sb : ns.length + 1 < scanBound := Nat.lt_of_lt_of_le (m := 4001) (by omega) (by decide)
  intro pins s σ us I r
  rw [Vals.ref1 r]
  have new : H s.heap.objs.size = none := I.hok.fresh (Nat.le_refl _)
  rcases hl with hl | hl
  · obtain ⟨its, rv, st, hz⟩ := I.list hl
    refine setOfInts (P := X.prog) (w := X.w) ns (I.ok.hd hc) st.isList (by simpa using rv.ints) sb fun h' tk c R hc' kept => ?_
    exact ⟨.ref s.heap.objs.size, upd H s.heap.objs.size (SetO X.w s.heap.objs.size (fun j => decide (j ∈ ns)) c), I.laid (t' := tk) kept (Nat.le_refl _) (setO_new R), rfl, q _ c new (setR_count R)⟩
  · obtain ⟨its, rv, st, hz⟩ := I.tuple hl
    have isT : s.heap.IsTuple l its.toArray := by
      obtain ⟨o, e1, e2, n, e3⟩ := st
      exact ⟨o, e1, e2, n, e3⟩
    refine call_set_tupI (P := X.prog) (w := X.w) ns (I.ok.hd hc) isT (by simpa using rv.ints) sb fun h' tk c R hc' kept => ?_
    exact ⟨.ref s.heap.objs.size, upd H s.heap.objs.size (SetO X.w s.heap.objs.size (fun j => decide (j ∈ ns)) c), I.laid (t' := tk) kept (Nat.le_refl _) (setO_new R), rfl, q _ c new (setR_count R)⟩
theorem mem_isort {x : Int} {l : List Int} : x ∈ isort l ↔ x ∈ l := by
  unfold isort
  rw [List.mem_mergeSort, mem_onceI]
theorem asc_isort (l : List Int) : (isort l).Pairwise (· < ·) := by
  have p1 : (isort l).Pairwise fun a b => decide (a ≤ b) = true := List.pairwise_mergeSort (fun a b c h1 h2 => by
    have := of_decide_eq_true h1
    have := of_decide_eq_true h2
    exact decide_eq_true (by omega)) (fun a b => by
    by_cases h : a ≤ b
    · rw [decide_eq_true h]; rfl
    · rw [decide_eq_true (show b ≤ a by omega), Bool.or_true]) (onceI l)
  have p2 : (isort l).Nodup := (List.mergeSort_perm _ _).nodup_iff.mpr (nodup_onceI l)
  refine List.Pairwise.imp₂ (fun a b h1 h2 => ?_) p1 p2
  have := of_decide_eq_true h1
  omega
/-- one ascending row alone has these members -/
theorem asc_one {l m : List Int} (hl : l.Pairwise (· < ·)) (hm : m.Pairwise (· < ·)) (h : ∀ x, x ∈ l ↔ x ∈ m) : l = m := by
  have n1 : l.Nodup := hl.imp fun q e => by omega
  have n2 : m.Nodup := hm.imp fun q e => by omega
  exact ((List.perm_ext_iff_of_nodup n1 n2).mpr h).eq_of_pairwise (fun a b _ _ h1 h2 => by omega) hl hm
/-- sorted(a), a set of whole numbers -/
theorem iSortSet {a : Addr} {ns : List Int} {c : Nat} (hc : X.calm = true) (ha : H a = some (SetO X.w a (fun j => decide (j ∈ ns)) c)) (few : c < 64)
    (q : ∀ p, H p = none → Q (.ref p) (upd H p (.lst ((isort ns).map V.int)))) : WC X (.builtin "sorted") [.ref a] H Q :=
  .of (cr_sortedSet hc) ⟨a, _, c, rfl, ha, few, fun ms p asc mem _ hp => by
    have e : ms = isort ns := asc_one asc (asc_isort ns) fun x => by
      rw [mem x, mem_isort]
      exact decide_eq_true_iff
    rw [e]
    exact q p hp⟩
end
end Mp
set_option Elab.async false
set_option maxRecDepth 100000
set_option maxHeartbeats 4000000
/-! Mp7: the written forms are the text's; what is walked. -/
namespace Mp
open PySem L2 Evl

def noStar : Expr → Bool
  | .Starred _ _ => false
  | _ => true
def noSet : Expr → Bool
  | .Set _ _ _ => false
  | _ => true
def noSlice : Expr → Bool
  | .Slice _ _ _ _ => false
  | _ => true
/-- a local of the block -/
def visOk (sc : Scope) (x : Str) : Bool := match sc.names.lookup x with
  | some .local => true
  | some .cell => true
  | some .free => true
  | _ => false
def locOk (sc : Scope) (x : Str) : Bool := match sc.names.lookup x with
  | some .local => true
  | some .cell => true
  | _ => false
def glOk (sc : Scope) (x : Str) : Bool := decide (sc.names.lookup x = some .globalImplicit) && !(x == ("__debug__" : Str))
def fnOk (osc : Option Scope) (sc : Scope) (x : Str) : Bool := match osc with
  | none => true
  | some s => (s.names.lookup x == some .cell) || decide (sc.names.lookup x = some .local)
def nmOk (N : List Str) (sc : Scope) (i : Nat) (x : Str) : Bool := decide (N[i]? = some x) && visOk sc x && !(x == ("__debug__" : Str)) && !(x == ("__classdict__" : Str))
/-- a method's receiver that is no super() -/
def noCall0 : Expr → Bool
  | .Call (.Name _ _) [] [] _ => false
  | _ => true
def ownOf (N : List Str) (own : List Nat) : List (Str × Nat) := own.map fun i => (N.getD i default, i)

def chkTgs (osc : Option Scope) (N : List Str) (sc : Scope) : List Nat → List Expr → Bool
  | [], [] => true
  | i :: is, .Name x _ :: es => decide (N[i]? = some x) && locOk sc x && fnOk osc sc x && chkTgs osc N sc is es
  | _, _ => false
def chkTg (osc : Option Scope) (N : List Str) (sc : Scope) : Tg → Expr → Bool
  | .nm i, .Name x _ => decide (N[i]? = some x) && locOk sc x && fnOk osc sc x
  | .tp is, .Tuple es _ _ => chkTgs osc N sc is es
  | _, _ => false
def Tg.slots : Tg → List Nat
  | .nm i => [i]
  | .tp is => is

/-- e[::-1] -/
def revOf : Expr → Option Expr
  | .Subscript e (.Slice none none (some (.UnaryOp .USub (.Constant (.int 1) _ _) _)) _) _ => some e
  | _ => none
theorem revOf_eq {x e : Expr} (h : revOf x = some e) : ∃ k p1 p2 p3 pos, x = .Subscript e (.Slice none none (some (.UnaryOp .USub (.Constant (.int 1) k p1) p2)) p3) pos := by
  unfold revOf at h
  split at h
  · cases h
    exact ⟨_, _, _, _, _, rfl⟩
  · cases h
def call1 : Expr → Option (Str × Expr)
  | .Call (.Name x _) [a] [] _ => some (x, a)
  | _ => none
def call2 : Expr → Option (Str × Expr × Expr)
  | .Call (.Name x _) [a, b] [] _ => some (x, a, b)
  | _ => none
/-- zip(a, b, strict=True) -/
def zipOf : Expr → Option (Str × Expr × Expr)
  | .Call (.Name x _) [a, b] [⟨some k, .Constant (.bool true) _ _, _⟩] _ => if k = Str.ofString "strict" then some (x, a, b) else none
  | _ => none
theorem zipOf_eq {x : Expr} {nm : Str} {a b : Expr} (h : zipOf x = some (nm, a, b)) : ∃ p kc cp kp q, x = .Call (.Name nm p) [a, b] [⟨some (Str.ofString "strict"), .Constant (.bool true) kc cp, kp⟩] q := by
  unfold zipOf at h
  split at h
  · split at h
    · rename_i hk
      cases h
      subst hk
      exact ⟨_, _, _, _, _, rfl⟩
    · cases h
  · cases h
/-- a.items() -/
def itemsOf : Expr → Option (Str × Expr × Pos × Pos)
  | .Call (.Attribute o nm apos) [] [] cpos => some (nm, o, apos, cpos)
  | _ => none
theorem itemsOf_eq {x : Expr} {nm : Str} {o : Expr} {apos cpos : Pos} (h : itemsOf x = some (nm, o, apos, cpos)) : x = .Call (.Attribute o nm apos) [] [] cpos := by
  unfold itemsOf at h
  split at h
  · cases h; rfl
  · cases h
/-- {k: v} -/
def dic1Of : Expr → Option (Expr × Expr × Pos)
  | .Dict [some k] [v] p => some (k, v, p)
  | _ => none
theorem dic1Of_eq {x k v : Expr} {p : Pos} (h : dic1Of x = some (k, v, p)) : x = .Dict [some k] [v] p := by
  unfold dic1Of at h
  split at h
  · cases h; rfl
  · cases h
def dic0Of : Expr → Option Pos
  | .Dict [] [] p => some p
  | _ => none
theorem dic0Of_eq {x : Expr} {p : Pos} (h : dic0Of x = some p) : x = .Dict [] [] p := by
  unfold dic0Of at h
  split at h
  · cases h; rfl
  · cases h
/-- o.m(a, b) -/
def meth2Of : Expr → Option (Str × Expr × Expr × Expr × Pos × Pos)
  | .Call (.Attribute o nm apos) [a, b] [] cpos => some (nm, o, a, b, apos, cpos)
  | _ => none
theorem meth2Of_eq {x : Expr} {nm : Str} {o a b : Expr} {apos cpos : Pos} (h : meth2Of x = some (nm, o, a, b, apos, cpos)) : x = .Call (.Attribute o nm apos) [a, b] [] cpos := by
  unfold meth2Of at h
  split at h
  · cases h; rfl
  · cases h
def call0 : Expr → Option Str
  | .Call (.Name x _) [] [] _ => some x
  | _ => none
theorem call0_eq {x : Expr} {nm : Str} (h : call0 x = some nm) : ∃ p q, x = .Call (.Name nm p) [] [] q := by
  unfold call0 at h
  split at h
  · cases h; exact ⟨_, _, rfl⟩
  · cases h
def callN : Expr → Option (Str × Expr × List Expr)
  | .Call (.Name x _) (a :: r) [] _ => some (x, a, r)
  | _ => none
theorem callN_eq {x : Expr} {nm : Str} {a : Expr} {r : List Expr} (h : callN x = some (nm, a, r)) : ∃ p q, x = .Call (.Name nm p) (a :: r) [] q := by
  unfold callN at h
  split at h
  · cases h; exact ⟨_, _, rfl⟩
  · cases h
def attrOf : Expr → Option (Expr × Str × Pos)
  | .Attribute o f p => some (o, f, p)
  | _ => none
theorem attrOf_eq {x o : Expr} {f : Str} {p : Pos} (h : attrOf x = some (o, f, p)) : x = .Attribute o f p := by
  unfold attrOf at h
  split at h
  · cases h; rfl
  · cases h
def isTup : Expr → Bool
  | .Tuple _ _ _ => true
  | _ => false
theorem call1_eq {x : Expr} {nm : Str} {a : Expr} (h : call1 x = some (nm, a)) : ∃ p q, x = .Call (.Name nm p) [a] [] q := by
  unfold call1 at h
  split at h
  · cases h; exact ⟨_, _, rfl⟩
  · cases h
theorem call2_eq {x : Expr} {nm : Str} {a b : Expr} (h : call2 x = some (nm, a, b)) : ∃ p q, x = .Call (.Name nm p) [a, b] [] q := by
  unfold call2 at h
  split at h
  · cases h; exact ⟨_, _, rfl⟩
  · cases h
theorem isTup_eq {x : Expr} (h : isTup x = true) : ∃ es k p, x = .Tuple es k p := by
  unfold isTup at h
  split at h
  · exact ⟨_, _, _, rfl⟩
  · cases h
/-- the written pairs of a dict of texts -/
def chkKV : List (Str × Str) → List (Option Expr) → List Expr → Bool
  | [], [], [] => true
  | (a, b) :: r, some (.Constant (.str x) _ _) :: ks, .Constant (.str y) _ _ :: vs => a == x && b == y && chkKV r ks vs
  | _, _, _ => false
section
variable (np : Str → Option Nat) (N : List Str)
mutual
def chkE : Xp → Scope → Expr → Bool
  | .lit .non, _, .Constant .none _ _ => true
  | .lit (.tr b), _, .Constant (.bool c) _ _ => b == c
  | .lit (.int i), _, .Constant (.int j) _ _ => i == j
  | .lit (.str a), _, .Constant (.str b) _ _ => a == b
  | .var i, sc, .Name x _ => nmOk N sc i x
  | .con c, sc, .Name x _ => decide (c = x) && glOk sc x
  | .bin o a b, sc, .BinOp a' o' b' _ => decide (o.op = o') && chkE a sc a' && chkE b sc b'
  | .neg a, sc, .UnaryOp .USub a' _ => chkE a sc a'
  | .not a, sc, .UnaryOp .Not a' _ => chkE a sc a'
  | .cmp o a b, sc, .Compare a' [o'] [b'] _ => decide (o.op = o') && noSet b' && chkE a sc a' && chkE b sc b'
  | .cmp2 o p a b c, sc, .Compare a' [o', p'] [b', c'] _ => decide (o.op = o') && decide (p.op = p') && noSet b' && noSet c' && chkE a sc a' && chkE b sc b' && chkE c sc c'
  | .bool k es, sc, .BoolOp o es' _ => decide (o = if k then .And else .Or) && !es.isEmpty && chkEs es sc es'
  | .ite c a b, sc, .IfExp c' a' b' _ => chkE c sc c' && chkE a sc a' && chkE b sc b'
  | .tup es, sc, .Tuple es' _ _ => decide (es.length ≤ 1000) && chkEs es sc es'
  | .lst es, sc, .List es' _ => decide (es.length ≤ 1000) && chkEs es sc es'
  | .dct0, _, .Dict [] [] _ => true
  | .ix a i, sc, .Subscript a' i' _ => noSlice i' && chkE a sc a' && chkE i sc i'
  | .sl a lo hi, sc, .Subscript a' (.Slice lo' hi' none _) _ => chkE a sc a' && chkO lo sc lo' && chkO hi sc hi'
  | .call f es, sc, .Call (.Name x _) es' [] _ => decide (f = x) && glOk sc x && decide (np f = some es.length) && chkEs es sc es'
  | .blt f es, sc, .Call (.Name x _) es' [] _ => decide (f.nm = x) && glOk sc x && !es.isEmpty && chkEs es sc es'
  | .isi a c, sc, .Call (.Name x _) [a', .Name y _] [] _ => decide (x = ("isinstance" : Str)) && decide (y = Str.ofString c.nm) && glOk sc x && glOk sc y && noStar a' && chkE a sc a'
  | .isx a c, sc, .Call (.Name x _) [a', .Name y _] [] _ => decide (x = ("isinstance" : Str)) && decide (y = c) && glOk sc x && glOk sc y && noStar a' && chkE a sc a'
  | .sset a, sc, x => match call1 x with
    | some (nm, y) => match call1 y with
      | some (nm2, a') => decide (nm = ("sorted" : Str)) && decide (nm2 = ("set" : Str)) && glOk sc nm && glOk sc nm2 && noStar a' && chkE a sc a'
      | none => false
    | none => false
  | .mkrow a, sc, x => match call1 x with
    | some (nm, a') => decide (nm = ("tuple" : Str)) && glOk sc nm && noStar a' && chkE a sc a'
    | none => false
  | .mkey a b, sc, .Tuple [a', b'] _ _ => noStar a' && noStar b' && chkE a sc a' && chkE b sc b'
  | .mkmap a, sc, x => match call1 x with
    | some (nm, a') => decide (nm = ("dict" : Str)) && glOk sc nm && noStar a' && chkE a sc a'
    | none => false
  | .mget o k1 k2 d, sc, .Call (.Attribute o' nm apos) [.Tuple [a', b'] _ _, d'] [] cpos => decide (nm = Str.ofString "get") && (apos.endLine == cpos.line) && noCall0 o' && noStar a' && noStar b' && noStar d' && chkE o sc o' && chkE k1 sc a' && chkE k2 sc b' && chkE d sc d'
  | .smap kvs e, sc, .Subscript (.Dict ks vs _) e' _ => noSlice e' && !kvs.isEmpty && decide (kvs.length ≤ 15) && chkKV kvs ks vs && chkE e sc e'
  | .dic0, _, x => (dic0Of x).isSome
  | .dic1 k v, sc, x => match dic1Of x with
    | some (k', v', _) => chkE k sc k' && chkE v sc v'
    | none => false
  | .dget o k d, sc, x => match meth2Of x with
    | some (nm, o', k', d', apos, cpos) => decide (nm = ("get" : Str)) && (apos.endLine == cpos.line) && noCall0 o' && noStar k' && noStar d' && chkE o sc o' && chkE k sc k' && chkE d sc d'
    | none => false
  | .mset a, sc, x => match call1 x with
    | some (nm, a') => decide (nm = ("set" : Str)) && glOk sc nm && noStar a' && chkE a sc a'
    | none => false
  | .mkx0 c, sc, x => match call0 x with
    | some nm => decide (c = nm) && glOk sc nm
    | none => false
  | .mkx1 c a, sc, x => match call1 x with
    | some (nm, a') => decide (c = nm) && glOk sc nm && noStar a' && chkE a sc a'
    | none => false
  | .mki c es, sc, x => match callN x with
    | some (nm, e', es') => decide (c = nm) && glOk sc nm && chkEs es sc (e' :: es')
    | none => false
  | .fld a f, sc, x => match attrOf x with
    | some (a', f', _) => decide (f = f') && noCall0 a' && chkE a sc a'
    | none => false
  | .callN f es, sc, x => match callN x with
    | some (nm, e', es') => decide (f = nm) && glOk sc nm && decide (np f = some es.length) && chkEs es sc (e' :: es')
    | none => false
  | .varT i, sc, .Name x _ => nmOk N sc i x
  | .lrg a, sc, x => match call1 x with
    | some (nm, y) => match call1 y with
      | some (nm2, a') => decide (nm = ("list" : Str)) && decide (nm2 = ("range" : Str)) && glOk sc nm && glOk sc nm2 && noStar a' && chkE a sc a'
      | none => false
    | none => false
  | .rev a, sc, x => match revOf x with
    | some a' => chkE a sc a'
    | none => false
  | .meth m o es, sc, .Call (.Attribute o' nm apos) es' [] cpos => decide (nm = m.nm) && (apos.endLine == cpos.line) && !es.isEmpty && decide (es'.length < 29) && noCall0 o' && chkE o sc o' && chkEs es sc es'
  | .comp own tg it ifs e, sc, .ListComp e' [⟨tg', it', ifs', 0⟩] scope _ => blkC N sc scope (ownOf N own) && noSet it' && chkI it sc it' tg' && chkTg (some scope) N (relS scope sc) tg tg' && tg.slots.all (own.contains ·) && decide (ifs.length ≤ 1) && chkEs ifs (relS scope sc) ifs' && chkE e (relS scope sc) e'
  | .comp2 own vs tg it ifs tg1 it1 ifs1 e, sc, .ListComp e' [⟨tg', it', ifs', 0⟩, ⟨tg1', it1', ifs1', 0⟩] scope _ => blkC N sc scope (ownOf N own) && noSet it' && chkI it sc it' tg' && chkTg (some scope) N (relS scope sc) tg tg' && tg.slots.all (own.contains ·) && decide (ifs.length ≤ 1) && chkEs ifs (relS scope sc) ifs' && noSet it1' && chkI it1 (relS scope sc) it1' tg1' && chkTg (some scope) N (relS scope sc) tg1 tg1' && tg1.slots.all (vs.contains ·) && vs.all (own.contains ·) && decide (ifs1.length ≤ 1) && chkEs ifs1 (relS scope sc) ifs1' && chkE e (relS scope sc) e'
  | _, _, _ => false
def chkEs : List Xp → Scope → List Expr → Bool
  | [], _, [] => true
  | e :: es, sc, x :: xs => noStar x && chkE e sc x && chkEs es sc xs
  | _, _, _ => false
def chkO : Option Xp → Scope → Option Expr → Bool
  | none, _, none => true
  | some e, sc, some x => chkE e sc x
  | _, _, _ => false
def chkI : It → Scope → Expr → Expr → Bool
  | .ov e, sc, x, _ => chkE e sc x
  | .rg a, sc, x, _ => match call1 x with
    | some (nm, a') => decide (nm = ("range" : Str)) && glOk sc nm && noStar a' && chkE a sc a'
    | none => false
  | .rg2 a b, sc, x, _ => match call2 x with
    | some (nm, a', b') => decide (nm = ("range" : Str)) && glOk sc nm && noStar a' && noStar b' && chkE a sc a' && chkE b sc b'
    | none => false
  | .enum a, sc, x, tg => match call1 x with
    | some (nm, a') => isTup tg && decide (nm = ("enumerate" : Str)) && glOk sc nm && noStar a' && chkE a sc a'
    | none => false
  | .zips a b, sc, x, tg => match zipOf x with
    | some (nm, a', b') => isTup tg && decide (nm = ("zip" : Str)) && glOk sc nm && noStar a' && noStar b' && chkE a sc a' && chkE b sc b'
    | none => false
  | .items a, sc, x, tg => match itemsOf x with
    | some (nm, a', apos, cpos) => isTup tg && decide (nm = ("items" : Str)) && (apos.endLine == cpos.line) && noCall0 a' && chkE a sc a'
    | none => false
end
end

/-! ### what follows from the looks -/
theorem star_cons {x : Expr} (h : noStar x = true) (xs : List Expr) (env : PySem.Env) : starEach (x :: xs) env = (false, eval x env) :: starEach xs env := by
  cases x <;> first | rfl | cases h
theorem star_plain : ∀ {xs : List Expr} (pos : Pos) (env : PySem.Env), (∀ x ∈ xs, noStar x = true) → (backTo pos (starEach xs env)).any (·.1) = false
  | [], _, _, _ => rfl
  | x :: xs, pos, env, h => by
    rw [star_cons (h x List.mem_cons_self)]
    show (false || (backTo pos (starEach xs env)).any (·.1)) = false
    rw [star_plain pos env fun y hy => h y (List.mem_cons_of_mem _ hy)]
    rfl
theorem star_all : ∀ {xs : List Expr} (pos : Pos) (env : PySem.Env), (∀ x ∈ xs, noStar x = true) → (backTo pos (starEach xs env)).all (fun x => !x.1) = true
  | [], _, _, _ => rfl
  | x :: xs, pos, env, h => by
    rw [star_cons (h x List.mem_cons_self)]
    show (true && (backTo pos (starEach xs env)).all fun x => !x.1) = true
    rw [star_all pos env fun y hy => h y (List.mem_cons_of_mem _ hy)]
    rfl
section
variable {np : Str → Option Nat} {N : List Str}
theorem chkEs_star : ∀ {es : List Xp} {sc : Scope} {xs : List Expr}, chkEs np N es sc xs = true → ∀ x ∈ xs, noStar x = true
  | [], _, [], _, x, h => by cases h
  | [], _, _ :: _, h, _, _ => by simp [chkEs] at h
  | _ :: _, _, [], h, _, _ => by simp [chkEs] at h
  | e :: es, sc, y :: ys, h, x, hx => by
    rw [chkEs, Bool.and_eq_true, Bool.and_eq_true] at h
    rcases List.mem_cons.mp hx with rfl | hx
    · exact h.1.1
    · exact chkEs_star h.2 x hx
theorem chkEs_len : ∀ {es : List Xp} {sc : Scope} {xs : List Expr}, chkEs np N es sc xs = true → xs.length = es.length
  | [], _, [], _ => rfl
  | [], _, _ :: _, h => by simp [chkEs] at h
  | _ :: _, _, [], h => by simp [chkEs] at h
  | e :: es, sc, y :: ys, h => by
    rw [chkEs, Bool.and_eq_true] at h
    rw [List.length_cons, List.length_cons, chkEs_len h.2]
end
theorem vis_of {sc : Scope} {x : Str} (h : visOk sc x = true) : Vis sc x := by
  unfold visOk at h
  split at h
  · rename_i e; exact .inl e
  · rename_i e; exact .inr (.inl e)
  · rename_i e; exact .inr (.inr e)
  · cases h
theorem loc_of {sc : Scope} {x : Str} (h : locOk sc x = true) : Loc sc x := by
  unfold locOk at h
  split at h
  · rename_i e; exact .inl e
  · rename_i e; exact .inr e
  · cases h
theorem gl_of {X : Cx} {x : Str} (h : glOk X.env.scope x = true) : Gl X x ∧ (x == ("__debug__" : Str)) = false := by
  unfold glOk at h
  rw [Bool.and_eq_true] at h
  exact ⟨show X.env.scope.names.lookup x = some .globalImplicit from of_decide_eq_true h.1, by simpa using h.2⟩
theorem plainIx_of {b : Expr} (h : noSlice b = true) : PlainIx b := by
  cases b <;> first | (intro o i; rfl) | cases h
theorem folded_of {e : Expr} (h : noSet e = true) (env : PySem.Env) (x : Value) : foldedSetIterable e env x = pure x := by
  cases e <;> first | rfl | cases h
theorem marks_of {b : Expr} (h : noSet b = true) (op : CmpOp) : behindInMarks op b = false := by
  cases b <;> first | rfl | cases h
theorem base_of {o : Expr} (h : noCall0 o = true) (name : Str) (env : PySem.Env) : attributeBase o name env (eval o env) = eval o env := by
  unfold attributeBase
  split
  · rename_i id p pos
    cases h
  · rfl

/-! ### what is walked, over data -/
structure WalkD (K : PySem.W.Frag) (sa : Sa) (br : Bool) (F0 H0 : Hp) (J : L2.It) (ds : List D) : Prop where
  ex : ∃ (G : Hp → Prop) (Y : Nat → Hp → V → Hp → Prop), Walk J ds.length G Y ∧ (∀ F H, Gr sa F0 H0 F H → G H) ∧ (br = false → ∀ F H, Ex F0 F → Ex F H → G H) ∧
    ∀ i F H x H', Ex F0 F → Ex F H → G H → Y i H x H' → ∃ d F', ds[i]? = some d ∧ Gr sa F H F' H' ∧ (∀ S, SrcR sa F H S → SrcR sa F' H' S) ∧ DR K sa F' x d
section
variable {K : PySem.W.Frag} {sa : Sa} {F0 H0 : Hp} {br : Bool}
theorem WalkD.list {a : Addr} {xs : List V} {ds : List D} (h : H0 a = some (.lst xs)) (n1 : a ≠ sa.s1) (n2 : a ≠ sa.s2) (hb : br = false → F0 a = some (.lst xs)) (r : DRs K sa F0 xs ds) : WalkD K sa br F0 H0 (Itl K a) ds := by
  refine ⟨_, _, by rw [← r.length]; exact walk_list (K := K) (a := a) (xs := xs), fun F H g => SqL.of (g.hh a _ h n1 n2), fun e F H e1 e2 => SqL.of (e2 _ _ (e1 _ _ (hb e))), fun i F H x H' e1 e2 _ y => ?_⟩
  obtain ⟨rfl, hx⟩ := y
  obtain ⟨d, hd, q⟩ := r.getV hx
  exact ⟨d, F, hd, Gr.refl e2, fun _ s => s, q.mono e1⟩
theorem WalkD.tup {a : Addr} {xs : List V} {ds : List D} (h : SqT K F0 a xs) (e0 : Ex F0 H0) (r : DRs K sa F0 xs ds) : WalkD K sa br F0 H0 (Itt K a) ds := by
  refine ⟨_, _, by rw [← r.length]; exact walk_tup (K := K) (a := a) (xs := xs), fun F H g => ex_t (g.ff.trans g.fh) h, fun e F H e1 e2 => ex_t (e1.trans e2) h, fun i F H x H' e1 e2 _ y => ?_⟩
  obtain ⟨rfl, hx⟩ := y
  obtain ⟨d, hd, q⟩ := r.getV hx
  exact ⟨d, F, hd, Gr.refl e2, fun _ s => s, q.mono e1⟩
theorem rangeD_at {lo n : Int} {i : Nat} (h : i < (n - lo).toNat) : (rangeD lo n)[i]? = some (.int (lo + i)) := by
  unfold rangeD
  rw [List.getElem?_map, List.getElem?_range h]
  rfl
theorem rangeD_len {lo n : Int} : (rangeD lo n).length = (n - lo).toNat := by
  unfold rangeD
  rw [List.length_map, List.length_range]
theorem WalkD.range {lo n : Int} : WalkD K sa br F0 H0 (Itr lo (n - lo).toNat) (rangeD lo n) := by
  refine ⟨_, _, by rw [rangeD_len]; exact (walk_range (lo := lo) (n := (n - lo).toNat)).mono (Y' := fun i H x H' => i < (n - lo).toNat ∧ H' = H ∧ x = .int (lo + i)) (fun _ h => h) (fun i H x H' hi _ y => ⟨hi, y⟩), fun F H g => True.intro, fun _ F H _ _ => True.intro, fun i F H x H' e1 e2 _ y => ?_⟩
  obtain ⟨hi, rfl, rfl⟩ := y
  exact ⟨_, F, rangeD_at hi, Gr.refl e2, fun _ s => s, .int _⟩
theorem enumD_at {ds : List D} {i : Nat} {d : D} (h : ds[i]? = some d) : (enumD ds)[i]? = some (.tup [.int i, d]) := by
  unfold enumD
  have hi := (List.getElem?_eq_some_iff.mp h).1
  have e : ((List.range ds.length).zip ds)[i]? = some (i, d) := List.getElem?_zip_eq_some.mpr ⟨List.getElem?_range hi, h⟩
  rw [List.getElem?_map, e]
  rfl
theorem enumD_len {ds : List D} : (enumD ds).length = ds.length := by
  unfold enumD
  rw [List.length_map, List.length_zip, List.length_range, Nat.min_self]
theorem WalkD.enumL {a : Addr} {xs : List V} {ds : List D} (h : H0 a = some (.lst xs)) (n1 : a ≠ sa.s1) (n2 : a ≠ sa.s2) (hb : br = false → F0 a = some (.lst xs)) (r : DRs K sa F0 xs ds) : WalkD K sa br F0 H0 (Ite K a) (enumD ds) := by
  refine ⟨_, _, by rw [enumD_len, ← r.length]; exact walk_enum (K := K) (a := a) (xs := xs), fun F H g => SqL.of (g.hh a _ h n1 n2), fun e F H e1 e2 => SqL.of (e2 _ _ (e1 _ _ (hb e))), fun i F H x H' e1 e2 _ y => ?_⟩
  obtain ⟨p, v, u, rfl, hn, rfl, hv, hu⟩ := y
  cases hv
  obtain ⟨d, hd, q⟩ := r.getV hu
  refine ⟨_, _, enumD_at hd, Gr.newF e2 hn, fun S s => ?_, .tup (Or.inl (Or.inl upd_same)) (.cons (.int _) (.cons ((q.mono e1).mono (Ex.new (fresh_back e2 hn))) .nil))⟩
  exact (s.new hn).fz (fun z => by rw [z] at hn; exact s.n1 hn) (fun z => by rw [z] at hn; exact s.n2 hn)
end
end Mp
set_option Elab.async false
set_option maxRecDepth 100000
set_option maxHeartbeats 4000000
/-! Mp8: an expression of the text comes to what its evaluation says. -/
namespace Mp
open PySem L2 Evl

section
variable {K : PySem.W.Frag} {G : Gd} {W : XK} {F H : Hp} {Q : VK}
theorem Post.bind {r : R} {k : Md → D → Sr → R} (p : Post K G W F H (r.b k) Q) :
    Post K G W F H r (fun v H' => ∃ m d S' F', Gr G.sa F H F' H' ∧ SrcR G.sa F' H' S' ∧ VR K G.sa m H F' H' v d ∧ Post K G W F' H' (k m d S') Q) := by
  cases r with
  | ok m d S => exact fun v F' H' g s w => ⟨m, d, S, F', g, s, w, Post.next p g⟩
  | exc x S => exact p
  | bad => exact p
end
/-- argument lists -/
def PostL (K : PySem.W.Frag) (G : Gd) (W : XK) (F H : Hp) (r : Rl) (Q : List V → Hp → Prop) : Prop :=
  match r with
  | .ok ds S' => ∀ vs F' H', Gr G.sa F H F' H' → SrcR G.sa F' H' S' → DRs K G.sa F' vs ds → Q vs H'
  | .exc x S' => ∀ c dx F' H', Gr G.sa F H F' H' → SrcR G.sa F' H' S' → XR G.cls x c dx H' → W c dx H'
  | .bad => False

/-- what is walked -/
def PostI (K : PySem.W.Frag) (G : Gd) (W : XK) (F H : Hp) (r : Ri) (R : L2.It → Hp → Prop) : Prop :=
  match r with
  | .ok br ds S' => ∀ J F' H', Gr G.sa F H F' H' → ds.length ≤ sizeLine → SrcR G.sa F' H' S' → WalkD K G.sa br F' H' J ds → R J H'
  | .exc x S' => ∀ c dx F' H', Gr G.sa F H F' H' → SrcR G.sa F' H' S' → XR G.cls x c dx H' → W c dx H'
  | .bad => False
theorem PostI.next {K : PySem.W.Frag} {G : Gd} {W : XK} {F H F' H' : Hp} {r : Ri} {R : L2.It → Hp → Prop} (h : PostI K G W F H r R) (g : Gr G.sa F H F' H') : PostI K G W F' H' r R := by
  cases r with
  | ok br ds S => exact fun J F2 H2 g2 l s w => h J F2 H2 (g.trans g2) l s w
  | exc x S => exact fun c dx F2 H2 g2 s w => h c dx F2 H2 (g.trans g2) s w
  | bad => exact h
theorem PostI.bind0 {K : PySem.W.Frag} {G : Gd} {W : XK} {F H : Hp} {r : R} {k : Md → D → Sr → Ri} {R : L2.It → Hp → Prop} (p : PostI K G W F H (r.i k) R) :
    Post K G W F H r (fun v H' => ∃ m d S' F', Gr G.sa F H F' H' ∧ SrcR G.sa F' H' S' ∧ VR K G.sa m H F' H' v d ∧ PostI K G W F H (k m d S') R) := by
  cases r with
  | ok m d S => exact fun v F' H' g s w => ⟨m, d, S, F', g, s, w, p⟩
  | exc x S => exact p
  | bad => exact p
def WP (X : Cx) (e : Option Expr) : TO := fun σ H Q => ∀ pins s, Inv X pins σ H s → wpAny (model X.prog X.w) X.A (evalPart e X.env) (fun u s' => ∃ o H', Inv X pins σ H' s' ∧ IsPart u o ∧ Q o H') X.xe s
theorem wp' {X : Cx} {e : Option Expr} : PO X e (WP X e) := ⟨fun pins s _ _ _ I h => h pins s I⟩
theorem WP.of {X : Cx} {e : Option Expr} {t : TO} {σ : L2.St} {H : Hp} {Q : Option Int → Hp → Prop} (p : PO X e t) (h : t σ H Q) : WP X e σ H Q := fun pins s I => p.run pins s σ H Q I h
section
variable (n : Nat) (G : Gd)
def SE (e : Xp) : Prop := ∀ (X : Cx) (W : WX) (osc : Option Scope) (x : Expr), Cn X n G (fnOk osc) W → chkE G.np X.N e X.env.scope x = true → ∀ σ H F env S Q, SR X.K G.sa F H env σ → Ex F H → SrcR G.sa F H S →
  Post X.K G (fun c d H' => W c d σ H') F H (evE G.T G.cl e env S) Q → WE X x σ H Q
def ST (e : Xp) : Prop := ∀ (X : Cx) (W : WX) (osc : Option Scope) (x : Expr), Cn X n G (fnOk osc) W → chkE G.np X.N e X.env.scope x = true → ∀ σ H F env S (Q : Bool → Hp → Prop), SR X.K G.sa F H env σ → Ex F H → SrcR G.sa F H S →
  Post X.K G (fun c d H' => W c d σ H') F H (evE G.T G.cl e env S) (fun v H' => ∃ b, v = .bl b ∧ Q b H') → WT X x σ H Q
def SA (es : List Xp) : Prop := ∀ (X : Cx) (W : WX) (osc : Option Scope) (xs : List Expr), Cn X n G (fnOk osc) W → chkEs G.np X.N es X.env.scope xs = true → ∀ σ H F env S Q, SR X.K G.sa F H env σ → Ex F H → SrcR G.sa F H S →
  PostL X.K G (fun c d H' => W c d σ H') F H (evEs G.T G.cl es env S) Q → WA X xs σ H Q
def SB (es : List Xp) : Prop := ∀ (X : Cx) (W : WX) (osc : Option Scope) (xs : List Expr), Cn X n G (fnOk osc) W → chkEs G.np X.N es X.env.scope xs = true → ∀ σ H F env S k Q, SR X.K G.sa F H env σ → Ex F H → SrcR G.sa F H S →
  Post X.K G (fun c d H' => W c d σ H') F H (evBs G.T G.cl es env S k) Q →
  WA X xs σ H (fun vs H' => ∃ F' S' ds, Gr G.sa F H F' H' ∧ SrcR G.sa F' H' S' ∧ VRs X.K G.sa H F' H' vs ds ∧ Post X.K G (fun c d H' => W c d σ H') F' H' (k ds S') Q)
def SK (k : Bool) (es : List Xp) : Prop := ∀ (X : Cx) (W : WX) (osc : Option Scope) (xs : List Expr) (pos : Pos), Cn X n G (fnOk osc) W → chkEs G.np X.N es X.env.scope xs = true → es ≠ [] → ∀ σ H F env S, SR X.K G.sa F H env σ → Ex F H → SrcR G.sa F H S →
  (∀ Q, Post X.K G (fun c d H' => W c d σ H') F H (evB G.T G.cl k es env S) Q → WE X (.BoolOp (if k then .And else .Or) xs pos) σ H Q) ∧
  (∀ Q : Bool → Hp → Prop, Post X.K G (fun c d H' => W c d σ H') F H (evB G.T G.cl k es env S) (fun v H' => ∃ b, v = .bl b ∧ Q b H') → WW X (.BoolOp (if k then .And else .Or) xs pos) σ H Q)
def SO (e : Option Xp) : Prop := ∀ (X : Cx) (W : WX) (osc : Option Scope) (x : Option Expr), Cn X n G (fnOk osc) W → chkO G.np X.N e X.env.scope x = true → ∀ σ H F env S k Q, SR X.K G.sa F H env σ → Ex F H → SrcR G.sa F H S →
  Post X.K G (fun c d H' => W c d σ H') F H (evO G.T G.cl e env S k) Q →
  WP X x σ H (fun o H' => ∃ F' S', Gr G.sa F H F' H' ∧ SrcR G.sa F' H' S' ∧ Post X.K G (fun c d H' => W c d σ H') F' H' (k o S') Q)
def SI (e : It) : Prop := ∀ (X : Cx) (W : WX) (osc : Option Scope) (x tg : Expr), Cn X n G (fnOk osc) W → chkI G.np X.N e X.env.scope x tg = true → ∀ σ H F env S R, SR X.K G.sa F H env σ → Ex F H → SrcR G.sa F H S →
  PostI X.K G (fun c d H' => W c d σ H') F H (evI G.T G.cl e env S) R → WI X tg x σ H R
end

section
variable {n : Nat} {G : Gd} {X : Cx} {W : WX} {osc : Option Scope}
theorem Cn.units {fo : Scope → Str → Bool} (C : Cn X n G fo W) : X.A.units + 100 < cLine := by have := C.room.un; omega
theorem post_flat {K : PySem.W.Frag} {Wk : XK} {F H : Hp} {Q : VK} {d : D} {S : Sr} {v : V} (p : Post K G Wk F H (.ok .fz d S) Q) (e : Ex F H) (s : SrcR G.sa F H S) (r : DR K G.sa F v d) : Q v H := p.flat e s r

theorem se_lit {l : Lit} : SE n G (.lit l) := by
  intro X W osc x C h σ H F env S Q sr e s p
  cases l with
  | non =>
    cases x <;> (try simp only [chkE, Bool.false_eq_true] at h)
    rename_i c k pos
    cases c <;> (try simp only [chkE, Bool.false_eq_true] at h)
    rw [evE] at p
    exact .of pe_non (p.flat e s .non)
  | tr b =>
    cases x <;> (try simp only [chkE, Bool.false_eq_true] at h)
    rename_i c k pos
    cases c <;> (try simp only [chkE, Bool.false_eq_true] at h)
    rw [evE] at p
    have := eq_of_beq h
    subst this
    exact .of pe_bl (p.flat e s (.bl b))
  | int b =>
    cases x <;> (try simp only [chkE, Bool.false_eq_true] at h)
    rename_i c k pos
    cases c <;> (try simp only [chkE, Bool.false_eq_true] at h)
    rw [evE] at p
    have := eq_of_beq h
    subst this
    exact .of pe_int (p.flat e s (.int b))
  | str b =>
    cases x <;> (try simp only [chkE, Bool.false_eq_true] at h)
    rename_i c k pos
    cases c <;> (try simp only [chkE, Bool.false_eq_true] at h)
    rw [evE] at p
    have := eq_of_beq h
    subst this
    exact .of pe_str (p.flat e s (.str b))
theorem se_var {i : Nat} : SE n G (.var i) := by
  intro X W osc x C h σ H F env S Q sr e s p
  cases x <;> (try simp only [chkE, Bool.false_eq_true] at h)
  rename_i x pos
  unfold nmOk at h
  simp only [Bool.and_eq_true, decide_eq_true_eq, Bool.not_eq_true', Bool.not_eq_eq_eq_not, Bool.not_true] at h
  obtain ⟨⟨⟨h1, h2⟩, h3⟩, h4⟩ := h
  refine .of (pe_var h1 (vis_of h2) h3 h4) ?_
  rw [evE] at p
  split at p
  · rename_i d he
    obtain ⟨v, h5, h6⟩ := sr.2 i false d he
    exact ⟨v, h5, p v F H (Gr.refl e) s h6⟩
  · rename_i d he
    obtain ⟨v, h5, h6⟩ := sr.2 i true d he
    exact ⟨v, h5, p v F H (Gr.refl e) s h6⟩
  · exact p.elim
theorem se_con {c : Str} : SE n G (.con c) := by
  intro X W osc x C h σ H F env S Q sr e s p
  cases x <;> (try simp only [chkE, Bool.false_eq_true] at h)
  rename_i x pos
  rw [Bool.and_eq_true] at h
  have hx := of_decide_eq_true h.1
  subst hx
  rw [evE] at p
  obtain ⟨d, hd, p⟩ := okd_some p
  obtain ⟨v, u, h1, h2, h3⟩ := C.con c d hd
  obtain ⟨g1, g2⟩ := gl_of (X := X) h.2
  exact .of (pe_glob g1 h1 h2 g2) (post_flat p e s (h3 F))
theorem se_bin {o : Bop} {a b : Xp} (ha : SE n G a) (hb : SE n G b) : SE n G (.bin o a b) := by
  intro X W osc x C h σ H F env S Q sr e s p
  cases x <;> (try simp only [chkE, Bool.false_eq_true] at h)
  rw [Bool.and_eq_true, Bool.and_eq_true] at h
  obtain ⟨⟨h1, h2⟩, h3⟩ := h
  have h1 := of_decide_eq_true h1
  subst h1
  rw [evE] at p
  refine .of (pe_op wo we we) (ha X W osc _ C h2 σ H F env S _ sr e s (p.bind.mono ?_ fun _ _ _ z => z))
  rintro v1 H1 ⟨m1, d1, S1, F1, g1, s1, w1, p1⟩
  refine hb X W osc _ C h3 σ H1 F1 env S1 _ (sr.mono g1) g1.fh s1 (p1.bind.mono ?_ fun _ _ _ z => z)
  rintro v2 H2 ⟨m2, d2, S2, F2, g2, s2, w2, p2⟩
  exact sBin o (w1.mono g2) w2 g2.fh s2 p2
theorem se_neg {a : Xp} (ha : SE n G a) : SE n G (.neg a) := by
  intro X W osc x C h σ H F env S Q sr e s p
  cases x <;> (try simp only [chkE, Bool.false_eq_true] at h)
  rename_i op a' pos
  cases op <;> (try simp only [chkE, Bool.false_eq_true] at h)
  rw [evE] at p
  refine .of (pe_un wu we) (ha X W osc _ C h σ H F env S _ sr e s (p.bind.mono ?_ fun _ _ _ z => z))
  rintro v1 H1 ⟨m1, d1, S1, F1, g1, s1, w1, p1⟩
  cases d1 with
  | int i =>
    obtain ⟨rfl, _⟩ := w1.int
    exact .of un_neg ⟨i, rfl, post_flat p1 g1.fh s1 (.int _)⟩
  | _ => exact p1.elim
theorem se_not {a : Xp} (ha : SE n G a) : SE n G (.not a) := by
  intro X W osc x C h σ H F env S Q sr e s p
  cases x <;> (try simp only [chkE, Bool.false_eq_true] at h)
  rename_i op a' pos
  cases op <;> (try simp only [chkE, Bool.false_eq_true] at h)
  rw [evE] at p
  refine .of (pe_not we) (ha X W osc _ C h σ H F env S _ sr e s (p.bind.mono ?_ fun _ _ _ z => z))
  rintro v1 H1 ⟨m1, d1, S1, F1, g1, s1, w1, p1⟩
  cases d1 with
  | bl i =>
    obtain ⟨rfl, _⟩ := w1.bl
    exact ⟨i, rfl, post_flat p1 g1.fh s1 (.bl _)⟩
  | _ => exact p1.elim
theorem se_cmp {o : Cop} {a b : Xp} (ha : SE n G a) (hb : SE n G b) : SE n G (.cmp o a b) := by
  intro X W osc x C h σ H F env S Q sr e s p
  cases x <;> (try simp only [chkE, Bool.false_eq_true] at h)
  rename_i a' ops bs pos
  rcases ops with _ | ⟨o', _ | _⟩ <;> rcases bs with _ | ⟨b', _ | _⟩ <;> (try simp only [chkE, Bool.false_eq_true] at h)
  simp only [Bool.and_eq_true] at h
  obtain ⟨⟨⟨h1, h0⟩, h2⟩, h3⟩ := h
  have h1 := of_decide_eq_true h1
  subst h1
  rw [evE] at p
  refine .of (pe_cmpR wo we we (marks_of h0 _)) (ha X W osc _ C h2 σ H F env S _ sr e s (p.bind.mono ?_ fun _ _ _ z => z))
  rintro v1 H1 ⟨m1, d1, S1, F1, g1, s1, w1, p1⟩
  refine hb X W osc _ C h3 σ H1 F1 env S1 _ (sr.mono g1) g1.fh s1 (p1.bind.mono ?_ fun _ _ _ z => z)
  rintro v2 H2 ⟨m2, d2, S2, F2, g2, s2, w2, p2⟩
  obtain ⟨b, hb, p3⟩ := okb_some p2
  exact sCmp o C.pw C.units (w1.mono g2) w2 g2.fh hb (post_flat p3 g2.fh s2 (.bl _))
theorem st_cmp {o : Cop} {a b : Xp} (ha : SE n G a) (hb : SE n G b) : ST n G (.cmp o a b) := by
  intro X W osc x C h σ H F env S Q sr e s p
  cases x <;> (try simp only [chkE, Bool.false_eq_true] at h)
  rename_i a' ops bs pos
  rcases ops with _ | ⟨o', _ | _⟩ <;> rcases bs with _ | ⟨b', _ | _⟩ <;> (try simp only [chkE, Bool.false_eq_true] at h)
  simp only [Bool.and_eq_true] at h
  obtain ⟨⟨⟨h1, h0⟩, h2⟩, h3⟩ := h
  have h1 := of_decide_eq_true h1
  subst h1
  rw [evE] at p
  refine .of (pt_cmpR wo we we (marks_of h0 _)) (ha X W osc _ C h2 σ H F env S _ sr e s (p.bind.mono ?_ fun _ _ _ z => z))
  rintro v1 H1 ⟨m1, d1, S1, F1, g1, s1, w1, p1⟩
  refine hb X W osc _ C h3 σ H1 F1 env S1 _ (sr.mono g1) g1.fh s1 (p1.bind.mono ?_ fun _ _ _ z => z)
  rintro v2 H2 ⟨m2, d2, S2, F2, g2, s2, w2, p2⟩
  obtain ⟨b, hb, p3⟩ := okb_some p2
  exact sCmp o C.pw C.units (w1.mono g2) w2 g2.fh hb (post_flat p3 g2.fh s2 (.bl _))
theorem cmp2_core {o o' : Cop} {a b c : Xp} {a' b' c' : Expr} (ha : SE n G a) (hb : SE n G b) (hc : SE n G c) (C : Cn X n G (fnOk osc) W) (h2 : chkE G.np X.N a X.env.scope a' = true) (h3 : chkE G.np X.N b X.env.scope b' = true) (h4 : chkE G.np X.N c X.env.scope c' = true)
    {σ : L2.St} {H F : Hp} {env : Env} {S : Sr} {Q : VK} (sr : SR X.K G.sa F H env σ) (e : Ex F H) (s : SrcR G.sa F H S) (p : Post X.K G (fun c d H' => W c d σ H') F H (evE G.T G.cl (.cmp2 o o' a b c) env S) Q) :
    tChain (WO X (compareOp o.op)) (WO X (compareOp o'.op)) (WE X a') (WE X b') (WE X c') σ H Q := by
  rw [evE] at p
  refine ha X W osc _ C h2 σ H F env S _ sr e s (p.bind.mono ?_ fun _ _ _ z => z)
  rintro v1 H1 ⟨m1, d1, S1, F1, g1, s1, w1, p1⟩
  refine hb X W osc _ C h3 σ H1 F1 env S1 _ (sr.mono g1) g1.fh s1 (p1.bind.mono ?_ fun _ _ _ z => z)
  rintro v2 H2 ⟨m2, d2, S2, F2, g2, s2, w2, p2⟩
  cases hk : cmpD o d1 d2 with
  | none => rw [hk] at p2; exact p2.elim
  | some k =>
    refine sCmp o C.pw C.units (w1.mono g2) w2 g2.fh hk ⟨k, rfl, ?_⟩
    rw [hk] at p2
    cases k with
    | false =>
      rw [if_neg (by decide)]
      exact post_flat p2 g2.fh s2 (.bl _)
    | true =>
      rw [if_pos rfl]
      refine hc X W osc _ C h4 σ H2 F2 env S2 _ ((sr.mono g1).mono g2) g2.fh s2 (p2.bind.mono ?_ fun _ _ _ z => z)
      rintro v3 H3 ⟨m3, d3, S3, F3, g3, s3, w3, p3⟩
      obtain ⟨b, hb, p4⟩ := okb_some p3
      exact sCmp o' C.pw C.units (w2.mono g3) w3 g3.fh hb (post_flat p4 g3.fh s3 (.bl _))
theorem se_cmp2 {o o' : Cop} {a b c : Xp} (ha : SE n G a) (hb : SE n G b) (hc : SE n G c) : SE n G (.cmp2 o o' a b c) := by
  intro X W osc x C h σ H F env S Q sr e s p
  cases x <;> (try simp only [chkE, Bool.false_eq_true] at h)
  rename_i a' ops bs pos
  rcases ops with _ | ⟨o1, _ | ⟨o2, _ | _⟩⟩ <;> rcases bs with _ | ⟨b', _ | ⟨c', _ | _⟩⟩ <;> (try simp only [chkE, Bool.false_eq_true] at h)
  simp only [Bool.and_eq_true] at h
  obtain ⟨⟨⟨⟨⟨⟨h1, h1'⟩, h0⟩, h0'⟩, h2⟩, h3⟩, h4⟩ := h
  have h1 := of_decide_eq_true h1
  have h1' := of_decide_eq_true h1'
  subst h1 h1'
  exact .of (pe_chain wo wo we we we (marks_of h0' _)) (cmp2_core ha hb hc C h2 h3 h4 sr e s p)
theorem st_cmp2 {o o' : Cop} {a b c : Xp} (ha : SE n G a) (hb : SE n G b) (hc : SE n G c) : ST n G (.cmp2 o o' a b c) := by
  intro X W osc x C h σ H F env S Q sr e s p
  cases x <;> (try simp only [chkE, Bool.false_eq_true] at h)
  rename_i a' ops bs pos
  rcases ops with _ | ⟨o1, _ | ⟨o2, _ | _⟩⟩ <;> rcases bs with _ | ⟨b', _ | ⟨c', _ | _⟩⟩ <;> (try simp only [chkE, Bool.false_eq_true] at h)
  simp only [Bool.and_eq_true] at h
  obtain ⟨⟨⟨⟨⟨⟨h1, h1'⟩, h0⟩, h0'⟩, h2⟩, h3⟩, h4⟩ := h
  have h1 := of_decide_eq_true h1
  have h1' := of_decide_eq_true h1'
  subst h1 h1'
  exact .of (pt_chain wo wo we we we (marks_of h0' _)) (cmp2_core ha hb hc C h2 h3 h4 sr e s p)
end
end Mp
set_option Elab.async false
set_option maxRecDepth 100000
set_option maxHeartbeats 4000000
/-! Mp9: expressions (2): and, or, displays, subscripts, calls. -/
namespace Mp
open PySem L2 Evl
section
variable {n : Nat} {G : Gd}
theorem sk_nil {k : Bool} : SK n G k [] := fun X W osc xs pos C h hn => absurd rfl hn
theorem sk_one {k : Bool} {e : Xp} (he : SE n G e) (ht : ST n G e) : SK n G k [e] := by
  intro X W osc xs pos C h _ σ H F env S sr e0 s
  cases xs with
  | nil => simp [chkEs] at h
  | cons x xs =>
    cases xs with
    | cons y ys => simp [chkEs] at h
    | nil =>
      rw [chkEs, Bool.and_eq_true, Bool.and_eq_true] at h
      refine ⟨fun Q p => ?_, fun Q p => ?_⟩
      · rw [evB] at p
        refine .of (pe_one we) (he X W osc _ C h.1.2 σ H F env S _ sr e0 s (p.bind.mono ?_ fun _ _ _ z => z))
        rintro v1 H1 ⟨m1, d1, S1, F1, g1, s1, w1, p1⟩
        cases d1 with
        | bl b =>
          obtain ⟨rfl, _⟩ := w1.bl
          exact post_flat p1 g1.fh s1 (.bl _)
        | _ => exact p1.elim
      · have q : WT X x σ H Q := by
          rw [evB] at p
          refine ht X W osc _ C h.1.2 σ H F env S _ sr e0 s (p.bind.mono ?_ fun _ _ _ z => z)
          rintro v1 H1 ⟨m1, d1, S1, F1, g1, s1, w1, p1⟩
          cases d1 with
          | bl b =>
            obtain ⟨rfl, _⟩ := w1.bl
            exact post_flat p1 g1.fh s1 (.bl _)
          | _ => exact p1.elim
        cases k with
        | true => exact .of (pw_and1 wt) q
        | false => exact .of (pw_or1 wt) q
theorem sk_cons {k : Bool} {e e' : Xp} {es : List Xp} (he : SE n G e) (ht : ST n G e) (hr : SK n G k (e' :: es)) : SK n G k (e :: e' :: es) := by
  intro X W osc xs pos C h _ σ H F env S sr e0 s
  cases xs with
  | nil => simp [chkEs] at h
  | cons x xs =>
    cases xs with
    | nil => simp [chkEs] at h
    | cons y ys =>
      rw [chkEs, Bool.and_eq_true, Bool.and_eq_true] at h
      obtain ⟨⟨_, h1⟩, h2⟩ := h
      refine ⟨fun Q p => ?_, fun Q p => ?_⟩
      · rw [evB] at p
        have base : WE X x σ H (fun v H1 => ∃ c, v = .bl c ∧ if c = k then WE X (.BoolOp (if k then .And else .Or) (y :: ys) pos) σ H1 Q else Q (.bl c) H1) := by
          refine he X W osc _ C h1 σ H F env S _ sr e0 s (p.bind.mono ?_ fun _ _ _ z => z)
          rintro v1 H1 ⟨m1, d1, S1, F1, g1, s1, w1, p1⟩
          cases d1 with
          | bl b =>
            obtain ⟨rfl, _⟩ := w1.bl
            refine ⟨b, rfl, ?_⟩
            have p1' : Post X.K G (fun c d H' => W c d σ H') F1 H1 (if b = k then evB G.T G.cl k (e' :: es) env S1 else .ok .fz (.bl b) S1) Q := p1
            by_cases hb : b = k
            · rw [if_pos hb] at p1' ⊢
              exact (hr X W osc (y :: ys) pos C h2 (fun z => nomatch z) σ H1 F1 env S1 (sr.mono g1) g1.fh s1).1 Q p1'
            · rw [if_neg hb] at p1' ⊢
              exact post_flat p1' g1.fh s1 (.bl _)
          | _ => exact p1.elim
        cases k with
        | true =>
          refine .of (pe_and we we) (fun pins s0 I => thn (base pins s0 I) fun v s1 ⟨w, H1, I1, r1, c, q1, q2⟩ => ⟨w, H1, I1, r1, c, q1, ?_⟩)
          cases c with
          | true => exact q2
          | false => exact q2
        | false =>
          refine .of (pe_or we we) (fun pins s0 I => thn (base pins s0 I) fun v s1 ⟨w, H1, I1, r1, c, q1, q2⟩ => ⟨w, H1, I1, r1, c, q1, ?_⟩)
          cases c with
          | true => exact q2
          | false => exact q2
      · rw [evB] at p
        have base : WT X x σ H (fun c H1 => if c = k then WW X (.BoolOp (if k then .And else .Or) (y :: ys) pos) σ H1 Q else Q c H1) := by
          refine ht X W osc _ C h1 σ H F env S _ sr e0 s (p.bind.mono ?_ fun _ _ _ z => z)
          rintro v1 H1 ⟨m1, d1, S1, F1, g1, s1, w1, p1⟩
          cases d1 with
          | bl b =>
            obtain ⟨rfl, _⟩ := w1.bl
            refine ⟨b, rfl, ?_⟩
            have p1' : Post X.K G (fun c d H' => W c d σ H') F1 H1 (if b = k then evB G.T G.cl k (e' :: es) env S1 else .ok .fz (.bl b) S1) (fun v H' => ∃ b, v = .bl b ∧ Q b H') := p1
            by_cases hb : b = k
            · rw [if_pos hb] at p1' ⊢
              exact (hr X W osc (y :: ys) pos C h2 (fun z => nomatch z) σ H1 F1 env S1 (sr.mono g1) g1.fh s1).2 Q p1'
            · rw [if_neg hb] at p1' ⊢
              obtain ⟨c, q1, q2⟩ := post_flat p1' g1.fh s1 (.bl _)
              cases q1
              exact q2
          | _ => exact p1.elim
        cases k with
        | true =>
          refine .of (pw_and wt ww) (fun pins s0 I => thn (base pins s0 I) fun v s1 ⟨H1, I1, q2⟩ => ⟨H1, I1, ?_⟩)
          cases v with
          | true => exact q2
          | false => exact q2
        | false =>
          refine .of (pw_or wt ww) (fun pins s0 I => thn (base pins s0 I) fun v s1 ⟨H1, I1, q2⟩ => ⟨H1, I1, ?_⟩)
          cases v with
          | true => exact q2
          | false => exact q2
theorem chk_bool {X : Cx} {k : Bool} {es : List Xp} {x : Expr} (h : chkE G.np X.N (.bool k es) X.env.scope x = true) : ∃ xs pos, x = .BoolOp (if k then .And else .Or) xs pos ∧ es ≠ [] ∧ chkEs G.np X.N es X.env.scope xs = true := by
  cases x <;> (try simp only [chkE, Bool.false_eq_true] at h)
  rename_i o xs pos
  simp only [Bool.and_eq_true] at h
  obtain ⟨⟨h1, h2⟩, h3⟩ := h
  have h1 := of_decide_eq_true h1
  subst h1
  exact ⟨xs, pos, rfl, fun z => by rw [z] at h2; simp at h2, h3⟩
theorem se_bool {k : Bool} {es : List Xp} (hk : SK n G k es) : SE n G (.bool k es) := by
  intro X W osc x C h σ H F env S Q sr e s p
  obtain ⟨xs, pos, rfl, h1, h2⟩ := chk_bool h
  rw [evE] at p
  exact (hk X W osc xs pos C h2 h1 σ H F env S sr e s).1 Q p
theorem st_bool {k : Bool} {es : List Xp} (hk : SK n G k es) : ST n G (.bool k es) := by
  intro X W osc x C h σ H F env S Q sr e s p
  obtain ⟨xs, pos, rfl, h1, h2⟩ := chk_bool h
  rw [evE] at p
  exact .of (PW.pt ww) ((hk X W osc xs pos C h2 h1 σ H F env S sr e s).2 Q p)
theorem st_not {a : Xp} (ha : ST n G a) : ST n G (.not a) := by
  intro X W osc x C h σ H F env S Q sr e s p
  cases x <;> (try simp only [chkE, Bool.false_eq_true] at h)
  rename_i op a' pos
  cases op <;> (try simp only [chkE, Bool.false_eq_true] at h)
  rw [evE] at p
  refine .of (pt_not wt) (ha X W osc _ C h σ H F env S _ sr e s (p.bind.mono ?_ fun _ _ _ z => z))
  rintro v1 H1 ⟨m1, d1, S1, F1, g1, s1, w1, p1⟩
  cases d1 with
  | bl b =>
    obtain ⟨rfl, _⟩ := w1.bl
    obtain ⟨c, q1, q2⟩ := post_flat p1 g1.fh s1 (.bl _)
    cases q1
    exact ⟨b, rfl, q2⟩
  | _ => exact p1.elim
theorem se_ite {c a b : Xp} (hc : ST n G c) (ha : SE n G a) (hb : SE n G b) : SE n G (.ite c a b) := by
  intro X W osc x C h σ H F env S Q sr e s p
  cases x <;> (try simp only [chkE, Bool.false_eq_true] at h)
  simp only [Bool.and_eq_true] at h
  obtain ⟨⟨h1, h2⟩, h3⟩ := h
  rw [evE] at p
  refine .of (pe_ifExp wt we we) (hc X W osc _ C h1 σ H F env S _ sr e s (p.bind.mono ?_ fun _ _ _ z => z))
  rintro v1 H1 ⟨m1, d1, S1, F1, g1, s1, w1, p1⟩
  cases d1 with
  | bl k =>
    obtain ⟨rfl, _⟩ := w1.bl
    refine ⟨k, rfl, ?_⟩
    cases k with
    | true =>
      rw [if_pos rfl]
      exact ha X W osc _ C h2 σ H1 F1 env S1 _ (sr.mono g1) g1.fh s1 p1
    | false =>
      rw [if_neg (by decide)]
      exact hb X W osc _ C h3 σ H1 F1 env S1 _ (sr.mono g1) g1.fh s1 p1
  | _ => exact p1.elim

/-! ### argument lists -/
theorem sa_nil : SA n G [] := by
  intro X W osc xs C h σ H F env S Q sr e s p
  cases xs with
  | cons => simp [chkEs] at h
  | nil =>
    rw [evEs] at p
    exact .of pa_nil (p [] F H (Gr.refl e) s .nil)
theorem sa_cons {a : Xp} {es : List Xp} (ha : SE n G a) (hr : SA n G es) : SA n G (a :: es) := by
  intro X W osc xs C h σ H F env S Q sr e s p
  cases xs with
  | nil => simp [chkEs] at h
  | cons x xs =>
    rw [chkEs, Bool.and_eq_true, Bool.and_eq_true] at h
    obtain ⟨⟨h0, h1⟩, h2⟩ := h
    rw [evEs] at p
    refine .of (pa_cons we wa (star_cons h0 _ _)) (ha X W osc _ C h1 σ H F env S _ sr e s ?_)
    cases hE : evE G.T G.cl a env S with
    | bad => rw [hE] at p; exact p
    | exc x S1 => rw [hE] at p; exact p
    | ok m d S1 =>
      rw [hE] at p
      intro v1 F1 H1 g1 s1 w1
      by_cases hm : m = .br
      · have p' : PostL X.K G (fun c d H' => W c d σ H') F H (if m = .br then .bad else match evEs G.T G.cl es env S1 with | .ok ds S => .ok (d :: ds) S | .exc x S => .exc x S | .bad => .bad) Q := p
        rw [if_pos hm] at p'
        exact p'.elim
      · have p' : PostL X.K G (fun c d H' => W c d σ H') F H (if m = .br then .bad else match evEs G.T G.cl es env S1 with | .ok ds S => .ok (d :: ds) S | .exc x S => .exc x S | .bad => .bad) Q := p
        rw [if_neg hm] at p'
        obtain ⟨F2, g2, e2, s2, r2⟩ := w1.frozen hm g1 s1
        refine hr X W osc xs C h2 σ H1 F2 env S1 _ (sr.mono g2) g2.fh s2 ?_
        cases hL : evEs G.T G.cl es env S1 with
        | bad => rw [hL] at p'; exact p'
        | exc x S2 =>
          rw [hL] at p'
          exact fun c dx F' H' g s z => p' c dx F' H' (g2.trans g) s z
        | ok ds S2 =>
          rw [hL] at p'
          exact fun vs F' H' g s r => p' (v1 :: vs) F' H' (g2.trans g) s (.cons (r2.mono g.ff) r)
theorem sb_nil : SB n G [] := by
  intro X W osc xs C h σ H F env S k Q sr e s p
  cases xs with
  | cons => simp [chkEs] at h
  | nil =>
    rw [evBs] at p
    exact .of pa_nil ⟨F, S, [], Gr.refl e, s, .nil, p⟩
theorem sb_cons {a : Xp} {es : List Xp} (ha : SE n G a) (hr : SB n G es) : SB n G (a :: es) := by
  intro X W osc xs C h σ H F env S k Q sr e s p
  cases xs with
  | nil => simp [chkEs] at h
  | cons x xs =>
    rw [chkEs, Bool.and_eq_true, Bool.and_eq_true] at h
    obtain ⟨⟨h0, h1⟩, h2⟩ := h
    rw [evBs] at p
    refine .of (pa_cons we wa (star_cons h0 _ _)) (ha X W osc _ C h1 σ H F env S _ sr e s (p.bind.mono ?_ fun _ _ _ z => z))
    rintro v1 H1 ⟨m1, d1, S1, F1, g1, s1, w1, p1⟩
    have q := hr X W osc xs C h2 σ H1 F1 env S1 _ _ (sr.mono g1) g1.fh s1 p1
    refine fun pos pins s0 I => thn (q pos pins s0 I) fun us s2 ⟨vs, H2, I2, r2, F2, S2, ds, g2, s2', w2, p2⟩ => ⟨vs, H2, I2, r2, F2, S2, d1 :: ds, g1.trans g2, s2', ?_, p2⟩
    refine .cons ⟨m1, w1.mono g2⟩ ?_
    have up : ∀ {vs : List V} {ds : List D}, VRs X.K G.sa H1 F2 H2 vs ds → VRs X.K G.sa H F2 H2 vs ds := fun w => by
      induction w with
      | nil => exact .nil
      | cons h _ ih =>
        obtain ⟨m, h⟩ := h
        exact .cons ⟨m, h.base fun p z => g1.back z⟩ ih
    exact up w2
theorem se_tup {es : List Xp} (hs : SA n G es) : SE n G (.tup es) := by
  intro X W osc x C h σ H F env S Q sr e s p
  cases x <;> (try simp only [chkE, Bool.false_eq_true] at h)
  rename_i xs kk pos
  rw [Bool.and_eq_true] at h
  have hl := of_decide_eq_true h.1
  have hx := chkEs_len h.2
  rw [evE] at p
  refine .of (pe_tup wa) (hs X W osc _ C h.2 σ H F env S _ sr e s ?_)
  cases hE : evEs G.T G.cl es env S with
  | bad => rw [hE] at p; exact p
  | exc x S1 => rw [hE] at p; exact p
  | ok ds S1 =>
    rw [hE] at p
    intro vs F1 H1 g1 s1 r1
    have p1 := Post.next p g1
    have hd : ds.length = es.length := evEs_len hE
    exact ⟨szMax_le (by rw [r1.length, hd]; exact Nat.le_trans hl (by decide)), p1.newTup g1.fh s1 r1⟩
where
  evEs_len {T : Tab} {call : Str → List D → Sr → R} : ∀ {es : List Xp} {env : Env} {S S1 : Sr} {ds : List D}, evEs T call es env S = .ok ds S1 → ds.length = es.length
    | [], _, _, _, _, h => by rw [evEs] at h; cases h; rfl
    | e :: es, env, S, S1, ds, h => by
      rw [evEs] at h
      split at h
      · split at h
        · cases h
        · split at h
          · rename_i q
            cases h
            rw [List.length_cons, List.length_cons, evEs_len q]
          · cases h
          · cases h
      · cases h
      · cases h
theorem se_lst {es : List Xp} (hs : SA n G es) : SE n G (.lst es) := by
  intro X W osc x C h σ H F env S Q sr e s p
  cases x <;> (try simp only [chkE, Bool.false_eq_true] at h)
  rename_i xs pos
  rw [Bool.and_eq_true] at h
  have hl := of_decide_eq_true h.1
  rw [evE] at p
  refine .of (pe_lst wa) (hs X W osc _ C h.2 σ H F env S _ sr e s ?_)
  cases hE : evEs G.T G.cl es env S with
  | bad => rw [hE] at p; exact p
  | exc x S1 => rw [hE] at p; exact p
  | ok ds S1 =>
    rw [hE] at p
    intro vs F1 H1 g1 s1 r1
    have p1 := Post.next p g1
    have hd : ds.length = es.length := se_tup.evEs_len hE
    exact ⟨szMax_le (by rw [r1.length, hd]; exact Nat.le_trans hl (by decide)), p1.newLst g1.fh s1 r1⟩
theorem se_dct0 : SE n G .dct0 := by
  intro X W osc x C h σ H F env S Q sr e s p
  cases x <;> (try simp only [chkE, Bool.false_eq_true] at h)
  rename_i ks vs pos
  rcases ks with _ | _ <;> rcases vs with _ | _ <;> (try simp only [chkE, Bool.false_eq_true] at h)
  rw [evE] at p
  refine .of pe_dnewK fun q nq => ?_
  exact p _ _ _ (Gr.new e nq) (s.new nq) ⟨q, rfl, nq, fresh_back e nq, fun z => by rw [z] at nq; exact s.n1 nq, fun z => by rw [z] at nq; exact s.n2 nq, rfl, upd_same⟩
theorem se_ix {a i : Xp} (ha : SE n G a) (hi : SE n G i) : SE n G (.ix a i) := by
  intro X W osc x C h σ H F env S Q sr e s p
  cases x <;> (try simp only [chkE, Bool.false_eq_true] at h)
  simp only [Bool.and_eq_true] at h
  obtain ⟨⟨h0, h1⟩, h2⟩ := h
  rw [evE] at p
  refine .of (pe_ix wx we we (plainIx_of h0)) (ha X W osc _ C h1 σ H F env S _ sr e s (p.bind.mono ?_ fun _ _ _ z => z))
  rintro v1 H1 ⟨m1, d1, S1, F1, g1, s1, w1, p1⟩
  refine hi X W osc _ C h2 σ H1 F1 env S1 _ (sr.mono g1) g1.fh s1 (p1.bind.mono ?_ fun _ _ _ z => z)
  rintro v2 H2 ⟨m2, d2, S2, F2, g2, s2, w2, p2⟩
  exact sIx C.pw C.units (w1.mono g2) w2 g2.fh s2 p2
theorem so_none : SO n G none := by
  intro X W osc x C h σ H F env S k Q sr e s p
  cases x with
  | some => simp [chkO] at h
  | none =>
    rw [evO] at p
    exact .of po_none ⟨F, S, Gr.refl e, s, p⟩
theorem so_some {a : Xp} (ha : SE n G a) : SO n G (some a) := by
  intro X W osc x C h σ H F env S k Q sr e s p
  cases x with
  | none => simp [chkO] at h
  | some x =>
    rw [chkO] at h
    rw [evO] at p
    refine .of (po_some we) (ha X W osc _ C h σ H F env S _ sr e s (p.bind.mono ?_ fun _ _ _ z => z))
    rintro v1 H1 ⟨m1, d1, S1, F1, g1, s1, w1, p1⟩
    cases d1 with
    | int i =>
      obtain ⟨rfl, _⟩ := w1.int
      exact ⟨i, rfl, F1, S1, g1, s1, p1⟩
    | _ => exact p1.elim
theorem se_sl {a : Xp} {lo hi : Option Xp} (ha : SE n G a) (hl : SO n G lo) (hh : SO n G hi) : SE n G (.sl a lo hi) := by
  intro X W osc x C h σ H F env S Q sr e s p
  cases x <;> (try simp only [chkE, Bool.false_eq_true] at h)
  rename_i a' sl pos
  cases sl <;> (try simp only [chkE, Bool.false_eq_true] at h)
  rename_i lo' hi' st p2
  cases st <;> (try simp only [chkE, Bool.false_eq_true] at h)
  simp only [Bool.and_eq_true] at h
  obtain ⟨⟨h1, h2⟩, h3⟩ := h
  rw [evE] at p
  refine .of (pe_slice ws we wp' wp') (ha X W osc _ C h1 σ H F env S _ sr e s (p.bind.mono ?_ fun _ _ _ z => z))
  rintro v1 H1 ⟨m1, d1, S1, F1, g1, s1, w1, p1⟩
  have q1 := hl X W osc _ C h2 σ H1 F1 env S1 _ Q (sr.mono g1) g1.fh s1 p1
  refine fun pins s0 I => wpAny_mono (q1 pins s0 I) (fun u s2 ⟨o, H2, I2, r2, F2, S2, g2, s2', p2⟩ => ⟨o, H2, I2, r2, ?_⟩) fun _ _ z => z
  have q2 := hh X W osc _ C h3 σ H2 F2 env S2 _ Q ((sr.mono g1).mono g2) g2.fh s2' p2
  refine fun pins s0 I => wpAny_mono (q2 pins s0 I) (fun u s3 ⟨o', H3, I3, r3, F3, S3, g3, s3', p3⟩ => ⟨o', H3, I3, r3, ?_⟩) fun _ _ z => z
  have w3 := (w1.mono g2).mono g3
  cases d1 with
  | lst xs => exact sSlL w3 g3.fh s3' p3
  | tup xs => exact sSlT w3 g3.fh s3' p3
  | _ => exact p3.elim

/-! ### calls -/
theorem se_call {f : Str} {es : List Xp} (hs : SA n G es) : SE n G (.call f es) := by
  intro X W osc x C h σ H F env S Q sr e s p
  cases x <;> (try simp only [chkE, Bool.false_eq_true] at h)
  rename_i fn xs kws pos
  cases fn <;> (try simp only [chkE, Bool.false_eq_true] at h)
  rename_i x np
  cases kws <;> (try simp only [chkE, Bool.false_eq_true] at h)
  simp only [Bool.and_eq_true] at h
  obtain ⟨⟨⟨h1, h2⟩, h3⟩, h4⟩ := h
  have h1 := of_decide_eq_true h1
  subst h1
  obtain ⟨g1, g2⟩ := gl_of (X := X) h2
  obtain ⟨fa, fd, ps, hps, hm, hk, hb, FO⟩ := C.fns f es.length (of_decide_eq_true h3)
  have hst := chkEs_star h4
  have hlen := chkEs_len h4
  rw [evE] at p
  have args : WA X xs σ H (fun vs H1 => spCall X.K G f es.length vs H1 Q (L2.WE W σ)) := by
    refine hs X W osc _ C h4 σ H F env S _ sr e s ?_
    cases hE : evEs G.T G.cl es env S with
    | bad => rw [hE] at p; exact p
    | exc x S1 => rw [hE] at p; exact p
    | ok ds S1 =>
      rw [hE] at p
      intro vs F1 H1 g1 s1 r1
      exact ⟨by rw [r1.length]; exact se_tup.evEs_len hE, F1, ds, S1, g1.fh, s1, r1, Post.next p g1⟩
  cases xs with
  | nil =>
    refine fun pins s0 I => ?_
    refine wpAny_Call_Name_kw (ld_glob I g1 hm ?_ g2)
    refine PySem.W.callWith_K0 I.kIn hk ?_
    have he : es = [] := List.eq_nil_of_length_eq_zero (by rw [← hlen]; rfl)
    subst he
    rw [evEs] at p
    exact run_fnS (us := []) FO C.room hb (passAt C.takes σ) I .nil ⟨rfl, F, [], S, e, s, .nil, p⟩
  | cons y ys =>
    refine .of (pe_callS FO C.room g1 hm hk hb (fun σ => passAt C.takes σ) wa g2 (star_cons (hst y List.mem_cons_self) _ _) (star_plain _ _ fun z hz => hst z (List.mem_cons_of_mem _ hz))) args
theorem bf_boot (f : Bf) : bootBuiltins f.nm = some f.val ∧ f.nm ≠ "__name__" ∧ f.nm ∈ bltNames := by
  cases f <;> decide +kernel
theorem se_blt {f : Bf} {es : List Xp} (hs : SB n G es) : SE n G (.blt f es) := by
  intro X W osc x C h σ H F env S Q sr e s p
  cases x <;> (try simp only [chkE, Bool.false_eq_true] at h)
  rename_i fn xs kws pos
  cases fn <;> (try simp only [chkE, Bool.false_eq_true] at h)
  rename_i x np
  cases kws <;> (try simp only [chkE, Bool.false_eq_true] at h)
  simp only [Bool.and_eq_true] at h
  obtain ⟨⟨⟨h1, h2⟩, h3⟩, h4⟩ := h
  have h1 := of_decide_eq_true h1
  subst h1
  obtain ⟨g1, g2⟩ := gl_of (X := X) h2
  obtain ⟨b1, b2, b3⟩ := bf_boot f
  have hst := chkEs_star h4
  have hlen := chkEs_len h4
  rw [evE] at p
  have q := hs X W osc _ C h4 σ H F env S _ Q sr e s p
  have q' : WA X xs σ H (fun vs H1 => WC X f.val vs H1 Q) := fun pos pins s0 I => thn (q pos pins s0 I) fun us s1 ⟨vs, H1, I1, r1, F1, S1, ds, g1, s1', w1, p1⟩ => ⟨vs, H1, I1, r1, sBlt f C.pw C.calm C.units w1 g1.fh s1' p1⟩
  cases xs with
  | nil =>
    have he : es = [] := List.eq_nil_of_length_eq_zero (by rw [← hlen]; rfl)
    subst he
    simp at h3
  | cons y ys =>
    have hv : ∀ id, f.val = .builtin id → WE X (.Call (.Name f.nm np) (y :: ys) [] pos) σ H Q := fun id e1 => by
      rw [e1] at b1 q'
      exact .of (pe_callB wc g1 (C.blt _ b3) b1 wa b2 g2 (star_cons (hst y List.mem_cons_self) _ _) (star_plain _ _ fun z hz => hst z (List.mem_cons_of_mem _ hz))) q'
    have ht : ∀ id, f.val = .type id → WE X (.Call (.Name f.nm np) (y :: ys) [] pos) σ H Q := fun id e1 => by
      rw [e1] at b1 q'
      exact .of (pe_callTy wc g1 (C.blt _ b3) b1 wa b2 g2 (star_cons (hst y List.mem_cons_self) _ _) (star_plain _ _ fun z hz => hst z (List.mem_cons_of_mem _ hz))) q'
    cases f <;> first | exact hv _ rfl | exact ht _ rfl
theorem ty_boot (c : Ty) : bootBuiltins (Str.ofString c.nm) = some (.type c.nm) ∧ Str.ofString c.nm ≠ "__name__" ∧ Str.ofString c.nm ∈ bltNames := by
  cases c <;> decide +kernel
theorem se_isi {a : Xp} {c : Ty} (ha : SE n G a) : SE n G (.isi a c) := by
  intro X W osc x C h σ H F env S Q sr e s p
  cases x <;> (try simp only [chkE, Bool.false_eq_true] at h)
  rename_i fn xs kws pos
  cases fn <;> (try simp only [chkE, Bool.false_eq_true] at h)
  rename_i x np
  rcases xs with _ | ⟨y, _ | ⟨z, _ | _⟩⟩ <;> (try simp only [chkE, Bool.false_eq_true] at h)
  cases z <;> (try simp only [chkE, Bool.false_eq_true] at h)
  rename_i z zp
  cases kws <;> (try simp only [chkE, Bool.false_eq_true] at h)
  simp only [Bool.and_eq_true] at h
  obtain ⟨⟨⟨⟨⟨h1, h2⟩, h3⟩, h4⟩, h5⟩, h6⟩ := h
  have h1 := of_decide_eq_true h1
  have h2 := of_decide_eq_true h2
  subst h1 h2
  obtain ⟨g1, g2⟩ := gl_of (X := X) h3
  obtain ⟨k1, k2⟩ := gl_of (X := X) h4
  obtain ⟨b1, b2, b3⟩ := ty_boot c
  rw [evE] at p
  refine .of (pe_callB wc g1 (C.blt _ (by decide +kernel)) PyProof.Rows.boot_isinstance (pa_cons we (pa_cons (pe_bltn (v := .ty c.nm) k1 (C.blt _ b3) b1 rfl b2 k2) pa_nil) (star_cons h5 _ _)) (by decide +kernel) g2 (star_cons h5 _ _) rfl) ?_
  refine ha X W osc _ C h6 σ H F env S _ sr e s (p.bind.mono ?_ fun _ _ _ z => z)
  rintro v1 H1 ⟨m1, d1, S1, F1, g1, s1, w1, p1⟩
  obtain ⟨b, hb, p2⟩ := okb_some p1
  exact sIsi c w1 g1.fh s1 hb p2
/-- a class by its name -/
theorem we_cls {X : Cx} {x : Str} {p : Pos} {u : Value} {v : V} {σ : L2.St} {H : Hp} {Q : VK} (h : NmV X x u) (r : RelV v u) (k : ClsV v u) (g : glOk X.env.scope x = true) (q : Q v H) : WE X (.Name x p) σ H Q := by
  obtain ⟨g1, g2⟩ := gl_of (X := X) g
  rcases h with h | ⟨h1, h2, h3⟩
  · exact .of (pe_glob g1 h r g2) q
  · exact .of (pe_bltn g1 h1 h2 r h3 g2) q
theorem se_isx {a : Xp} {c : Str} (ha : SE n G a) : SE n G (.isx a c) := by
  intro X W osc x C h σ H F env S Q sr e s p
  cases x <;> (try simp only [chkE, Bool.false_eq_true] at h)
  rename_i fn xs kws pos
  cases fn <;> (try simp only [chkE, Bool.false_eq_true] at h)
  rename_i x np
  rcases xs with _ | ⟨y, _ | ⟨z, _ | _⟩⟩ <;> (try simp only [chkE, Bool.false_eq_true] at h)
  cases z <;> (try simp only [chkE, Bool.false_eq_true] at h)
  rename_i z zp
  cases kws <;> (try simp only [chkE, Bool.false_eq_true] at h)
  simp only [Bool.and_eq_true] at h
  obtain ⟨⟨⟨⟨⟨h1, h2⟩, h3⟩, h4⟩, h5⟩, h6⟩ := h
  have h1 := of_decide_eq_true h1
  have h2 := of_decide_eq_true h2
  subst h1 h2
  obtain ⟨g1, g2⟩ := gl_of (X := X) h3
  rw [evE] at p
  split at p
  · rename_i hc
    obtain ⟨cv, v, rv, kv, nv, kn, ks⟩ := C.sub _ hc
    refine .of (pe_callB wc g1 (C.blt _ (by decide +kernel)) PyProof.Rows.boot_isinstance (pa_cons we (pa_cons we pa_nil rfl) (star_cons h5 _ _)) (by decide +kernel) g2 (star_cons h5 _ _) rfl) ?_
    refine ha X W osc _ C h6 σ H F env S _ sr e s (p.bind.mono ?_ fun _ _ _ z => z)
    rintro v1 H1 ⟨m1, d1, S1, F1, g1, s1, w1, p1⟩
    refine we_cls nv rv kv h4 ?_
    cases d1 with
    | non =>
      have hv : v1 = .non := w1.non
      subst hv
      exact .of call_isi ⟨_, _, _, _, false, rfl, kv, .base .non, kn, p1.flat g1.fh s1 (.bl _)⟩
    | exc nm fs =>
      have hx : ∃ b D d, v1 = .ref b ∧ G.sa.cls nm = some D ∧ F1 b = some (ExC (.ref D) d b) ∧ ∀ e, d = some e → ∃ vs, F1 e = some (.xd vs) := by
        cases m1 with
        | fz =>
          cases w1 with
          | exc q1 q2 => exact ⟨_, _, none, rfl, q1, q2, fun e z => nomatch z⟩
          | exf q1 q2 q3 _ _ => exact ⟨_, _, some _, rfl, q1, q2, fun e z => by cases z; exact ⟨_, q3⟩⟩
        | fr => obtain ⟨_, _, _, _, _, _, o⟩ := w1; exact o.elim
        | br => obtain ⟨_, _, _, _, _, o⟩ := w1; exact o.elim
      obtain ⟨b, D, dx, rfl, q1, q2, q3⟩ := hx
      intro pins s0 σ0 us I r
      obtain ⟨u1, u2, rfl, r1, r2⟩ := vals2 r
      cases (show u1 = Value.ref b from r1)
      have e2 := kv.eq r2
      subst e2
      obtain ⟨⟨oe, vs, o1, o2, o3⟩, _⟩ := (show ObjOk X.prog X.w H1 s0.heap b (ExC (.ref D) dx b) from I.hok b _ (g1.fh _ _ q2))
      have EC := (C.exc nm D q1).ec
      have J : ∃ od, PySem.W.InstAt s0.heap b oe D od := by
        have nc : PySem.W.notCls oe = true := by unfold PySem.W.notCls; rw [o3] <;> rfl
        cases dx with
        | none => exact ⟨none, o1, o2.1, nc, by rw [o2.2]; trivial⟩
        | some e =>
          obtain ⟨us, hus⟩ := q3 e rfl
          obtain ⟨mA, hns, _⟩ : ∃ mA, s0.heap.Ns1 e mA ∧ ∀ f, RelO (us.lookup f) (mA f) := (show ObjOk X.prog X.w H1 s0.heap e (.xd us) from I.hok e _ (g1.fh _ _ hus))
          obtain ⟨od, ho, _⟩ := lookIn_ns hns
          exact ⟨some od, o1, o2.1, nc, by rw [o2.2]; exact ho⟩
      obtain ⟨od, J⟩ := J
      have hcl : (PySem.W.clsIn X.K D).isSome = true := by
        obtain ⟨cd, hc, _⟩ := PySem.W.any_some EC.hd
        rw [hc]
        rfl
      exact PySem.W.kia_one (PySem.W.kitx_exc hcl EC.hg EC.hk EC.hs EC.ha EC.hn EC.ht EC.hm) I.kIn J (ks nm D q1).2 (fun z => nomatch z)
        fun tk => ⟨.bl _, H1, I.kept (t' := tk) fun _ _ z => z, rfl, p1.flat g1.fh s1 (.bl _)⟩
    | _ => exact p1.elim
  · exact p.elim

end
end Mp
set_option Elab.async false
set_option maxRecDepth 100000
set_option maxHeartbeats 4000000
/-! Mp10: expressions (3): methods, what is walked, comprehensions. -/
namespace Mp
open PySem L2 Evl
section
variable {n : Nat} {G : Gd}
/-! ### methods that read -/
theorem sCount {X : Cx} {Wk : XK} {F H H1 : Hp} {Q : VK} {S : Sr} {x v : V} {xs : List D} {d : D} {m m2 : Md} (hu : X.A.units + 100 < cLine) (hx : VR X.K G.sa m H1 F H x (.lst xs)) (hv : DR X.K G.sa F v d) (e : Ex F H) (s : SrcR G.sa F H S)
    {i : Nat} (q : cntD d xs = some i) (p : Post X.K G Wk F H (.ok .fz (.int i) S) Q) : WM X "list.count" x [v] H Q := by
  unfold cntD at q
  split at q
  · rename_i hs
    rw [Bool.and_eq_true] at hs
    cases q
    obtain ⟨a, us, rfl, h1, r1⟩ := hx.lst e
    intro pins s0 σ u ws I ru rw'
    cases ru
    obtain ⟨w, rfl, rw2⟩ := vals1 rw'
    obtain ⟨as, rd⟩ := Dp.reads I _ v w (Dp.mono e (DR.dp hv hs.1)) rw2
    obtain ⟨its, rv, hl, _⟩ := I.list (SqL.of h1)
    obtain ⟨bs, rl⟩ := Dp.readsAll I _ _ _ (DpAll.mono e (r1.dp hs.2)) rv
    have f1 := okFacts hs.1
    have f2 := oks_facts xs 60 hs.2
    refine PySem.SeqAt.count_list_data hl.isList (by simpa using rl) rd f2.1 f1.1 (by omega) ?_
    have ec : (D.pds xs).countP (fun y => PyData.eqv y d.pd) = xs.countP fun y => D.eqb y d := by
      rw [pds_map, List.countP_map]
      refine List.countP_congr fun y hy => ?_
      show PyData.eqv y.pd d.pd = true ↔ _
      rw [eqv_eqb y d 60 60 (oks_mem hs.2 hy) hs.1]
    rw [ec]
    exact ⟨.int _, H, I.tok _, ⟨_, rfl⟩, p.flat e s (.int _)⟩
  · cases q
theorem sCountT {X : Cx} {Wk : XK} {F H H1 : Hp} {Q : VK} {S : Sr} {x v : V} {xs : List D} {d : D} {m : Md} (hu : X.A.units + 100 < cLine) (hx : VR X.K G.sa m H1 F H x (.row xs)) (hv : DR X.K G.sa F v d) (e : Ex F H) (s : SrcR G.sa F H S)
    {i : Nat} (q : cntD d xs = some i) (p : Post X.K G Wk F H (.ok .fz (.int i) S) Q) : WM X "tuple.count" x [v] H Q := by
  unfold cntD at q
  split at q
  · rename_i hs
    rw [Bool.and_eq_true] at hs
    cases q
    have row : ∃ a us, x = .ref a ∧ SqT X.K H a us ∧ DRs X.K G.sa F us xs := by
      cases m with
      | fz => cases hx with | row h _ _ r => exact ⟨_, _, rfl, Or.inl (Or.inr ⟨_, e _ _ h⟩), r⟩
      | fr => obtain ⟨_, _, _, _, _, _, o⟩ := hx; exact o.elim
      | br => obtain ⟨_, _, _, _, _, o⟩ := hx; exact o.elim
    obtain ⟨a, us, rfl, h1, r1⟩ := row
    intro pins s0 σ u ws I ru rw'
    cases ru
    obtain ⟨w, rfl, rw2⟩ := vals1 rw'
    obtain ⟨as, rd⟩ := Dp.reads I _ v w (Dp.mono e (DR.dp hv hs.1)) rw2
    obtain ⟨its, rv, hl, _⟩ := I.tuple h1
    obtain ⟨bs, rl⟩ := Dp.readsAll I _ _ _ (DpAll.mono e (r1.dp hs.2)) rv
    have f1 := okFacts hs.1
    have f2 := oks_facts xs 60 hs.2
    have isT : s0.heap.IsTuple a its.toArray := by
      obtain ⟨o, e1, e2, n, e3⟩ := hl
      exact ⟨o, e1, e2, n, e3⟩
    refine PySem.SeqAt.count_tuple_data isT (by simpa using rl) rd f2.1 f1.1 (by omega) ?_
    have ec : (D.pds xs).countP (fun y => PyData.eqv y d.pd) = xs.countP fun y => D.eqb y d := by
      rw [pds_map, List.countP_map]
      refine List.countP_congr fun y hy => ?_
      show PyData.eqv y.pd d.pd = true ↔ _
      rw [eqv_eqb y d 60 60 (oks_mem hs.2 hy) hs.1]
    rw [ec]
    exact ⟨.int _, H, I.tok _, ⟨_, rfl⟩, p.flat e s (.int _)⟩
  · cases q
section
variable {X : Cx} {o y : Expr} {ys : List Expr} {to : TE} {t : TA} {apos cpos : Pos}
/-- row.count(..) -/
theorem pe_rowcount (ho : PE X o to) (ha : PA X (y :: ys) t) (hbase : attributeBase o "count" X.env (eval o X.env) = eval o X.env)
    (hfew : ((backTo cpos (starEach (y :: ys) X.env)).all (fun x => !x.1) && (backToKw cpos (keywordEach [] X.env)).all (fun x => x.1.isSome)
      && decide ((y :: ys).length + ([] : List Keyword).length + (if ([] : List Keyword).isEmpty then 0 else 1) < 30)) = true)
    (hline : (apos.endLine == cpos.line) = true) (hs : starEach (y :: ys) X.env = (false, eval y X.env) :: starEach ys X.env) (hplain : (backTo cpos (starEach ys X.env)).any (·.1) = false) :
    PE X (.Call (.Attribute o "count" apos) (y :: ys) [] cpos) (fun σ H Q => to σ H fun x H1 => (∃ a xs ob, x = V.ref a ∧ H1 a = some (.frz ob (.tup xs)) ∧ ob.cls = .type "tuple" ∧ ob.dict = none) ∧ t σ H1 fun vs H2 => WM X "tuple.count" x vs H2 Q) := by
  refine ⟨fun pins s σ H Q I h => ?_⟩
  refine wpAny_Call_method_late hbase hfew hline rfl (thn (ho.run pins s σ H _ I h) fun v s1 ⟨x, H1, I1, r1, ty, q1⟩ => ?_)
  obtain ⟨a, xs, ob, rfl, ha1, hc, hd⟩ := ty
  cases r1
  have g1 : s1.heap.get? a = some ob := (I1.hok a _ ha1).1
  refine ⟨"tuple", "tuple.count", PySem.F.plainAttrs_tuple, PySem.F.slot_tuple_count, PySem.F.type_tuple_count, ⟨ob, g1, hc⟩, fun b e => by cases e; exact ⟨ob, g1, hd⟩, ?_⟩
  have hA := ha.run cpos pins s1 σ H1 _ I1 q1
  rw [hs] at hA ⊢
  refine Calls.callWith_builtin (by show (false || (backTo cpos (starEach ys X.env)).any (·.1)) = false; rw [hplain]; rfl) (Calls.evalArgs_plain ?_)
  exact thn hA fun us s2 ⟨vs, H2, I2, r2, q2⟩ => wm pins s2 σ H2 (.ref a) vs (.ref a) us Q I2 rfl r2 q2
end
theorem sIndex {X : Cx} {Wk : XK} {F H H1 : Hp} {Q : VK} {S : Sr} {x v : V} {xs : List D} {d : D} {m m2 : Md} (hu : X.A.units + 100 < cLine) (hx : VR X.K G.sa m H1 F H x (.lst xs)) (hv : DR X.K G.sa F v d) (e : Ex F H) (s : SrcR G.sa F H S)
    {i : Nat} (q : idxD d xs = some i) (p : Post X.K G Wk F H (.ok .fz (.int i) S) Q) : WM X "list.index" x [v] H Q := by
  unfold idxD at q
  split at q
  · rename_i hs
    rw [Bool.and_eq_true] at hs
    obtain ⟨a, us, rfl, h1, r1⟩ := hx.lst e
    intro pins s0 σ u ws I ru rw'
    cases ru
    obtain ⟨w, rfl, rw2⟩ := vals1 rw'
    obtain ⟨as, rd⟩ := Dp.reads I _ v w (Dp.mono e (DR.dp hv hs.1)) rw2
    obtain ⟨its, rv, ⟨⟨cls, dd, data, sls⟩, nn, ho, hc, hdn, hdt⟩, hlen⟩ := I.list (SqL.of h1)
    simp only at hc hdt
    subst hc hdt
    obtain ⟨bs, rl⟩ := Dp.readsAll I _ _ _ (DpAll.mono e (r1.dp hs.2)) rv
    have f1 := okFacts hs.1
    have f2 := oks_facts xs 60 hs.2
    have rl' : ReadsAll s0.heap its.toArray.toList (D.pds xs) bs := by simpa using rl
    have hp : PySem.SeqAt.dataPlace (D.pds xs) d.pd = some i := by
      unfold PySem.SeqAt.dataPlace
      rw [pds_map, List.findIdx?_map, ← q]
      have k : ∀ l : List D, (∀ y ∈ l, y ∈ xs) → l.findIdx? ((fun y => PyData.eqv y d.pd) ∘ D.pd) = l.findIdx? fun y => D.eqb y d := by
        intro l
        induction l with
        | nil => intro _; rfl
        | cons b l ih =>
          intro hm
          rw [List.findIdx?_cons, List.findIdx?_cons, ih fun y hy => hm y (List.mem_cons_of_mem _ hy)]
          rw [show ((fun y => PyData.eqv y d.pd) ∘ D.pd) b = D.eqb b d from eqv_eqb b d 60 60 (oks_mem hs.2 (hm b List.mem_cons_self)) hs.1]
      exact k xs fun _ h => h
    obtain ⟨hj, hit, hno⟩ := PySem.SeqAt.hit_at rl' f2.1 hp
    have hl := rv.length
    have hsl := sizeLine_eq
    refine PySem.call_meets PySem.F.slot_list_index ⟨_, ho, rfl⟩ PySem.F.entry_list_index (PySem.F.args_list_index_2 _ _)
      (SeqAt.list_indexAt a its.toArray nn dd sls w (fun u => PyData.eqv (SeqAt.readOf s0.heap u) d.pd) i hj (by rw [List.size_toArray] at hj; omega) hit hno) ⟨ho, PySem.SeqAt.items_plain rl' rd f2.1 f1.1 (by show X.A.units + 1 + _ < _; omega), ?_⟩
    exact ⟨.int _, H, I.tok _, ⟨_, rfl⟩, p.flat e s (.int _)⟩
  · cases q
theorem noKw_all (pos : Pos) (env : PySem.Env) : (backToKw pos (keywordEach [] env)).all (fun x => x.1.isSome) = true := rfl
theorem se_meth {m : Mf} {o : Xp} {es : List Xp} (ho : SE n G o) (hs : SA n G es) : SE n G (.meth m o es) := by
  intro X W osc x C h σ H F env S Q sr e s p
  cases x <;> (try simp only [chkE, Bool.false_eq_true] at h)
  rename_i fn xs kws pos
  cases fn <;> (try simp only [chkE, Bool.false_eq_true] at h)
  rename_i o' nm apos
  cases kws <;> (try simp only [chkE, Bool.false_eq_true] at h)
  simp only [Bool.and_eq_true] at h
  obtain ⟨⟨⟨⟨⟨⟨h1, h2⟩, h3⟩, h4⟩, h5⟩, h6⟩, h7⟩ := h
  have h1 := of_decide_eq_true h1
  subst h1
  have h4 := of_decide_eq_true h4
  have hst := chkEs_star h7
  have hlen := chkEs_len h7
  rw [evE] at p
  cases xs with
  | nil =>
    have he : es = [] := List.eq_nil_of_length_eq_zero (by rw [← hlen]; rfl)
    subst he
    simp at h3
  | cons y ys =>
    have core : ∀ (id : String), m ≠ .tcount → (∀ {F H H1 : Hp} {x v : V} {xs : List D} {d : D} {mm : Md} {S : Sr} {Q : VK}, VR X.K G.sa mm H1 F H x (.lst xs) → DR X.K G.sa F v d → Ex F H → SrcR G.sa F H S →
          Post X.K G (fun c d H' => W c d σ H') F H (methD m (.lst xs) [d] S) Q → WM X id x [v] H Q) →
        WE X o' σ H (fun x H1 => tyV X.K "list" x H1 ∧ WA X (y :: ys) σ H1 (fun xs H2 => WM X id x xs H2 Q)) := by
      intro id hmm hid
      refine ho X W osc _ C h6 σ H F env S _ sr e s (p.bind.mono ?_ fun _ _ _ z => z)
      rintro v1 H1 ⟨m1, d1, S1, F1, g1, s1, w1, p1⟩
      cases d1 with
      | lst zs =>
        have p0 : Post X.K G (fun c d H' => W c d σ H') F1 H1 (if m = .tcount then .bad else (evEs G.T G.cl es env S1).b fun ds S => methD m (.lst zs) ds S) Q := p1
        rw [if_neg hmm] at p0
        replace p1 := p0
        obtain ⟨a, us, rfl, q1, r1⟩ := w1.lst g1.fh
        refine ⟨.inl ⟨rfl, us, SqL.of q1⟩, hs X W osc _ C h7 σ H1 F1 env S1 _ (sr.mono g1) g1.fh s1 ?_⟩
        cases hE : evEs G.T G.cl es env S1 with
        | bad => rw [hE] at p1; exact p1
        | exc x S2 => rw [hE] at p1; exact p1
        | ok ds S2 =>
          rw [hE] at p1
          intro vs F2 H2 g2 s2 r2
          have p2 := Post.next p1 g2
          have one : (∃ d, ds = [d]) ∨ methD m (.lst zs) ds S2 = .bad := by
            rcases ds with _ | ⟨d, _ | _⟩
            · right; cases m <;> rfl
            · exact .inl ⟨d, rfl⟩
            · right; cases m <;> rfl
          rcases one with ⟨d, rfl⟩ | hb
          · cases r2 with
            | cons h8 h9 =>
              cases h9
              exact hid (w1.mono g2) h8 g2.fh s2 p2
          · have p3 : Post X.K G (fun c d H' => W c d σ H') F2 H2 (methD m (.lst zs) ds S2) Q := p2
            rw [hb] at p3
            exact p3.elim
      | row zs =>
        have p2 : Post X.K G (fun c d H' => W c d σ H') F1 H1 (if m = .tcount then (evEs G.T G.cl es env S1).b fun ds S => methD m (.row zs) ds S else .bad) Q := p1
        rw [if_neg hmm] at p2
        exact p2.elim
      | _ => exact p1.elim
    have few : ((backTo pos (starEach (y :: ys) X.env)).all (fun x => !x.1) && (backToKw pos (keywordEach [] X.env)).all (fun x => x.1.isSome)
      && decide ((y :: ys).length + ([] : List Keyword).length + (if ([] : List Keyword).isEmpty then 0 else 1) < 30)) = true := by
      rw [star_all pos X.env hst, noKw_all]
      simp only [Bool.true_and, decide_eq_true_eq]
      simp only [List.length_nil, List.isEmpty_nil, if_true]
      omega
    cases m with
    | index =>
      refine .of (pe_bm PySem.F.plainAttrs_list PySem.F.slot_list_index PySem.F.type_list_index wm we wa (base_of h5 _ _) few h2 (star_cons (hst y List.mem_cons_self) _ _) (star_plain _ _ fun z hz => hst z (List.mem_cons_of_mem _ hz))) (core "list.index" (by decide) ?_)
      intro F H H1 x v xs d mm S Q w r e s p
      simp only [methD] at p
      cases hk : idxD d xs with
      | none => rw [hk] at p; exact p.elim
      | some i => rw [hk] at p; exact sIndex (m2 := .fz) C.units w r e s hk p
    | count =>
      refine .of (pe_bm PySem.F.plainAttrs_list PySem.F.slot_list_count PySem.F.type_list_count wm we wa (base_of h5 _ _) few h2 (star_cons (hst y List.mem_cons_self) _ _) (star_plain _ _ fun z hz => hst z (List.mem_cons_of_mem _ hz))) (core "list.count" (by decide) ?_)
      intro F H H1 x v xs d mm S Q w r e s p
      simp only [methD] at p
      cases hk : cntD d xs with
      | none => rw [hk] at p; exact p.elim
      | some i => rw [hk] at p; exact sCount (m2 := .fz) C.units w r e s hk p
    | tcount =>
      refine .of (pe_rowcount we wa (base_of h5 _ _) few h2 (star_cons (hst y List.mem_cons_self) _ _) (star_plain _ _ fun z hz => hst z (List.mem_cons_of_mem _ hz))) ?_
      refine ho X W osc _ C h6 σ H F env S _ sr e s (p.bind.mono ?_ fun _ _ _ z => z)
      rintro v1 H1 ⟨m1, d1, S1, F1, g1, s1, w1, p1⟩
      cases d1 with
      | row zs =>
        have p2 : Post X.K G (fun c d H' => W c d σ H') F1 H1 (if Mf.tcount = .tcount then (evEs G.T G.cl es env S1).b fun ds S => methD .tcount (.row zs) ds S else .bad) Q := p1
        rw [if_pos rfl] at p2
        have row : ∃ a us ob, v1 = V.ref a ∧ H1 a = some (.frz ob (.tup us)) ∧ ob.cls = .type "tuple" ∧ ob.dict = none := by
          cases m1 with
          | fz => cases w1 with | row h c d r => exact ⟨_, _, _, rfl, g1.fh _ _ h, c, d⟩
          | fr => obtain ⟨_, _, _, _, _, _, o⟩ := w1; exact o.elim
          | br => obtain ⟨_, _, _, _, _, o⟩ := w1; exact o.elim
        refine ⟨row, hs X W osc _ C h7 σ H1 F1 env S1 _ (sr.mono g1) g1.fh s1 ?_⟩
        cases hE : evEs G.T G.cl es env S1 with
        | bad => rw [hE] at p2; exact p2
        | exc x S2 => rw [hE] at p2; exact p2
        | ok ds S2 =>
          rw [hE] at p2
          intro vs F2 H2 g2 s2 r2
          have p3 : Post X.K G (fun c d H' => W c d σ H') F2 H2 (methD .tcount (.row zs) ds S2) Q := Post.next p2 g2
          rcases ds with _ | ⟨d, _ | _⟩
          · exact p3.elim
          · cases r2 with
            | cons h8 h9 =>
              cases h9
              simp only [methD] at p3
              cases hk : cntD d zs with
              | none => rw [hk] at p3; exact p3.elim
              | some i => rw [hk] at p3; exact sCountT C.units (w1.mono g2) h8 g2.fh s2 hk p3
          · exact p3.elim
      | lst zs =>
        have p2 : Post X.K G (fun c d H' => W c d σ H') F1 H1 (if Mf.tcount = .tcount then .bad else (evEs G.T G.cl es env S1).b fun ds S => methD .tcount (.lst zs) ds S) Q := p1
        rw [if_pos rfl] at p2
        exact p2.elim
      | _ => exact p1.elim
end
end Mp
set_option Elab.async false
set_option maxRecDepth 100000
set_option maxHeartbeats 4000000
/-! Mp11: enumerate of a tuple. -/
namespace Mp
open PySem L2 Evl PySem.Spec PyProof.Rows

theorem enumNewT {tA : Addr} {its : Array Value} :
    PySem.Meets (Builtin.«enumerate.__new__» ⟨[.type "enumerate", .ref tA], []⟩) (fun _ R s => s.heap.IsTuple tA its ∧
      R (.ok (.ret (.ref (s.heap.push { cls := .type "tuple_iterator", data := .fields #[.ref tA, .int 0 0] }).objs.size)))
        { s with heap := (s.heap.push { cls := .type "tuple_iterator", data := .fields #[.ref tA, .int 0 0] }).push { cls := .type "enumerate", data := .fields #[.none, .bool false, .ref s.heap.objs.size, rawInt 0, .none, .none] } }) :=
  .of_wp fun prog w A R s hh => by
    obtain ⟨hp, gg, dd, tt, os⟩ := s
    obtain ⟨hT, hR⟩ := hh
    have hsub := PySem.sub_enumerate
    have q1 : ∀ {A' : Around} {E : Value → Shared → Prop} {Q : Value → Shared → Prop}, Q (.ref hp.objs.size) ⟨hp.push { cls := .type "tuple_iterator", data := .fields #[.ref tA, .int 0 0] }, gg, dd, tt, os⟩ →
        wpAny (model prog w) A' (pyIter (.ref tA)) Q E ⟨hp, gg, dd, tt, os⟩ := fun q => PySem.wpAny_pyIter_tuple hT q
    wp_walk using q1
    refine wpAny_stack_any fun st => wpAny_pure ?_
    split
    · rename_i cc _ _ _ _ _
      cases (cc == Value.type "enumerate")
      · wp_walk using q1
        exact ⟨_, rfl, hR⟩
      · wp_walk using q1
        exact ⟨_, rfl, hR⟩
    · wp_walk using q1
      exact ⟨_, rfl, hR⟩
/-- enumerate(t): each item of the tuple at a, in a new pair -/
def IteT (K : PySem.W.Frag) (a : Addr) : L2.It where
  go := fun i H => ∃ xs x, SqT K H a xs ∧ xs[i]? = some x
  yld := fun i H v H' => ∃ T x, v = .ref T ∧ H T = none ∧ H' = upd H T (.tup [.int (i : Nat), x]) ∧ ∀ xs, SqT K H a xs → xs[i]? = some x
  stop := fun i H => ∃ xs : List V, SqT K H a xs ∧ xs.length = i
theorem walkEnumT {K : PySem.W.Frag} {a : Addr} {xs : List V} : Walk (IteT K a) xs.length (fun H => SqT K H a xs) (YPair (fun i => some (.int (i : Nat))) (fun i => xs[i]?)) where
  goes := fun i H hi h => ⟨xs, xs[i], h, List.getElem?_eq_getElem hi⟩
  stops := fun H h => ⟨xs, h, rfl⟩
  yields := fun i H v H' hi h y => by
    obtain ⟨T, x, h1, h2, h3, h4⟩ := y
    exact ⟨T, _, x, h1, h2, h3, rfl, h4 xs h⟩
theorem turnEnumT {P : Program} {w : World} {K : PySem.W.Frag} {elts : List Expr} {kk : Nat} {tpos : Pos} (a e it : Addr) :
    Turn P w K (.Tuple elts kk tpos) (IteT K a) [e, it] e (fun i h => (∃ old, IsEnum h e it ((i : Nat) : Int) old) ∧ h.IsTupleIter it a i ∧ e ≠ it) where
  mem := List.mem_cons_self
  obj := fun i h st b hb => by
    obtain ⟨⟨old, he⟩, ⟨oi, hoi, hci, hdi⟩, hne⟩ := st
    rcases List.mem_cons.mp hb with rfl | hb
    · exact ⟨_, he, fun v q => nomatch q⟩
    · obtain rfl := List.mem_singleton.mp hb
      exact ⟨oi, hoi, fun v q => by rw [hdi] at q; cases q⟩
  keep := fun i h h' st kk' => by
    obtain ⟨⟨old, he⟩, hi, hne⟩ := st
    exact ⟨⟨old, kk' e List.mem_cons_self _ he⟩, hi.at fun o q => kk' it (List.mem_cons_of_mem _ List.mem_cons_self) o q, hne⟩
  item := by
    intro X hP hw hK hc i pins s σ H E I hf st hg
    subst hP; subst hw; subst hK
    obtain ⟨⟨old, he⟩, hit, hne⟩ := st
    obtain ⟨xs, x, hq, hx⟩ := hg
    obtain ⟨its, rv, pt, hz⟩ := I.tuple hq
    obtain ⟨u, hu, ru⟩ := rv.get hx
    have hi : i < its.length := (List.getElem?_eq_some_iff.mp hu).1
    have hel : e < s.heap.objs.size := Heap.lt_size he
    have hil : it < s.heap.objs.size := by
      obtain ⟨_, q, _⟩ := hit
      exact Heap.lt_size q
    have hea : e ≠ a := by
      rintro rfl
      obtain ⟨o, h1, h2, _⟩ := pt
      rw [show s.heap.get? e = some _ from he] at h1
      cases h1
      injection h2 with h2
      exact absurd h2 (by decide)
    have hia : a ≠ it := by
      rintro rfl
      obtain ⟨o, h1, h2, _⟩ := pt
      obtain ⟨o', h3, h4, _⟩ := hit
      rw [h1] at h3
      cases h3
      rw [h2] at h4
      injection h4 with h4
      exact absurd h4 (by decide)
    have DT := PySem.Draws.tuple (prog := X.prog) (w := X.w) (A := X.A.in1) (I.ok.hd hc) it a hia its.toArray
    refine PySem.wpAny_pyNext_enum_itemD DT he ⟨hit, pt⟩ (by simpa using hi) hne (by simp [hne, hea]) fun y h' tk hy ho hst hT hsz hk => ?_
    have hyu : y = u := by
      have q : its.toArray[i]? = some y := hy
      rw [List.getElem?_toArray, hu] at q
      exact (Option.some.inj q).symm
    subst hyu
    refine ⟨_, rfl, PySem.wpAny_letOwnedTupleGo_enum (s := { s with heap := h', toks := tk + 1 }) ho fun h2 he2 sb => ?_⟩
    have hT2 : h2.get? s.heap.objs.size = some { cls := .type "tuple", data := .seq #[.int i tk, y] } := (sb.2 _ (Nat.ne_of_gt hel)).trans hT
    have new : ObjOk X.prog X.w (upd H s.heap.objs.size (.tup [.int (i : Nat), x])) h2 s.heap.objs.size (.tup [.int (i : Nat), x]) :=
      ⟨by show 2 ≤ sizeLine; decide, [.int i tk, y], .cons ⟨_, rfl⟩ (.cons ru .nil), ⟨_, hT2, rfl, _, rfl⟩⟩
    have J : Inv X pins σ (upd H s.heap.objs.size (.tup [.int (i : Nat), x])) { s with heap := h2, toks := tk + 1 } := by
      refine I.turnedNew (ch := [e, it]) (fun b ob hb q => ?_) hf (Nat.le_refl _) new
      have hb1 : b ≠ e := fun z => hb (by rw [z]; exact List.mem_cons_self)
      have hb2 : b ≠ it := fun z => hb (by rw [z]; exact List.mem_cons_of_mem _ List.mem_cons_self)
      exact (sb.2 b hb1).trans (hk b ob hb1 hb2 q)
    refine ⟨.ref s.heap.objs.size, _, J, rfl, ⟨_, x, rfl, I.hok.fresh (Nat.le_refl _), rfl, fun ys hy => ?_⟩, ⟨⟨y, ?_⟩, hst.1.at fun o q => (sb.2 it (Ne.symm hne)).trans q, hne⟩, fun b hb => ?_⟩
    · rw [I.tuple_inj hy hq]
      exact hx
    · rw [show ((i + 1 : Nat) : Int) = (i : Int) + 1 from by omega]
      exact he2
    · have hb' : b < s.heap.objs.size := by
        rcases List.mem_cons.mp hb with rfl | hb
        · exact hel
        · rw [List.mem_singleton.mp hb]
          exact hil
      rw [upd_ne (Nat.ne_of_lt hb')]
      exact (hf b hb).1
  done := by
    intro X hP hw hK hc i pins s σ H E I hf st hg
    subst hP; subst hw; subst hK
    obtain ⟨⟨old, he⟩, hit, hne⟩ := st
    obtain ⟨xs, hq, hx⟩ := hg
    obtain ⟨its, rv, pt, hz⟩ := I.tuple hq
    obtain ⟨f0, f1, f2, f3, f4, f5⟩ := hf it (List.mem_cons_of_mem _ List.mem_cons_self)
    have hl := rv.length
    have hia : a ≠ it := by
      rintro rfl
      obtain ⟨o, h1, h2, _⟩ := pt
      obtain ⟨o', h3, h4, _⟩ := hit
      rw [h1] at h3
      cases h3
      rw [h2] at h4
      injection h4 with h4
      exact absurd h4 (by decide)
    have hsz : its.toArray.size = i := by rw [List.size_toArray, ← hl, hx]
    have DT := PySem.Draws.tuple (prog := X.prog) (w := X.w) (A := X.A.in1) (I.ok.hd hc) it a hia its.toArray
    refine PySem.wpAny_pyNext_enum_endD DT he ⟨by rw [hsz]; exact hit, pt⟩ fun h' eb => ⟨rfl, ?_⟩
    exact I.turned (t' := s.toks) (fun b o hb q => eb b o hb q) f0 f1 f3 f4 f5
  self := fun A i s Q E st h => by
    obtain ⟨⟨old, he⟩, _⟩ := st
    exact wpAny_pyIter_enum he h
def iEnumT (K : PySem.W.Frag) (ta : TA) : TI := fun σ H R => ta σ H fun vs H1 => ∃ a xs, vs = [.ref a] ∧ SqT K H1 a xs ∧ R (IteT K a) H1
theorem piEnumT {X : Cx} {e : Expr} {ta : TA} {p pos tpos : Pos} {elts : List Expr} {kk : Nat} (hg : Gl X "enumerate") (hm : X.mg "enumerate" = none) (ha : PA X [e] ta) (hs : starEach [e] X.env = [(false, eval e X.env)]) :
    PI X (.Tuple elts kk tpos) (.Call (.Name "enumerate" p) [e] [] pos) (iEnumT X.K ta) := by
  refine ⟨fun pins s σ H R I h => ?_⟩
  refine Call_ (ld_blt I hg hm boot_enumerate (PyProof.Rows.callWith_type1 (thn (ha.run pos pins s σ H _ I h) fun us s1 q0 => ?_) hs rfl))
  obtain ⟨vs, H1, I1, r1, a, xs, ex, hq, q⟩ := q0
  subst ex
  obtain ⟨u, rfl, ru⟩ := vals1 r1
  cases ru
  obtain ⟨its, rv, pt, hz⟩ := I1.tuple hq
  refine PySem.callType_new PySem.F.called_enumerate (by decide) (PySem.F.typeCall_enumerate_1 _) (PySem.F.newCall_enumerate_1 _) (fun obj => PySem.F.args_object_init_2 obj _) PySem.F.entry_enumerate_new (enumNewT (tA := a) (its := its.toArray)) ⟨pt, ?_⟩
  have sz : (s1.heap.push { cls := .type "tuple_iterator", data := .fields #[.ref a, .int 0 0] }).objs.size = s1.heap.objs.size + 1 := Heap.size_push ..
  show _ ∧ _
  rw [sz]
  have he : IsEnum ((s1.heap.push { cls := .type "tuple_iterator", data := .fields #[.ref a, .int 0 0] }).push
      { cls := .type "enumerate", data := .fields #[.none, .bool false, .ref s1.heap.objs.size, rawInt 0, .none, .none] }) (s1.heap.objs.size + 1) s1.heap.objs.size 0 .none := by
    have q := Heap.get?_push_size (s1.heap.push { cls := .type "tuple_iterator", data := .fields #[.ref a, .int 0 0] })
      (o := { cls := .type "enumerate", data := .fields #[.none, .bool false, .ref s1.heap.objs.size, rawInt 0, .none, .none] }) rfl
    rw [sz] at q
    exact q
  have kp : ∀ b o, s1.heap.get? b = some o → ((s1.heap.push { cls := .type "tuple_iterator", data := .fields #[.ref a, .int 0 0] }).push
      { cls := .type "enumerate", data := .fields #[.none, .bool false, .ref s1.heap.objs.size, rawInt 0, .none, .none] }).get? b = some o := fun b o x => Heap.get?_push_of_some _ (Heap.get?_push_of_some _ x)
  refine ⟨⟨_, he, rfl⟩, wpAny_pyIter_enum he ?_⟩
  have I2 := I1.kept (t' := s1.toks) kp
  refine ⟨s1.heap.objs.size + 1, [s1.heap.objs.size + 1, s1.heap.objs.size], _, _, H1, rfl, I2, turnEnumT a (s1.heap.objs.size + 1) s1.heap.objs.size, ⟨⟨.none, he⟩, ⟨_, Heap.get?_push_of_some _ (Heap.get?_push_size _ rfl), rfl, rfl⟩, Nat.succ_ne_self _⟩, fun b hb => ?_, q⟩
  have hle : s1.heap.objs.size ≤ b := by
    rcases List.mem_cons.mp hb with rfl | hb
    · exact Nat.le_succ _
    · rw [List.mem_singleton.mp hb]
      exact Nat.le_refl _
  exact I1.fpOk hle (I1.hok.fresh hle)
end Mp
set_option Elab.async false
set_option maxRecDepth 100000
set_option maxHeartbeats 4000000
/-! Mp12: what is walked; comprehensions. -/
namespace Mp
open PySem L2 Evl
section
variable {K : PySem.W.Frag} {G : Gd} {W : XK} {F H : Hp} {Q : VK}
theorem Post.bind0 {r : R} {k : Md → D → Sr → R} (p : Post K G W F H (r.b k) Q) :
    Post K G W F H r (fun v H' => ∃ m d S' F', Gr G.sa F H F' H' ∧ SrcR G.sa F' H' S' ∧ VR K G.sa m H F' H' v d ∧ Post K G W F H (k m d S') Q) := by
  cases r with
  | ok m d S => exact fun v F' H' g s w => ⟨m, d, S, F', g, s, w, p⟩
  | exc x S => exact p
  | bad => exact p
end
section
variable {K : PySem.W.Frag} {sa : Sa} {F H F' H' : Hp} {v : V} {ds : List D} {m : Md} {S : Sr}
theorem VR.walkL (w : VR K sa m H F' H' v (.lst ds)) (g : Gr sa F H F' H') (s : SrcR sa F' H' S) :
    ∃ F'' a xs, v = .ref a ∧ Gr sa F H F'' H' ∧ SrcR sa F'' H' S ∧ H' a = some (.lst xs) ∧ a ≠ sa.s1 ∧ a ≠ sa.s2 ∧ ((m == .br) = false → F'' a = some (.lst xs)) ∧ DRs K sa F'' xs ds := by
  cases m with
  | br =>
    obtain ⟨a, e1, f, n1, n2, xs, h, r⟩ := w
    exact ⟨F', a, xs, e1, g, s, h, n1, n2, (fun z => absurd z (by decide)), r⟩
  | fz =>
    obtain ⟨F'', g2, e2, s2, r2⟩ := w.frozen (by decide) g s
    cases r2 with
    | lst h r =>
      refine ⟨F'', _, _, rfl, g2, s2, g2.fh _ _ h, ?_, ?_, (fun _ => h), r⟩
      · intro z
        rw [z, s2.f1] at h
        cases h
      · intro z
        rw [z, s2.f2] at h
        cases h
  | fr =>
    obtain ⟨F'', g2, e2, s2, r2⟩ := w.frozen (by decide) g s
    cases r2 with
    | lst h r =>
      refine ⟨F'', _, _, rfl, g2, s2, g2.fh _ _ h, ?_, ?_, (fun _ => h), r⟩
      · intro z
        rw [z, s2.f1] at h
        cases h
      · intro z
        rw [z, s2.f2] at h
        cases h
theorem WalkD.enumT {br : Bool} {a : Addr} {xs : List V} (h : SqT K F a xs) (e0 : Ex F H) (r : DRs K sa F xs ds) : WalkD K sa br F H (IteT K a) (enumD ds) := by
  refine ⟨_, _, by rw [enumD_len, ← r.length]; exact walkEnumT (K := K) (a := a) (xs := xs), fun F2 H2 g => ex_t (g.ff.trans g.fh) h, fun _ F2 H2 e1 e2 => ex_t (e1.trans e2) h, fun i F2 H2 x H3 e1 e2 _ y => ?_⟩
  obtain ⟨p, v, u, rfl, hn, rfl, hv, hu⟩ := y
  cases hv
  obtain ⟨d, hd, q⟩ := r.getV hu
  refine ⟨_, _, enumD_at hd, Gr.newF e2 hn, fun S s => ?_, .tup (Or.inl (Or.inl upd_same)) (.cons (.int _) (.cons ((q.mono e1).mono (Ex.new (fresh_back e2 hn))) .nil))⟩
  exact (s.new hn).fz (fun z => by rw [z] at hn; exact s.n1 hn) (fun z => by rw [z] at hn; exact s.n2 hn)
end
section
variable {n : Nat} {G : Gd}
theorem si_ov {a : Xp} (ha : SE n G a) : SI n G (.ov a) := by
  intro X W osc x tg C h σ H F env S R sr e s p
  simp only [chkI] at h
  rw [evI] at p
  cases hE : evE G.T G.cl a env S with
  | bad => rw [hE] at p; exact p.elim
  | exc y S1 =>
    refine .of (pi_list weI) (ha X W osc _ C h σ H F env S _ sr e s ?_)
    rw [hE]
    rw [hE] at p
    exact p
  | ok m d S1 =>
    rw [hE] at p
    cases d with
    | lst ds =>
      refine .of (pi_list weI) (ha X W osc _ C h σ H F env S _ sr e s ?_)
      rw [hE]
      intro v F1 H1 g1 s1 w1 hB
      obtain ⟨F2, b, xs, rfl, g2, s2, h2, n1, n2, hb, r2⟩ := w1.walkL g1 s1
      exact ⟨b, rfl, ⟨xs, SqL.of h2⟩, p _ F2 H1 g2 (by rw [← r2.length]; exact hB.1 _ _ (SqL.of h2)) s2 (WalkD.list h2 n1 n2 hb r2)⟩
    | tup ds =>
      refine .of (pi_tup weI) (ha X W osc _ C h σ H F env S _ sr e s ?_)
      rw [hE]
      intro v F1 H1 g1 s1 w1 hB
      obtain ⟨b, xs, rfl, h2, r2⟩ := w1.tup
      exact ⟨b, rfl, ⟨xs, ex_t g1.fh h2⟩, p _ F1 H1 g1 (by rw [← r2.length]; exact hB.2 _ _ (ex_t g1.fh h2)) s1 (WalkD.tup h2 g1.fh r2)⟩
    | _ => exact p.elim
theorem si_rg {a : Xp} (ha : SE n G a) : SI n G (.rg a) := by
  intro X W osc x tg C h σ H F env S R sr e s p
  rw [chkI] at h
  cases hc : call1 x with
  | none => rw [hc] at h; cases h
  | some t =>
  obtain ⟨nm, y⟩ := t
  rw [hc] at h
  obtain ⟨np, pos, rfl⟩ := call1_eq hc
  simp only [Bool.and_eq_true] at h
  obtain ⟨⟨⟨h1, h2⟩, h3⟩, h4⟩ := h
  have h1 := of_decide_eq_true h1
  subst h1
  obtain ⟨g1, g2⟩ := gl_of (X := X) h2
  rw [evI] at p
  refine .of (pi_range1 g1 (C.blt _ (by decide +kernel)) (pa_cons we pa_nil (star_cons h3 _ _)) (star_cons h3 _ _)) ?_
  refine ha X W osc _ C h4 σ H F env S _ sr e s (p.bind0.mono ?_ fun _ _ _ z => z)
  rintro v1 H1 ⟨m1, d1, S1, F1, g1, s1, w1, p1⟩
  cases d1 with
  | int i =>
    obtain ⟨rfl, _⟩ := w1.int
    have p2 : PostI X.K G (fun c d H' => W c d σ H') F H (if -1000000 ≤ i ∧ i ≤ 1000000 then .ok false (rangeD 0 i) S1 else .bad) R := p1
    split at p2
    · rename_i hi
      have q : WalkD X.K G.sa false F1 H1 (Itr 0 (i - 0).toNat) (rangeD 0 i) := WalkD.range
      rw [Int.sub_zero] at q
      exact ⟨i, rfl, by omega, by omega, p2 _ F1 H1 g1 (by rw [rangeD_len]; exact Nat.le_trans (m := 1000000) (by omega) (by decide)) s1 q⟩
    · exact p2.elim
  | _ => exact p1.elim
theorem si_rg2 {a b : Xp} (ha : SE n G a) (hb : SE n G b) : SI n G (.rg2 a b) := by
  intro X W osc x tg C h σ H F env S R sr e s p
  rw [chkI] at h
  cases hc : call2 x with
  | none => rw [hc] at h; cases h
  | some t =>
  obtain ⟨nm, y, z⟩ := t
  rw [hc] at h
  obtain ⟨np, pos, rfl⟩ := call2_eq hc
  simp only [Bool.and_eq_true] at h
  obtain ⟨⟨⟨⟨⟨h1, h2⟩, h3⟩, h3'⟩, h4⟩, h5⟩ := h
  have h1 := of_decide_eq_true h1
  subst h1
  obtain ⟨g1, g2⟩ := gl_of (X := X) h2
  rw [evI] at p
  refine .of (pi_range2 g1 (C.blt _ (by decide +kernel)) (pa_cons we (pa_cons we pa_nil (star_cons h3' _ _)) (star_cons h3 _ _)) (by rw [star_cons h3, star_cons h3']; rfl) (star_cons h3' _ _)) ?_
  refine ha X W osc _ C h4 σ H F env S _ sr e s (p.bind0.mono ?_ fun _ _ _ z => z)
  rintro v1 H1 ⟨m1, d1, S1, F1, g1, s1, w1, p1⟩
  refine hb X W osc _ C h5 σ H1 F1 env S1 _ (sr.mono g1) g1.fh s1 ((p1.next g1).bind0.mono ?_ fun _ _ _ z => z)
  rintro v2 H2 ⟨m2, d2, S2, F2, g2, s2, w2, p2⟩
  cases d1 with
  | int i =>
    cases d2 with
    | int j =>
      obtain ⟨rfl, _⟩ := w1.int
      obtain ⟨rfl, _⟩ := w2.int
      have p3 : PostI X.K G (fun c d H' => W c d σ H') F1 H1 (if -1000000 ≤ i ∧ i ≤ 1000000 ∧ -1000000 ≤ j ∧ j ≤ 1000000 then .ok false (rangeD i j) S2 else .bad) R := p2
      split at p3
      · rename_i hi
        exact ⟨i, j, rfl, ⟨by omega, by omega, by omega, by omega⟩, p3 _ F2 H2 g2 (by rw [rangeD_len]; exact Nat.le_trans (m := 2000000) (by omega) (by decide)) s2 WalkD.range⟩
      · exact p3.elim
    | _ => exact p2.elim
  | _ => exact p2.elim
theorem si_enum {a : Xp} (ha : SE n G a) : SI n G (.enum a) := by
  intro X W osc x tg C h σ H F env S R sr e s p
  rw [chkI] at h
  cases hc : call1 x with
  | none => rw [hc] at h; cases h
  | some t =>
  obtain ⟨nm, y⟩ := t
  rw [hc] at h
  obtain ⟨np, pos, rfl⟩ := call1_eq hc
  simp only [Bool.and_eq_true] at h
  obtain ⟨⟨⟨⟨h0, h1⟩, h2⟩, h3⟩, h4⟩ := h
  obtain ⟨es, kk, tp, rfl⟩ := isTup_eq h0
  have h1 := of_decide_eq_true h1
  subst h1
  obtain ⟨g1, g2⟩ := gl_of (X := X) h2
  rw [evI] at p
  have hm := C.blt "enumerate" (by decide +kernel)
  cases hE : evE G.T G.cl a env S with
  | bad => rw [hE] at p; exact p.elim
  | exc y S1 =>
    refine .of (pi_enum g1 hm (pa_cons weI pa_nil (star_cons h3 _ _)) (star_cons h3 _ _)) (ha X W osc _ C h4 σ H F env S _ sr e s ?_)
    rw [hE]
    rw [hE] at p
    exact p
  | ok m d S1 =>
    rw [hE] at p
    cases d with
    | lst ds =>
      refine .of (pi_enum g1 hm (pa_cons weI pa_nil (star_cons h3 _ _)) (star_cons h3 _ _)) (ha X W osc _ C h4 σ H F env S _ sr e s ?_)
      rw [hE]
      intro v F1 H1 g1 s1 w1 hB
      obtain ⟨F2, b, xs, rfl, g2, s2, h2, n1, n2, hb, r2⟩ := w1.walkL g1 s1
      exact ⟨b, xs, rfl, SqL.of h2, p _ F2 H1 g2 (by rw [enumD_len, ← r2.length]; exact hB.1 _ _ (SqL.of h2)) s2 (WalkD.enumL h2 n1 n2 hb r2)⟩
    | tup ds =>
      refine .of (piEnumT g1 hm (pa_cons weI pa_nil (star_cons h3 _ _)) (star_cons h3 _ _)) (ha X W osc _ C h4 σ H F env S _ sr e s ?_)
      rw [hE]
      intro v F1 H1 g1 s1 w1 hB
      obtain ⟨b, xs, rfl, h2, r2⟩ := w1.tup
      exact ⟨b, xs, rfl, ex_t g1.fh h2, p _ F1 H1 g1 (by rw [enumD_len, ← r2.length]; exact hB.2 _ _ (ex_t g1.fh h2)) s1 (WalkD.enumT h2 g1.fh r2)⟩
    | _ => exact p.elim
end
end Mp
set_option Elab.async false
set_option maxRecDepth 100000
set_option maxHeartbeats 4000000
/-! Mp13: comprehensions of one clause. -/
namespace Mp
open PySem L2 Evl
section
variable {sa : Sa} {F H F' H' : Hp}
/-- what is new since H and not frozen may change -/
theorem Gr.mut (g : Gr sa F H F' H') {p : Addr} {o : HO} (n : H p = none) (f : F' p = none) : Gr sa F H F' (upd H' p o) :=
  ⟨g.ff, fun a u e => by rw [upd_ne (fun z => by rw [z, f] at e; cases e)]; exact g.fh a u e, fun a u e h1 h2 => by rw [upd_ne (ne_of_none e n)]; exact g.hh a u e h1 h2, g.nw,
    fun h => by
      by_cases q : sa.s1 = p
      · rw [q, upd_same]; exact fun z => nomatch z
      · rw [upd_ne q]; exact g.s1 h,
    fun h => by
      by_cases q : sa.s2 = p
      · rw [q, upd_same]; exact fun z => nomatch z
      · rw [upd_ne q]; exact g.s2 h⟩
theorem SrcR.mut {S : Sr} (s : SrcR sa F H S) {p : Addr} {o : HO} (n1 : p ≠ sa.s1) (n2 : p ≠ sa.s2) : SrcR sa F (upd H p o) S :=
  ⟨s.f1, s.f2, s.ne, by rw [upd_ne n1.symm]; exact s.h1, by rw [upd_ne n2.symm]; exact s.h2⟩
end
section
variable {K : PySem.W.Frag} {sa : Sa} {F1 H1 : Hp} {J : L2.It} {ds tot : List D} {S1 S2 : Sr} {br : Bool} {D : Addr} {g : TG} {tt : TT} {te : TE} {own : List Nat} {σ : L2.St} {Qd : Hp → Prop}
  {turn : Mp.D → Sr → Option (Option Mp.D × Sr)}
/-- one turn's reading -/
def TurnR (K : PySem.W.Frag) (sa : Sa) (F1 H1 : Hp) (g : TG) (tt : TT) (te : TE) (own : List Nat) (σ : L2.St) (turn : Mp.D → Sr → Option (Option Mp.D × Sr)) : Prop :=
  ∀ d S o S', turn d S = some (o, S') → ∀ F H x, Gr sa F1 H1 F H → SrcR sa F H S → DR K sa F x d → ∀ (C1 : V → Hp → Prop) (C0 : Hp → Prop),
    (∀ z, o = some z → ∀ y F4 H4, Gr sa F H F4 H4 → SrcR sa F4 H4 S' → DR K sa F4 y z → C1 y H4) → (o = none → ∀ F4 H4, Gr sa F H F4 H4 → SrcR sa F4 H4 S' → C0 H4) →
    g x (wipe σ own) H fun σ2 H2 => wipe σ2 own = wipe σ own ∧ tt σ2 H2 fun b H3 => if b = true then te σ2 H3 C1 else C0 H3
theorem drop_cons {α : Type} {l : List α} {i : Nat} {d : α} (h : l[i]? = some d) : l.drop i = d :: l.drop (i + 1) := by
  obtain ⟨hi, rfl⟩ := List.getElem?_eq_some_iff.mp h
  exact List.drop_eq_getElem_cons hi
theorem comp_lc (hw : WalkD K sa br F1 H1 J ds) (hz : ds.length ≤ sizeLine) (e1 : Evl.Ex F1 H1) (s1 : SrcR sa F1 H1 S1) (hD : H1 D = none) (htot : compL turn ds S1 = some (tot, S2)) (ht : TurnR K sa F1 H1 g tt te own σ turn)
    (hd : ∀ F H xs, Gr sa F1 H1 F H → SrcR sa F H S2 → F D = none → H D = some (.lst xs) → DRs K sa F xs tot → xs.length ≤ sizeLine → Qd H) :
    ∃ W : Nat → Nat → Hp → Prop, (∃ m, W 0 m (upd H1 D (.lst []))) ∧ ∀ i m H, W i m H →
      (J.stop i H ∧ Qd H) ∨ (J.go i H ∧ ∃ Nx : Hp → Prop, (∀ H', Nx H' → ∃ m', m' < m ∧ W (i + 1) m' H') ∧ ∀ x H', J.yld i H x H' → g x (wipe σ own) H' fun σ2 H2 => wipe σ2 own = wipe σ own ∧ tt σ2 H2 fun b H3 =>
        if b = true then te σ2 H3 fun y H4 => ∃ acc, H4 D = some (.lst acc) ∧ acc.length < sizeLine ∧ Nx (upd H4 D (.lst (acc ++ [y]))) else Nx H3) := by
  obtain ⟨GG, Y, hW, hG1, _, hY⟩ := hw.ex
  have nD1 : D ≠ sa.s1 := fun z => s1.n1 (by rw [← z]; exact hD)
  have nD2 : D ≠ sa.s2 := fun z => s1.n2 (by rw [← z]; exact hD)
  let Pv : Nat → Hp → Prop := fun i H => ∃ F acc da Si rest, Gr sa F1 H1 F H ∧ SrcR sa F H Si ∧ F D = none ∧ H D = some (.lst acc) ∧ DRs K sa F acc da ∧ acc.length ≤ i ∧ i ≤ ds.length ∧ compL turn (ds.drop i) Si = some (rest, S2) ∧ da ++ rest = tot
  refine lc_it hW Pv ⟨F1, [], [], S1, tot, Gr.new e1 hD, s1.new hD, fresh_back e1 hD, upd_same, .nil, Nat.le_refl _, Nat.zero_le _, htot, rfl⟩ ?_ ?_ ?_
  · rintro i H _ ⟨F, acc, da, Si, rest, gr, _⟩
    exact hG1 F H gr
  · rintro i x H H' hi ⟨F, acc, da, Si, rest, gr, sr, fD, hHD, rd, hl, _, hc, htt⟩ hy
    obtain ⟨d, F', hdi, g2, s2, rx⟩ := hY i F H x H' gr.ff gr.fh (hG1 F H gr) hy
    rw [drop_cons hdi, compL] at hc
    cases hT : turn d Si with
    | none => rw [hT] at hc; cases hc
    | some pr =>
      obtain ⟨o, S'⟩ := pr
      rw [hT] at hc
      dsimp only at hc
      cases hR : compL turn (ds.drop (i + 1)) S' with
      | none => rw [hR] at hc; cases hc
      | some pr2 =>
        obtain ⟨rest2, S3⟩ := pr2
        rw [hR] at hc
        dsimp only at hc
        have gr2 := gr.trans g2
        have keepD : ∀ {F4 H4}, Gr sa F' H' F4 H4 → F4 D = none ∧ H4 D = some (.lst acc) := fun {F4 H4} g4 => by
          have q := g2.trans g4
          exact ⟨q.nofz fD (by rw [hHD]; exact fun z => nomatch z), q.hh D _ hHD nD1 nD2⟩
        refine ht d Si o S' hT F' H' x gr2 (s2 Si sr) rx _ _ ?_ ?_
        · rintro z rfl y F4 H4 g4 s4 ry
          obtain ⟨k1, k2⟩ := keepD g4
          have hc' : some (z :: rest2, S3) = some (rest, S2) := hc
          cases hc'
          refine ⟨acc, k2, Nat.lt_of_le_of_lt hl (Nat.lt_of_lt_of_le hi hz), F4, acc ++ [y], da ++ [z], S', rest2, (gr2.trans g4).mut hD k1, s4.mut nD1 nD2, k1, upd_same, (rd.mono (g2.trans g4).ff).append (.cons ry .nil), ?_, hi, hR, ?_⟩
          · rw [List.length_append]
            show acc.length + 1 ≤ i + 1
            omega
          · rw [List.append_assoc]
            exact htt
        · rintro rfl F4 H4 g4 s4
          obtain ⟨k1, k2⟩ := keepD g4
          have hc' : some (rest2, S3) = some (rest, S2) := hc
          cases hc'
          exact ⟨F4, acc, da, S', _, gr2.trans g4, s4, k1, k2, rd.mono (g2.trans g4).ff, by omega, hi, hR, htt⟩
  · rintro H ⟨F, acc, da, Si, rest, gr, sr, fD, hHD, rd, hl, _, hc, htt⟩
    rw [List.drop_length, compL] at hc
    cases hc
    rw [List.append_nil] at htt
    subst htt
    exact hd F H acc gr sr fD hHD rd (Nat.le_trans hl hz)
end

/-! ### targets -/
theorem wipeE_len (env : Env) : ∀ vs : List Nat, (wipeE env vs).length = env.length
  | [] => rfl
  | v :: vs => by rw [wipeE, List.length_set, wipeE_len env vs]
section
variable {K : PySem.W.Frag} {sa : Sa} {F H F' H' : Hp} {env : Env} {σ : L2.St}
theorem SR.set (h : SR K sa F H env σ) {i : Nat} {v : V} {d : D} (r : DR K sa F v d) : SR K sa F H (env.set i (some (false, d))) (σ.set i (some v)) := by
  refine ⟨by rw [List.length_set, List.length_set]; exact h.1, fun j m c e => ?_⟩
  by_cases hj : i = j
  · subst hj
    by_cases hl : i < env.length
    · rw [List.getElem?_set_self hl] at e
      cases e
      exact ⟨v, List.getElem?_set_self (by rw [← h.1]; exact hl), r⟩
    · rw [List.getElem?_eq_none (by rw [List.length_set]; omega)] at e
      cases e
  · rw [List.getElem?_set_ne hj] at e
    obtain ⟨u, h1, h2⟩ := h.2 j m c e
    exact ⟨u, by rw [List.getElem?_set_ne hj]; exact h1, h2⟩
theorem SR.unset (h : SR K sa F H env σ) {i : Nat} {o : Option V} : SR K sa F H (env.set i none) (σ.set i o) := by
  refine ⟨by rw [List.length_set, List.length_set]; exact h.1, fun j m c e => ?_⟩
  by_cases hj : i = j
  · subst hj
    by_cases hl : i < env.length
    · rw [List.getElem?_set_self hl] at e
      cases e
    · rw [List.getElem?_eq_none (by rw [List.length_set]; omega)] at e
      cases e
  · rw [List.getElem?_set_ne hj] at e
    obtain ⟨u, h1, h2⟩ := h.2 j m c e
    exact ⟨u, by rw [List.getElem?_set_ne hj]; exact h1, h2⟩
theorem SR.wipe (h : SR K sa F H env σ) : ∀ vs : List Nat, SR K sa F H (wipeE env vs) (L2.wipe σ vs)
  | [] => h
  | v :: vs => by
    rw [wipeE]
    show SR K sa F H _ ((L2.wipe σ vs).set v none)
    exact (SR.wipe h vs).unset
theorem wipe_set (σ : L2.St) {i : Nat} {o : Option V} : ∀ {vs : List Nat}, i ∈ vs → wipe (σ.set i o) vs = wipe σ vs
  | v :: vs, h => by
    show (wipe (σ.set i o) vs).set v none = (wipe σ vs).set v none
    by_cases hv : i ∈ vs
    · rw [wipe_set σ hv]
    · have e : i = v := by
        rcases List.mem_cons.mp h with q | q
        · exact q
        · exact absurd q hv
      subst e
      have k : ∀ ws : List Nat, i ∉ ws → wipe (σ.set i o) ws = (wipe σ ws).set i o := by
        intro ws
        induction ws with
        | nil => intro _; rfl
        | cons w ws ih =>
          intro hn
          have h1 : i ≠ w := fun z => hn (by rw [z]; exact List.mem_cons_self)
          show (wipe (σ.set i o) ws).set w none = ((wipe σ ws).set w none).set i o
          rw [ih fun z => hn (List.mem_cons_of_mem _ z), List.set_comm _ _ h1]
      rw [k vs hv, List.set_set]
theorem wipe_wipe (σ : L2.St) (vs : List Nat) : wipe (wipe σ vs) vs = wipe σ vs := by
  have k : ∀ ws : List Nat, (∀ w ∈ ws, w ∈ vs) → wipe (wipe σ ws) vs = wipe σ vs := by
    intro ws
    induction ws with
    | nil => intro _; rfl
    | cons w ws ih =>
      intro h
      show wipe ((wipe σ ws).set w none) vs = wipe σ vs
      rw [wipe_set _ (h w List.mem_cons_self)]
      exact ih fun y hy => h y (List.mem_cons_of_mem _ hy)
  exact k vs fun _ h => h
def gOfs : List Nat → TGs
  | [] => gNil
  | i :: is => gCons (gName i) (gOfs is)
def gOf (K : PySem.W.Frag) : Tg → TG
  | .nm i => gName i
  | .tp is => gTup K is.length (gOfs is)
theorem gOfs_run {C : L2.St → Hp → Prop} : ∀ {is : List Nat} {vs : List V} {ds : List D} {env : Env} {σ : L2.St}, DRs K sa F vs ds → is.length = ds.length → SR K sa F H env σ →
    (∀ σ2, SR K sa F H ((is.zip ds).foldl (fun e p => e.set p.1 (some (false, p.2))) env) σ2 → (∀ ws, (∀ i ∈ is, i ∈ ws) → L2.wipe σ2 ws = L2.wipe σ ws) → C σ2 H) → gOfs is vs σ H C
  | [], _, _, env, σ, .nil, _, sr, k => ⟨rfl, k σ sr fun _ _ => rfl⟩
  | [], _, _, env, σ, .cons _ _, h, _, _ => by simp at h
  | i :: is, _, _, env, σ, .nil, h, _, _ => by simp at h
  | i :: is, _, _, env, σ, .cons (v := v) (d := d) r rs, h, sr, k => by
    refine ⟨v, _, rfl, ?_⟩
    show gOfs is _ (σ.set i (some v)) H C
    refine gOfs_run rs (by simpa using h) (sr.set r) fun σ2 s2 w2 => k σ2 s2 fun ws hw => ?_
    rw [w2 ws fun j hj => hw j (List.mem_cons_of_mem _ hj), wipe_set σ (hw i List.mem_cons_self)]
theorem gOf_run {C : L2.St → Hp → Prop} {t : Tg} {v : V} {d : D} {env env' : Env} {σ : L2.St} (r : DR K sa F v d) (e : Evl.Ex F H) (ht : tgD t d env = some env') (sr : SR K sa F H env σ)
    (k : ∀ σ2, SR K sa F H env' σ2 → (∀ ws, (∀ i ∈ t.slots, i ∈ ws) → L2.wipe σ2 ws = L2.wipe σ ws) → C σ2 H) : gOf K t v σ H C := by
  cases t with
  | nm i =>
    cases ht
    exact k _ (sr.set r) fun ws hw => wipe_set σ (hw i List.mem_cons_self)
  | tp is =>
    unfold tgD at ht
    cases d with
    | tup ds =>
      have ht' : (if is.length = ds.length then some ((is.zip ds).foldl (fun e p => e.set p.1 (some (false, p.2))) env) else none) = some env' := ht
      split at ht'
      · rename_i hl
        cases ht'
        cases r with
        | tup h rs => exact ⟨_, _, rfl, ex_t e h, by rw [rs.length, hl], gOfs_run rs hl sr k⟩
      · cases ht'
    | _ => cases ht
end
theorem pg_of {X : Cx} {osc : Option Scope} {n : Nat} {G : Gd} {W : WX} (C : Cn X n G (fnOk osc) W) : ∀ {t : Tg} {x : Expr}, chkTg osc X.N X.env.scope t x = true → PG X x (gOf X.K t) := by
  have one : ∀ {i : Nat} {x : Str} {pos : Pos}, (decide (X.N[i]? = some x) && locOk X.env.scope x && fnOk osc X.env.scope x) = true → PG X (.Name x pos) (gName i) := fun {i x pos} h => by
    simp only [Bool.and_eq_true] at h
    exact pg_name C.nd (of_decide_eq_true h.1.1) (loc_of h.1.2) (C.fn x h.2)
  have many : ∀ {is : List Nat} {es : List Expr}, chkTgs osc X.N X.env.scope is es = true → PGs X es (gOfs is) ∧ (assignEach es X.env).length = is.length ∧ (assignEach es X.env).findIdx? (·.1) = none := by
    intro is
    induction is with
    | nil =>
      intro es h
      cases es with
      | nil => exact ⟨pgs_nil, rfl, rfl⟩
      | cons => simp [chkTgs] at h
    | cons i is ih =>
      intro es h
      cases es with
      | nil => simp [chkTgs] at h
      | cons y ys =>
        cases y <;> (try simp only [chkTgs, Bool.false_eq_true] at h)
        rename_i x pos
        rw [Bool.and_eq_true] at h
        obtain ⟨h1, h2, h3⟩ := ih h.2
        refine ⟨pgs_cons (one h.1) h1, ?_, ?_⟩
        · show (assignEach ys X.env).length + 1 = is.length + 1
          rw [h2]
        · show List.findIdx? (·.1) ((false, _) :: assignEach ys X.env) = none
          rw [List.findIdx?_cons, h3]
          rfl
  intro t x h
  cases t with
  | nm i =>
    cases x <;> (try simp only [chkTg, Bool.false_eq_true] at h)
    exact one h
  | tp is =>
    cases x <;> (try simp only [chkTg, Bool.false_eq_true] at h)
    obtain ⟨h1, h2, h3⟩ := many h
    exact pg_tup C.calm h1 h2 h3
end Mp
set_option Elab.async false
set_option maxRecDepth 100000
set_option maxHeartbeats 4000000
/-! Mp14: every expression that was looked at comes to what its evaluation says. -/
namespace Mp
open PySem L2 Evl
section
variable {n : Nat} {G : Gd}
theorem cn_blk {X : Cx} {fo : Scope → Str → Bool} {W : WX} (C : Cn X n G fo W) (s : Shared) (H : Hp) (scope : Scope) (cl : List (Str × Addr)) (A : Addr) (fp : List Addr) :
    Cn (X.blk s H scope (compEnvC scope cl A X.env) fp) n G (fnOk (some scope)) (fun _ _ _ _ => False) where
  room := C.room
  calm := C.calm
  nd := C.nd
  fns := C.fns
  con := C.con
  pw := C.pw
  blt := C.blt
  exc := fun c D h => ⟨(C.exc c D h).mg, (C.exc c D h).kp, (C.exc c D h).bs, (C.exc c D h).ty, (C.exc c D h).ec⟩
  exn := C.exn
  ini := C.ini
  cls := C.cls
  sub := C.sub
  fn := fun x h => by
    unfold fnOk at h
    rw [Bool.or_eq_true] at h
    rcases h with h | h
    · exact .inl h
    · exact .inr (of_decide_eq_true h)
  takes := fun u s' x => by
    obtain ⟨_, _, _, _, _, _, _, _, _, _, _, _, _, _, _, _, w⟩ := x
    exact w.elim
theorem own_map (N : List Str) (own : List Nat) : (ownOf N own).map (·.2) = own := by
  unfold ownOf
  rw [List.map_map]
  exact List.map_id own
/-- the turn of a comprehension, as the evaluation has it -/
def turnE (T : Tab) (call : Str → List D → Sr → R) (own : List Nat) (tg : Tg) (ifs : List Xp) (e : Xp) (env : Env) (d : D) (S : Sr) : Option (Option D × Sr) :=
  match tgD tg d (wipeE env own) with
  | some env' => match evT T call ifs env' S with
    | .ok true S => match evE T call e env' S with
      | .ok m x S => if m = .br then none else some (some x, S)
      | _ => none
    | .ok false S => some (none, S)
    | .bad => none
  | none => none
/-- the readings of a block's parts, whatever the block's frame -/
def bE (X : Cx) (scope : Scope) (e : Expr) : TE := fun σ H Q => ∀ s0 H0 A cl fp, WE (X.blk s0 H0 scope (compEnvC scope cl A X.env) fp) e σ H Q
def bT (X : Cx) (scope : Scope) : List Expr → TT
  | [c] => fun σ H Q => ∀ s0 H0 A cl fp, WT (X.blk s0 H0 scope (compEnvC scope cl A X.env) fp) c σ H Q
  | _ => tYes
theorem pts_of {X : Cx} {scope : Scope} {ifs : List Expr} (h : ifs.length ≤ 1) (s0 : Shared) (H0 : Hp) (A : Addr) (cl : List (Str × Addr)) (fp : List Addr) : PTs (X.blk s0 H0 scope (compEnvC scope cl A X.env) fp) ifs (bT X scope ifs) := by
  rcases ifs with _ | ⟨c, _ | _⟩
  · exact pts_nil
  · exact pts_one ⟨fun pins s σ H Q I hw => hw s0 H0 A cl fp pins s I⟩
  · simp at h
theorem turn_ok {X : Cx} {fo : Scope → Str → Bool} {W : WX} {own : List Nat} {tg : Tg} {ifs : List Xp} {e : Xp} {scope : Scope} {ifs' : List Expr} {e' : Expr} {σ : L2.St} {env : Env} {F1 H1 : Hp}
    (C : Cn X n G fo W) (he : SE n G e) (hi : ∀ f ∈ ifs, ST n G f) (h1 : tg.slots.all (own.contains ·) = true) (h3 : chkEs G.np X.N ifs (relS scope X.env.scope) ifs' = true) (hl : ifs.length ≤ 1) (h4 : chkE G.np X.N e (relS scope X.env.scope) e' = true)
    (sr : SR X.K G.sa F1 H1 env σ) : TurnR X.K G.sa F1 H1 (gOf X.K tg) (bT X scope ifs') (bE X scope e') own σ (turnE G.T G.cl own tg ifs e env) := by
  intro d S o S' hT F H x g s rx C1 C0 k1 k0
  unfold turnE at hT
  cases hg : tgD tg d (wipeE env own) with
  | none => rw [hg] at hT; cases hT
  | some env' =>
    rw [hg] at hT
    dsimp only at hT
    refine gOf_run rx g.fh hg ((sr.mono g).wipe own) fun σ2 sr2 hw => ⟨?_, ?_⟩
    · rw [hw own fun i hi' => by simpa using List.all_eq_true.mp h1 i hi', wipe_wipe]
    · -- behind the tests
      have elt : ∀ F3 H3 S3, Gr G.sa F H F3 H3 → SrcR G.sa F3 H3 S3 → (match evE G.T G.cl e env' S3 with | .ok m x S => if m = .br then none else some (some x, S) | _ => none) = some (o, S') → bE X scope e' σ2 H3 C1 := by
        intro F3 H3 S3 g3 s3 hE s0 H0 A cl fp
        refine he _ _ _ _ (cn_blk C s0 H0 scope cl A fp) h4 σ2 H3 F3 env' S3 _ (sr2.mono g3) g3.fh s3 ?_
        cases hv : evE G.T G.cl e env' S3 with
        | bad => rw [hv] at hE; cases hE
        | exc y S4 => rw [hv] at hE; cases hE
        | ok m y S4 =>
          rw [hv] at hE
          dsimp only at hE
          split at hE
          · cases hE
          · rename_i hm
            cases hE
            intro v F4 H4 g4 s4 w4
            obtain ⟨F5, g5, e5, s5, r5⟩ := w4.frozen hm g4 s4
            exact k1 y rfl v F5 H4 (g3.trans g5) s5 r5
      rcases ifs with _ | ⟨c, _ | _⟩
      · cases ifs' with
        | cons => simp [chkEs] at h3
        | nil =>
          rw [evT] at hT
          show (if (true : Bool) = true then bE X scope e' σ2 H C1 else C0 H)
          rw [if_pos rfl]
          exact elt F H S (Gr.refl g.fh) s hT
      · cases ifs' with
        | nil => simp [chkEs] at h3
        | cons c' cs' =>
          rw [chkEs, Bool.and_eq_true, Bool.and_eq_true] at h3
          have hcs : cs' = [] := by
            cases cs' with
            | nil => rfl
            | cons => simp [chkEs] at h3
          subst hcs
          intro s0 H0 A cl fp
          refine hi c List.mem_cons_self _ _ _ _ (cn_blk C s0 H0 scope cl A fp) h3.1.2 σ2 H F env' S _ sr2 g.fh s ?_
          rw [evT] at hT
          cases hv : evE G.T G.cl c env' S with
          | bad => rw [hv] at hT; cases hT
          | exc y S4 => rw [hv] at hT; cases hT
          | ok m y S4 =>
            rw [hv] at hT
            cases y with
            | bl b =>
              intro v F4 H4 g4 s4 w4
              obtain ⟨rfl, _⟩ := w4.bl
              refine ⟨b, rfl, ?_⟩
              cases b with
              | true =>
                rw [if_pos rfl]
                dsimp only at hT
                rw [evT] at hT
                exact elt F4 H4 S4 g4 s4 hT
              | false =>
                rw [if_neg (by decide)]
                dsimp only at hT
                cases hT
                exact k0 rfl F4 H4 g4 s4
            | _ => cases hT
      · simp at hl
/-- the look of a comprehension -/
theorem chk_comp {X : Cx} {own : List Nat} {tg : Tg} {it : It} {ifs : List Xp} {e : Xp} {x : Expr} (h : chkE G.np X.N (.comp own tg it ifs e) X.env.scope x = true) :
    ∃ e' tg' it' ifs' scope pos, x = .ListComp e' [⟨tg', it', ifs', 0⟩] scope pos ∧ blkC X.N X.env.scope scope (ownOf X.N own) = true ∧ noSet it' = true ∧ chkI G.np X.N it X.env.scope it' tg' = true ∧
      chkTg (some scope) X.N (relS scope X.env.scope) tg tg' = true ∧ tg.slots.all (own.contains ·) = true ∧ ifs.length ≤ 1 ∧ chkEs G.np X.N ifs (relS scope X.env.scope) ifs' = true ∧ chkE G.np X.N e (relS scope X.env.scope) e' = true := by
  cases x <;> (try simp only [chkE, Bool.false_eq_true] at h)
  rename_i e' gens scope pos
  rcases gens with _ | ⟨⟨tg', it', ifs', asy⟩, _ | _⟩ <;> (try simp only [chkE, Bool.false_eq_true] at h)
  have hz : asy = 0 := by
    by_cases q : asy = 0
    · exact q
    · exfalso
      revert h
      unfold chkE
      split <;> simp_all
  subst hz
  rw [chkE] at h
  simp only [Bool.and_eq_true] at h
  obtain ⟨⟨⟨⟨⟨⟨⟨h1, h2⟩, h3⟩, h4⟩, h5⟩, hl⟩, h6⟩, h7⟩ := h
  exact ⟨e', tg', it', ifs', scope, pos, rfl, h1, h2, h3, h4, h5, of_decide_eq_true hl, h6, h7⟩
theorem comp_read {X : Cx} {W : WX} {osc : Option Scope} {own : List Nat} {tg : Tg} {it : It} {ifs : List Xp} {e : Xp} {e' tg' it' : Expr} {ifs' : List Expr} {scope : Scope} (C : Cn X n G (fnOk osc) W)
    (hit : SI n G it) (hi : ∀ f ∈ ifs, ST n G f) (he : SE n G e) (h3 : chkI G.np X.N it X.env.scope it' tg' = true) (h5 : tg.slots.all (own.contains ·) = true) (hl : ifs.length ≤ 1)
    (h6 : chkEs G.np X.N ifs (relS scope X.env.scope) ifs' = true) (h7 : chkE G.np X.N e (relS scope X.env.scope) e' = true) {σ : L2.St} {H F : Hp} {env : Env} {S : Sr} {Q : VK} (sr : SR X.K G.sa F H env σ) (e0 : Ex F H) (s : SrcR G.sa F H S)
    (p : Post X.K G (fun c d H' => W c d σ H') F H (evE G.T G.cl (.comp own tg it ifs e) env S) Q) : tLc (WI X tg' it') (gOf X.K tg) (bT X scope ifs') (bE X scope e') own σ H Q := by
  rw [evE] at p
  refine hit X W osc it' tg' C h3 σ H F env S _ sr e0 s ?_
  cases hI : evI G.T G.cl it env S with
  | bad => rw [hI] at p; exact p
  | exc y S1 => rw [hI] at p; exact p
  | ok br ds S1 =>
    rw [hI] at p
    intro J F' H' g hz s' wd Dp hD
    have p2 : Post X.K G (fun c d H' => W c d σ H') F H (match compL (turnE G.T G.cl own tg ifs e env) ds S1 with | some (xs, S) => .ok .fr (.lst xs) S | none => .bad) Q := p
    cases hc : compL (turnE G.T G.cl own tg ifs e env) ds S1 with
    | none => rw [hc] at p2; exact p2.elim
    | some pr =>
      obtain ⟨tot, S2⟩ := pr
      rw [hc] at p2
      refine comp_lc wd hz g.fh s' hD hc (turn_ok C he hi h5 h6 hl h7 (sr.mono g)) fun F2 H2 xs g2 s2 fD hx rx lx => ?_
      exact p2 _ F2 H2 (g.trans g2) s2 ⟨Dp, rfl, g.back hD, fD, fun z => s'.n1 (by rw [← z]; exact hD), fun z => s'.n2 (by rw [← z]; exact hD), xs, hx, rx⟩
theorem se_comp {own : List Nat} {tg : Tg} {it : It} {ifs : List Xp} {e : Xp} (hit : SI n G it) (hi : ∀ f ∈ ifs, ST n G f) (he : SE n G e) : SE n G (.comp own tg it ifs e) := by
  intro X W osc x C h σ H F env S Q sr e0 s p
  obtain ⟨e', tg', it', ifs', scope, pos, rfl, h1, h2, h3, h4, h5, hl, h6, h7⟩ := chk_comp h
  have hl' : ifs'.length ≤ 1 := by rw [chkEs_len h6]; exact hl
  have rule := pe_lc (X := X) (elt := e') (tg := tg') (iter := it') (ifs := ifs') (scope := scope) (own := ownOf X.N own) (pos := pos) (wi := WI X tg' it') (g := gOf X.K tg) (tt := bT X scope ifs') (te := bE X scope e') C.calm C.nd wi (blkOk_by h1)
    (fun s0 H0 A cl fp => pg_of (cn_blk C s0 H0 scope cl A fp) h4) (fun s0 H0 A cl fp => pts_of hl' s0 H0 A cl fp) (fun s0 H0 A cl fp => ⟨fun pins s1 σ1 H1 Q1 I hw => hw s0 H0 A cl fp pins s1 I⟩) (fun x => folded_of h2 _ x)
  rw [own_map] at rule
  exact .of rule (comp_read C hit hi he h3 h5 hl h6 h7 sr e0 s p)
end
end Mp
set_option Elab.async false
set_option maxRecDepth 100000
set_option maxHeartbeats 4000000
/-! MpC: comprehensions of two clauses. -/
namespace Mp
open PySem L2 Evl
section
variable {K : PySem.W.Frag} {sa : Sa} {F H F' H' : Hp} {env : Env} {σ : L2.St}
theorem noOwnE_at {i : Nat} {m : Bool} {d : D} (h : (noOwnE env)[i]? = some (some (m, d))) : m = false ∧ env[i]? = some (some (false, d)) := by
  unfold noOwnE at h
  rw [List.getElem?_map] at h
  obtain ⟨o, h1, h2⟩ := Option.map_eq_some_iff.mp h
  rcases o with _ | ⟨_ | _, c⟩
  · cases h2
  · cases h2
    exact ⟨rfl, h1⟩
  · cases h2
theorem SR.noOwn (h : SR K sa F H env σ) : SR K sa F H (noOwnE env) σ := by
  refine ⟨by unfold noOwnE; rw [List.length_map]; exact h.1, fun i m d e => ?_⟩
  obtain ⟨rfl, e2⟩ := noOwnE_at e
  exact h.2 i false d e2
theorem SR.noOwn_ex (h : SR K sa F H (noOwnE env) σ) (e : Ex F F') : SR K sa F' H' (noOwnE env) σ := by
  refine ⟨h.1, fun i m d q => ?_⟩
  obtain ⟨rfl, _⟩ := noOwnE_at q
  obtain ⟨v, h1, h2⟩ := h.2 i false d q
  exact ⟨v, h1, DR.mono e h2⟩
end
/-- the second clause's loop -/
def Inner (D : Addr) (g1 : TG) (tt1 : TT) (te : TE) (vs1 : List Nat) (σ2 : L2.St) (Nx : Hp → Prop) (J1 : L2.It) (H4 : Hp) : Prop :=
  ∃ W1 : Nat → Nat → Hp → Prop, (∃ m, W1 0 m H4) ∧ ∀ j k H, W1 j k H →
    (J1.stop j H ∧ Nx H) ∨ (J1.go j H ∧ ∃ Nx1 : Hp → Prop, (∀ H', Nx1 H' → ∃ k', k' < k ∧ W1 (j + 1) k' H') ∧ ∀ x H', J1.yld j H x H' → g1 x (wipe σ2 vs1) H' fun σ3 H5 => wipe σ3 vs1 = wipe σ2 vs1 ∧ tt1 σ3 H5 fun b H6 =>
      if b = true then te σ3 H6 fun y H7 => ∃ acc, H7 D = some (.lst acc) ∧ acc.length < sizeLine ∧ Nx1 (upd H7 D (.lst (acc ++ [y]))) else Nx1 H6)
section
variable {K : PySem.W.Frag} {sa : Sa} {F1 H1 : Hp} {J : L2.It} {D : Addr}
theorem inner_it {F4 H4 : Hp} {J1 : L2.It} {ds xs : List Mp.D} {S4 S' : Sr} {acc0 : List V} {da0 : List Mp.D} {g1 : TG} {tt1 : TT} {te : TE} {vs1 : List Nat} {σ2 : L2.St} {turn : Mp.D → Sr → Option (Option Mp.D × Sr)} {Nx : Hp → Prop} {S1 : Sr}
    (hw : WalkD K sa false F4 H4 J1 ds) (s1 : SrcR sa F1 H1 S1) (hD : H1 D = none) (g0 : Gr sa F1 H1 F4 H4) (s4 : SrcR sa F4 H4 S4) (fD : F4 D = none) (hHD : H4 D = some (.lst acc0)) (rd : DRs K sa F4 acc0 da0)
    (hc : compL turn ds S4 = some (xs, S')) (hz : da0.length + xs.length ≤ sizeLine) (hti : ∀ F H, Evl.Ex F4 F → Evl.Ex F H → TurnR K sa F H g1 tt1 te vs1 σ2 turn)
    (hN : ∀ F5 H5 acc', Gr sa F1 H1 F5 H5 → Evl.Ex F4 F5 → SrcR sa F5 H5 S' → F5 D = none → H5 D = some (.lst acc') → DRs K sa F5 acc' (da0 ++ xs) → Nx H5) : Inner D g1 tt1 te vs1 σ2 Nx J1 H4 := by
  obtain ⟨GG, Y, hW, _, hG2, hY⟩ := hw.ex
  have nD1 : D ≠ sa.s1 := fun z => s1.n1 (by rw [← z]; exact hD)
  have nD2 : D ≠ sa.s2 := fun z => s1.n2 (by rw [← z]; exact hD)
  let Pv : Nat → Hp → Prop := fun j H => ∃ F acc da Sj rest, Gr sa F1 H1 F H ∧ Evl.Ex F4 F ∧ SrcR sa F H Sj ∧ F D = none ∧ H D = some (.lst acc) ∧ DRs K sa F acc da ∧ compL turn (ds.drop j) Sj = some (rest, S') ∧ da ++ rest = da0 ++ xs
  refine ⟨fun j m H => m = ds.length - j ∧ j ≤ ds.length ∧ Pv j H, ⟨ds.length, by simp, Nat.zero_le _, F4, acc0, da0, S4, xs, g0, Ex.refl _, s4, fD, hHD, rd, hc, rfl⟩, ?_⟩
  rintro j k H ⟨rfl, hj, F, acc, da, Sj, rest, gr, ex, sr, fD', hHD', rd', hc', htt⟩
  have q := hG2 rfl F H ex gr.fh
  by_cases hlt : j < ds.length
  · refine .inr ⟨hW.goes j H hlt q, Pv (j + 1), fun H' p' => ⟨ds.length - (j + 1), by omega, rfl, hlt, p'⟩, fun x H' y => ?_⟩
    obtain ⟨d, F', hdi, g2, s2, rx⟩ := hY j F H x H' ex gr.fh q (hW.yields j H x H' hlt q y)
    rw [drop_cons hdi, compL] at hc'
    cases hT : turn d Sj with
    | none => rw [hT] at hc'; cases hc'
    | some pr =>
      obtain ⟨o, S2⟩ := pr
      rw [hT] at hc'
      dsimp only at hc'
      cases hR : compL turn (ds.drop (j + 1)) S2 with
      | none => rw [hR] at hc'; cases hc'
      | some pr2 =>
        obtain ⟨rest2, S3⟩ := pr2
        rw [hR] at hc'
        dsimp only at hc'
        have gr2 := gr.trans g2
        have ex2 := ex.trans g2.ff
        have keepD : ∀ {F5 H5}, Gr sa F' H' F5 H5 → F5 D = none ∧ H5 D = some (.lst acc) := fun {F5 H5} g5 => by
          have z := g2.trans g5
          exact ⟨z.nofz fD' (by rw [hHD']; exact fun z => nomatch z), z.hh D _ hHD' nD1 nD2⟩
        refine hti F' H' ex2 g2.fh d Sj o S2 hT F' H' x (Gr.refl g2.fh) (s2 Sj sr) rx _ _ ?_ ?_
        · rintro z rfl y F5 H5 g5 s5 ry
          obtain ⟨k1, k2⟩ := keepD g5
          have hc2 : some (z :: rest2, S3) = some (rest, S') := hc'
          cases hc2
          have hl : acc.length = da.length := rd'.length
          have hl2 := congrArg List.length htt
          rw [List.length_append, List.length_append, List.length_cons] at hl2
          refine ⟨acc, k2, by omega, F5, acc ++ [y], da ++ [z], S2, rest2, (gr2.trans g5).mut hD k1, ex2.trans g5.ff, s5.mut nD1 nD2, k1, upd_same, (rd'.mono (g2.trans g5).ff).append (.cons ry .nil), hR, ?_⟩
          rw [List.append_assoc]
          exact htt
        · rintro rfl F5 H5 g5 s5
          obtain ⟨k1, k2⟩ := keepD g5
          have hc2 : some (rest2, S3) = some (rest, S') := hc'
          cases hc2
          exact ⟨F5, acc, da, S2, _, gr2.trans g5, ex2.trans g5.ff, s5, k1, k2, rd'.mono (g2.trans g5).ff, hR, htt⟩
  · have e : j = ds.length := by omega
    subst e
    refine .inl ⟨hW.stops H q, ?_⟩
    rw [List.drop_length, compL] at hc'
    cases hc'
    rw [List.append_nil] at htt
    subst htt
    exact hN F H acc gr ex sr fD' hHD' rd'
theorem comp_lc2 {ds tot : List Mp.D} {S1 S2 : Sr} {br : Bool} {g g1 : TG} {tt tt1 : TT} {wi1 : TI} {te : TE} {own vs1 : List Nat} {σ : L2.St} {Qd : Hp → Prop} {turn : Mp.D → Sr → Option (List Mp.D × Sr)}
    (hw : WalkD K sa br F1 H1 J ds) (e1 : Evl.Ex F1 H1) (s1 : SrcR sa F1 H1 S1) (hD : H1 D = none) (htot : compL2 turn ds S1 = some (tot, S2)) (hz : tot.length ≤ sizeLine)
    (ht : ∀ d S xs S', turn d S = some (xs, S') → ∀ F H x acc da, Gr sa F1 H1 F H → SrcR sa F H S → DR K sa F x d → F D = none → H D = some (.lst acc) → DRs K sa F acc da → da.length + xs.length ≤ sizeLine →
      ∀ Nx : Hp → Prop, (∀ F4 H4 acc', Gr sa F1 H1 F4 H4 → Evl.Ex F F4 → SrcR sa F4 H4 S' → F4 D = none → H4 D = some (.lst acc') → DRs K sa F4 acc' (da ++ xs) → Nx H4) →
      g x (wipe σ own) H fun σ2 H2 => wipe σ2 own = wipe σ own ∧ tt σ2 H2 fun b H3 => if b = true then wi1 σ2 H3 fun J1 H4 => Inner D g1 tt1 te vs1 σ2 Nx J1 H4 else Nx H3)
    (hd : ∀ F H xs, Gr sa F1 H1 F H → SrcR sa F H S2 → F D = none → H D = some (.lst xs) → DRs K sa F xs tot → Qd H) :
    ∃ W : Nat → Nat → Hp → Prop, (∃ m, W 0 m (upd H1 D (.lst []))) ∧ ∀ i m H, W i m H →
      (J.stop i H ∧ Qd H) ∨ (J.go i H ∧ ∃ Nx : Hp → Prop, (∀ H', Nx H' → ∃ m', m' < m ∧ W (i + 1) m' H') ∧ ∀ x H', J.yld i H x H' → g x (wipe σ own) H' fun σ2 H2 => wipe σ2 own = wipe σ own ∧ tt σ2 H2 fun b H3 =>
        if b = true then wi1 σ2 H3 fun J1 H4 => Inner D g1 tt1 te vs1 σ2 Nx J1 H4 else Nx H3) := by
  obtain ⟨GG, Y, hW, hG1, _, hY⟩ := hw.ex
  have nD1 : D ≠ sa.s1 := fun z => s1.n1 (by rw [← z]; exact hD)
  have nD2 : D ≠ sa.s2 := fun z => s1.n2 (by rw [← z]; exact hD)
  let Pv : Nat → Hp → Prop := fun i H => ∃ F acc da Si rest, Gr sa F1 H1 F H ∧ SrcR sa F H Si ∧ F D = none ∧ H D = some (.lst acc) ∧ DRs K sa F acc da ∧ compL2 turn (ds.drop i) Si = some (rest, S2) ∧ da ++ rest = tot
  refine ⟨fun i m H => m = ds.length - i ∧ i ≤ ds.length ∧ Pv i H, ⟨ds.length, by simp, Nat.zero_le _, F1, [], [], S1, tot, Gr.new e1 hD, s1.new hD, fresh_back e1 hD, upd_same, .nil, htot, rfl⟩, ?_⟩
  rintro i k H ⟨rfl, hi, F, acc, da, Si, rest, gr, sr, fD, hHD, rd, hc, htt⟩
  have q := hG1 F H gr
  by_cases hlt : i < ds.length
  · refine .inr ⟨hW.goes i H hlt q, Pv (i + 1), fun H' p' => ⟨ds.length - (i + 1), by omega, rfl, hlt, p'⟩, fun x H' y => ?_⟩
    obtain ⟨d, F', hdi, g2, s2, rx⟩ := hY i F H x H' gr.ff gr.fh q (hW.yields i H x H' hlt q y)
    rw [drop_cons hdi, compL2] at hc
    cases hT : turn d Si with
    | none => rw [hT] at hc; cases hc
    | some pr =>
      obtain ⟨xs, S'⟩ := pr
      rw [hT] at hc
      dsimp only at hc
      cases hR : compL2 turn (ds.drop (i + 1)) S' with
      | none => rw [hR] at hc; cases hc
      | some pr2 =>
        obtain ⟨rest2, S3⟩ := pr2
        rw [hR] at hc
        have hc' : some (xs ++ rest2, S3) = some (rest, S2) := hc
        cases hc'
        have hl2 := congrArg List.length htt
        rw [List.length_append, List.length_append] at hl2
        refine ht d Si xs S' hT F' H' x acc da (gr.trans g2) (s2 Si sr) rx (g2.nofz fD (by rw [hHD]; exact fun z => nomatch z)) (g2.hh D _ hHD nD1 nD2) (rd.mono g2.ff) (by omega) _ fun F4 H4 acc' g4 _ s4 f4 h4 r4 => ?_
        exact ⟨F4, acc', da ++ xs, S', rest2, g4, s4, f4, h4, r4, hR, by rw [List.append_assoc]; exact htt⟩
  · have e : i = ds.length := by omega
    subst e
    refine .inl ⟨hW.stops H q, ?_⟩
    rw [List.drop_length, compL2] at hc
    cases hc
    rw [List.append_nil] at htt
    subst htt
    exact hd F H acc gr sr fD hHD rd
end
section
variable {n : Nat} {G : Gd}
def bI (X : Cx) (scope : Scope) (tg e : Expr) : TI := fun σ H R => ∀ s0 H0 A cl fp, WI (X.blk s0 H0 scope (compEnvC scope cl A X.env) fp) tg e σ H R
/-- the outer turn, as the evaluation has it -/
def turn2E (T : Tab) (call : Str → List D → Sr → R) (own vs : List Nat) (tg : Tg) (ifs : List Xp) (tg1 : Tg) (it1 : It) (ifs1 : List Xp) (e : Xp) (env : Env) (d : D) (S : Sr) : Option (List D × Sr) :=
  match tgD tg d (wipeE env own) with
  | some env' => match evT T call ifs env' S with
    | .ok true S => match evI T call it1 (noOwnE env') S with
      | .ok false ds' S => compL (turnE T call vs tg1 ifs1 e (noOwnE env')) ds' S
      | _ => none
    | .ok false S => some ([], S)
    | .bad => none
  | none => none
theorem comp2_read {X : Cx} {W : WX} {osc : Option Scope} {own vs : List Nat} {tg tg1 : Tg} {it it1 : It} {ifs ifs1 : List Xp} {e : Xp} {e' tg' it' tg1' it1' : Expr} {ifs' ifs1' : List Expr} {scope : Scope} (C : Cn X n G (fnOk osc) W)
    (hit : SI n G it) (hi : ∀ f ∈ ifs, ST n G f) (hit1 : SI n G it1) (hi1 : ∀ f ∈ ifs1, ST n G f) (he : SE n G e) (h3 : chkI G.np X.N it X.env.scope it' tg' = true) (h5 : tg.slots.all (own.contains ·) = true) (hl : ifs.length ≤ 1)
    (h6 : chkEs G.np X.N ifs (relS scope X.env.scope) ifs' = true) (k3 : chkI G.np X.N it1 (relS scope X.env.scope) it1' tg1' = true) (k5 : tg1.slots.all (vs.contains ·) = true) (kl : ifs1.length ≤ 1) (k6 : chkEs G.np X.N ifs1 (relS scope X.env.scope) ifs1' = true)
    (h7 : chkE G.np X.N e (relS scope X.env.scope) e' = true) {σ : L2.St} {H F : Hp} {env : Env} {S : Sr} {Q : VK} (sr : SR X.K G.sa F H env σ) (e0 : Ex F H) (s : SrcR G.sa F H S)
    (p : Post X.K G (fun c d H' => W c d σ H') F H (evE G.T G.cl (.comp2 own vs tg it ifs tg1 it1 ifs1 e) env S) Q) :
    tLc2 (WI X tg' it') (gOf X.K tg) (bT X scope ifs') (bI X scope tg1' it1') (gOf X.K tg1) (bT X scope ifs1') (bE X scope e') own vs σ H Q := by
  rw [evE] at p
  refine hit X W osc it' tg' C h3 σ H F env S _ sr e0 s ?_
  cases hI : evI G.T G.cl it env S with
  | bad => rw [hI] at p; exact p
  | exc y S1 => rw [hI] at p; exact p
  | ok br ds S1 =>
    rw [hI] at p
    intro J F1 H1 g0 hz s1 wd Dp hD
    have p2 : Post X.K G (fun c d H' => W c d σ H') F H (match compL2 (turn2E G.T G.cl own vs tg ifs tg1 it1 ifs1 e env) ds S1 with | some (xs, S) => if xs.length ≤ szMax then .ok .fr (.lst xs) S else .bad | none => .bad) Q := p
    cases hc : compL2 (turn2E G.T G.cl own vs tg ifs tg1 it1 ifs1 e env) ds S1 with
    | none => rw [hc] at p2; exact p2.elim
    | some pr =>
      obtain ⟨tot, S2⟩ := pr
      rw [hc] at p2
      dsimp only at p2
      split at p2
      · rename_i hsz
        refine comp_lc2 (D := Dp) wd g0.fh s1 hD hc (szMax_le hsz) ?_ fun F2 H2 xs g2 s2 fD hx rx => ?_
        · intro d S xs S' hT F5 H5 x acc da g5 s5 rx fD hHD rd hzz Nx hN
          unfold turn2E at hT
          cases hg : tgD tg d (wipeE env own) with
          | none => rw [hg] at hT; cases hT
          | some env' =>
            rw [hg] at hT
            dsimp only at hT
            refine gOf_run rx g5.fh hg (((sr.mono g0).mono g5).wipe own) fun σ2 sr2 hw => ⟨?_, ?_⟩
            · rw [hw own fun i hi' => by simpa using List.all_eq_true.mp h5 i hi', wipe_wipe]
            · have inn : ∀ F3 H3 S3, Gr G.sa F5 H5 F3 H3 → SrcR G.sa F3 H3 S3 → (match evI G.T G.cl it1 (noOwnE env') S3 with | .ok false ds' S => compL (turnE G.T G.cl vs tg1 ifs1 e (noOwnE env')) ds' S | _ => none) = some (xs, S') →
                  bI X scope tg1' it1' σ2 H3 fun J1 H4 => Inner Dp (gOf X.K tg1) (bT X scope ifs1') (bE X scope e') vs σ2 Nx J1 H4 := by
                intro F3 H3 S3 g3 s3 hE s0 H0 A cl fp
                have sr3 := (sr2.mono g3).noOwn
                refine hit1 _ _ _ _ _ (cn_blk C s0 H0 scope cl A fp) k3 σ2 H3 F3 (noOwnE env') S3 _ sr3 g3.fh s3 ?_
                cases hv : evI G.T G.cl it1 (noOwnE env') S3 with
                | bad => rw [hv] at hE; cases hE
                | exc y S4 => rw [hv] at hE; cases hE
                | ok br1 ds1 S4 =>
                  rw [hv] at hE
                  cases br1 with
                  | true => cases hE
                  | false =>
                    have hE' : compL (turnE G.T G.cl vs tg1 ifs1 e (noOwnE env')) ds1 S4 = some (xs, S') := hE
                    intro J1 F4 H4 g4 hz1 s4 wd1
                    have g34 := g3.trans g4
                    have nD1 : Dp ≠ G.sa.s1 := fun z => s1.n1 (by rw [← z]; exact hD)
                    have nD2 : Dp ≠ G.sa.s2 := fun z => s1.n2 (by rw [← z]; exact hD)
                    refine inner_it wd1 s1 hD (g5.trans g34) s4 (g34.nofz fD (by rw [hHD]; exact fun z => nomatch z)) (g34.hh Dp _ hHD nD1 nD2) (rd.mono g34.ff) hE' hzz ?_ fun F6 H6 acc' g6 x6 s6 f6 h6 r6 => hN F6 H6 acc' g6 (g34.ff.trans x6) s6 f6 h6 r6
                    intro F6 H6 x46 x6
                    exact turn_ok C he hi1 k5 k6 kl h7 (sr3.noOwn_ex (g4.ff.trans x46))
              rcases ifs with _ | ⟨c, _ | _⟩
              · cases ifs' with
                | cons => simp [chkEs] at h6
                | nil =>
                  rw [evT] at hT
                  show (if (true : Bool) = true then bI X scope tg1' it1' σ2 H5 _ else Nx H5)
                  rw [if_pos rfl]
                  exact inn F5 H5 S (Gr.refl g5.fh) s5 hT
              · cases ifs' with
                | nil => simp [chkEs] at h6
                | cons c' cs' =>
                  rw [chkEs, Bool.and_eq_true, Bool.and_eq_true] at h6
                  have hcs : cs' = [] := by
                    cases cs' with
                    | nil => rfl
                    | cons => simp [chkEs] at h6
                  subst hcs
                  intro s0 H0 A cl fp
                  refine hi c List.mem_cons_self _ _ _ _ (cn_blk C s0 H0 scope cl A fp) h6.1.2 σ2 H5 F5 env' S _ sr2 g5.fh s5 ?_
                  rw [evT] at hT
                  cases hv : evE G.T G.cl c env' S with
                  | bad => rw [hv] at hT; cases hT
                  | exc y S4 => rw [hv] at hT; cases hT
                  | ok m y S4 =>
                    rw [hv] at hT
                    cases y with
                    | bl b =>
                      intro v F4 H4 g4 s4 w4
                      obtain ⟨rfl, _⟩ := w4.bl
                      refine ⟨b, rfl, ?_⟩
                      cases b with
                      | true =>
                        rw [if_pos rfl]
                        dsimp only at hT
                        rw [evT] at hT
                        exact inn F4 H4 S4 g4 s4 hT
                      | false =>
                        rw [if_neg (by decide)]
                        dsimp only at hT
                        cases hT
                        refine hN F4 H4 acc (g5.trans g4) g4.ff s4 (g4.nofz fD (by rw [hHD]; exact fun z => nomatch z)) (g4.hh Dp _ hHD (fun z => s1.n1 (by rw [← z]; exact hD)) (fun z => s1.n2 (by rw [← z]; exact hD))) ?_
                        rw [List.append_nil]
                        exact rd.mono g4.ff
                    | _ => cases hT
              · simp at hl
        · exact p2 _ F2 H2 (g0.trans g2) s2 ⟨Dp, rfl, g0.back hD, fD, fun z => s1.n1 (by rw [← z]; exact hD), fun z => s1.n2 (by rw [← z]; exact hD), xs, hx, rx⟩
      · exact p2.elim
/-- the look of it -/
theorem chk_comp2 {X : Cx} {own vs : List Nat} {tg tg1 : Tg} {it it1 : It} {ifs ifs1 : List Xp} {e : Xp} {x : Expr} (h : chkE G.np X.N (.comp2 own vs tg it ifs tg1 it1 ifs1 e) X.env.scope x = true) :
    ∃ e' tg' it' ifs' tg1' it1' ifs1' scope pos, x = .ListComp e' [⟨tg', it', ifs', 0⟩, ⟨tg1', it1', ifs1', 0⟩] scope pos ∧ blkC X.N X.env.scope scope (ownOf X.N own) = true ∧ noSet it' = true ∧ chkI G.np X.N it X.env.scope it' tg' = true ∧
      chkTg (some scope) X.N (relS scope X.env.scope) tg tg' = true ∧ tg.slots.all (own.contains ·) = true ∧ ifs.length ≤ 1 ∧ chkEs G.np X.N ifs (relS scope X.env.scope) ifs' = true ∧
      noSet it1' = true ∧ chkI G.np X.N it1 (relS scope X.env.scope) it1' tg1' = true ∧ chkTg (some scope) X.N (relS scope X.env.scope) tg1 tg1' = true ∧ tg1.slots.all (vs.contains ·) = true ∧ vs.all (own.contains ·) = true ∧ ifs1.length ≤ 1 ∧
      chkEs G.np X.N ifs1 (relS scope X.env.scope) ifs1' = true ∧ chkE G.np X.N e (relS scope X.env.scope) e' = true := by
  cases x <;> (try simp only [chkE, Bool.false_eq_true] at h)
  rename_i e' gens scope pos
  rcases gens with _ | ⟨⟨tg', it', ifs', asy⟩, _ | ⟨⟨tg1', it1', ifs1', asy1⟩, _ | _⟩⟩ <;> (try simp only [chkE, Bool.false_eq_true] at h)
  have hz : asy = 0 ∧ asy1 = 0 := by
    by_cases q : asy = 0
    · by_cases q1 : asy1 = 0
      · exact ⟨q, q1⟩
      · exfalso
        revert h
        unfold chkE
        split <;> simp_all
    · exfalso
      revert h
      unfold chkE
      split <;> simp_all
  obtain ⟨rfl, rfl⟩ := hz
  rw [chkE] at h
  simp only [Bool.and_eq_true] at h
  obtain ⟨⟨⟨⟨⟨⟨⟨⟨⟨⟨⟨⟨⟨⟨h1, h2⟩, h3⟩, h4⟩, h5⟩, hl⟩, h6⟩, k2⟩, k3⟩, k4⟩, k5⟩, kv⟩, kl⟩, k6⟩, h7⟩ := h
  exact ⟨e', tg', it', ifs', tg1', it1', ifs1', scope, pos, rfl, h1, h2, h3, h4, h5, of_decide_eq_true hl, h6, k2, k3, k4, k5, kv, of_decide_eq_true kl, k6, h7⟩
theorem se_comp2 {own vs : List Nat} {tg tg1 : Tg} {it it1 : It} {ifs ifs1 : List Xp} {e : Xp} (hit : SI n G it) (hi : ∀ f ∈ ifs, ST n G f) (hit1 : SI n G it1) (hi1 : ∀ f ∈ ifs1, ST n G f) (he : SE n G e) : SE n G (.comp2 own vs tg it ifs tg1 it1 ifs1 e) := by
  intro X W osc x C h σ H F env S Q sr e0 s p
  obtain ⟨e', tg', it', ifs', tg1', it1', ifs1', scope, pos, rfl, h1, h2, h3, h4, h5, hl, h6, k2, k3, k4, k5, kv, kl, k6, h7⟩ := chk_comp2 h
  have hl' : ifs'.length ≤ 1 := by rw [chkEs_len h6]; exact hl
  have kl' : ifs1'.length ≤ 1 := by rw [chkEs_len k6]; exact kl
  have rule := pe_lc2 (X := X) (elt := e') (tg := tg') (iter := it') (tg1 := tg1') (iter1 := it1') (ifs := ifs') (ifs1 := ifs1') (scope := scope) (own := ownOf X.N own) (vs1 := vs) (pos := pos) (wi := WI X tg' it') (wi1 := bI X scope tg1' it1') (g := gOf X.K tg) (g1 := gOf X.K tg1) (tt := bT X scope ifs') (tt1 := bT X scope ifs1') (te := bE X scope e') C.calm C.nd wi (blkOk_by h1)
    (fun i hi' => by rw [own_map]; simpa using List.all_eq_true.mp kv i hi')
    (fun s0 H0 A cl fp => pg_of (cn_blk C s0 H0 scope cl A fp) h4) (fun s0 H0 A cl fp => pts_of hl' s0 H0 A cl fp)
    (fun s0 H0 A cl fp => ⟨fun pins s1 σ1 H1 Q1 I hw => hw s0 H0 A cl fp pins s1 I⟩)
    (fun s0 H0 A cl fp => pg_of (cn_blk C s0 H0 scope cl A fp) k4) (fun s0 H0 A cl fp => pts_of kl' s0 H0 A cl fp)
    (fun s0 H0 A cl fp => ⟨fun pins s1 σ1 H1 Q1 I hw => hw s0 H0 A cl fp pins s1 I⟩) (fun x => folded_of h2 _ x) (fun env x => folded_of k2 env x)
  rw [own_map] at rule
  exact .of rule (comp2_read C hit hi hit1 hi1 he h3 h5 hl h6 k3 k5 kl k6 h7 sr e0 s p)
end
end Mp
set_option Elab.async false
set_option maxRecDepth 100000
set_option maxHeartbeats 4000000
/-! MpS3: sorted(set(..)), e[::-1]. -/
namespace Mp
open PySem PySem.Spec PyProof.Rows L2 Evl
section
variable {X : Cx} {H : Hp} {Q : VK}
/-- set(xs), a list or a tuple of tuples of whole numbers -/
theorem fewB_of {ks : List (Addr × List Int)} {ls : List (List Int)} (e : ks.map (·.2) = ls) (h : BigOk ls) : FewB ks := fun L nd hs => by
  rw [e] at hs
  rcases h with h | ⟨h, _⟩
  · exact Nat.lt_of_le_of_lt (List.Nodup.length_le_of_subset nd hs) h
  · exact Nat.lt_of_le_of_lt (List.Nodup.length_le_of_subset nd fun x hx => mem_once.mpr (hs x hx)) h
theorem sSetOf {l : Addr} {ks : List (Addr × List Int)} (hc : X.calm = true) (hu : X.A.units + 100 < cLine) (hl : SqL X.K H l (ks.map fun p => V.ref p.1) ∨ SqT X.K H l (ks.map fun p => V.ref p.1)) (hk : ∀ p ∈ ks, SqT X.K H p.1 (p.2.map V.int)) (few : FewB ks)
    (q : ∀ a L, H a = none → (∀ p ∈ L, p ∈ ks) → (∀ p ∈ ks, p.2 ∈ L.map (·.2)) → Q (.ref a) (upd H a (BTO X.prog X.w a L))) : WC X (.type "set") [.ref l] H Q := by
  intro pins s σ us I r
  rw [Vals.ref1 r]
  have new : H s.heap.objs.size = none := I.hok.fresh (Nat.le_refl _)
  have last : ∀ (h2 : Heap) (tk : Nat) L es ep t, BS X.prog X.w h2 s.heap.objs.size L es ep t → Hold2 ks ks.length L → (∀ b o, s.heap.get? b = some o → h2.get? b = some o) →
      ∃ v H2, L2.Inv X pins σ H2 { s with heap := h2, toks := tk } ∧ L2.RelV v (.ref s.heap.objs.size) ∧ Q v H2 := fun h2 tk L es ep t B g kept =>
    ⟨.ref s.heap.objs.size, upd H s.heap.objs.size (BTO X.prog X.w s.heap.objs.size L), I.laid (t' := tk) kept (Nat.le_refl _) (bto_new B.t0), rfl, q _ L new g.from_ fun p hp => g.to_ p (by rw [List.take_length]; exact hp)⟩
  rcases hl with hl | hl
  · obtain ⟨its, rv, pl, hz⟩ := I.list hl
    exact bs_call (P := X.prog) (w := X.w) (I.ok.hd hc) pl.isList (by simpa using refs_of_vals rv) (fun p hp => I.isT (hk p hp)) few (by omega) last
  · obtain ⟨its, rv, st, hz⟩ := I.tuple hl
    have isT : s.heap.IsTuple l its.toArray := by
      obtain ⟨o, e1, e2, n, e3⟩ := st
      exact ⟨o, e1, e2, n, e3⟩
    exact bs_callT (P := X.prog) (w := X.w) (I.ok.hd hc) isT (by simpa using refs_of_vals rv) (fun p hp => I.isT (hk p hp)) few (by omega) last
theorem ints_drs {K : PySem.W.Frag} {sa : Sa} {F : Hp} : ∀ l : List Int, DRs K sa F (l.map V.int) (l.map .int)
  | [] => .nil
  | x :: l => .cons (.int x) (ints_drs l)
theorem drs_of_ints {K : PySem.W.Frag} {sa : Sa} {F : Hp} {xs : List V} {l : List Int} (r : DRs K sa F xs (l.map .int)) : xs = l.map V.int := drs_ints r (intsOf_map l)
theorem rows_addr {K : PySem.W.Frag} {sa : Sa} {F : Hp} : ∀ {xs : List V} {ls : List (List Int)}, DRs K sa F xs (ls.map tupD) → ∃ ks : List (Addr × List Int), xs = ks.map (fun p => V.ref p.1) ∧ ks.map (·.2) = ls ∧ ∀ p ∈ ks, SqT K F p.1 (p.2.map V.int)
  | _, [], .nil => ⟨[], rfl, rfl, fun p h => nomatch h⟩
  | _, l :: ls, .cons h r => by
    obtain ⟨ks, e1, e2, e3⟩ := rows_addr r
    unfold tupD at h
    cases h with
    | tup h1 h2 =>
      rename_i a ys
      have e := drs_of_ints h2
      subst e
      refine ⟨(a, l) :: ks, by rw [List.map_cons, e1], by rw [List.map_cons, e2], fun p hp => ?_⟩
      rcases List.mem_cons.mp hp with rfl | hp
      · exact h1
      · exact e3 p hp
theorem drs_rows {K : PySem.W.Frag} {sa : Sa} {F : Hp} : ∀ {ks : List (Addr × List Int)}, (∀ p ∈ ks, SqT K F p.1 (p.2.map V.int)) → DRs K sa F (ks.map fun p => V.ref p.1) ((ks.map (·.2)).map tupD)
  | [], _ => .nil
  | p :: ks, h => .cons (.tup (h p List.mem_cons_self) (ints_drs p.2)) (drs_rows fun q hq => h q (List.mem_cons_of_mem _ hq))
end
theorem bootSet : bootBuiltins "set" = some (.type "set") := by decide +kernel
section
variable {n : Nat} {G : Gd}
theorem se_sset {a : Xp} (ha : SE n G a) : SE n G (.sset a) := by
  intro X W osc x C h σ H F env S Q sr e s p
  rw [chkE] at h
  cases hc : call1 x with
  | none => rw [hc] at h; cases h
  | some t =>
  obtain ⟨nm, y⟩ := t
  rw [hc] at h
  dsimp only at h
  cases hc2 : call1 y with
  | none => rw [hc2] at h; cases h
  | some t =>
  obtain ⟨nm2, z⟩ := t
  rw [hc2] at h
  dsimp only at h
  obtain ⟨np1, pos1, rfl⟩ := call1_eq hc
  obtain ⟨np2, pos2, rfl⟩ := call1_eq hc2
  simp only [Bool.and_eq_true] at h
  obtain ⟨⟨⟨⟨⟨h1, h2⟩, h3⟩, h4⟩, h5⟩, h6⟩ := h
  have h1 := of_decide_eq_true h1
  have h2 := of_decide_eq_true h2
  subst h1 h2
  obtain ⟨g1, g2⟩ := gl_of (X := X) h3
  obtain ⟨g3, g4⟩ := gl_of (X := X) h4
  have inner := pe_callTy (X := X) (pos := pos2) (p := np2) wc g3 (C.blt "set" (by decide +kernel)) bootSet (pa_cons (we (e := z)) pa_nil (star_cons h5 _ _)) (by decide +kernel) g4 (star_cons h5 _ _) rfl
  refine .of (pe_callB (pos := pos1) (p := np1) wc g1 (C.blt "sorted" (by decide +kernel)) PyProof.Rows.boot_sorted (pa_cons inner pa_nil rfl) (by decide +kernel) g2 rfl rfl) ?_
  rw [evE] at p
  refine ha X W osc _ C h6 σ H F env S _ sr e s (p.bind.mono ?_ fun _ _ _ z => z)
  rintro v1 H1 ⟨m1, d1, S1, F1, q1, s1, w1, p1⟩
  have eL := q1.fh
  cases hi : d1.items with
  | none => rw [hi] at p1; exact p1.elim
  | some ds =>
    rw [hi] at p1
    dsimp only at p1
    cases hs : ssetD ds with
    | none => rw [hs] at p1; exact p1.elim
    | some ys =>
      rw [hs] at p1
      unfold ssetD at hs
      cases hr : rowsD ds with
      | none =>
        rw [hr] at hs
        dsimp only at hs
        cases ht : intsOf ds with
        | none => rw [ht] at hs; cases hs
        | some l =>
          rw [ht] at hs
          dsimp only at hs
          split at hs
          · rename_i hl
            cases hs
            have seq : ∃ b, v1 = .ref b ∧ (SqL X.K H1 b (l.map V.int) ∨ SqT X.K H1 b (l.map V.int)) := by
              cases d1 with
              | lst zs =>
                cases hi
                obtain ⟨b, us, rfl, k1, k2⟩ := w1.lst eL
                have e := drs_ints k2 ht
                subst e
                exact ⟨b, rfl, .inl (SqL.of k1)⟩
              | tup zs =>
                cases hi
                obtain ⟨b, us, rfl, k1, k2⟩ := w1.tup
                have e := drs_ints k2 ht
                subst e
                exact ⟨b, rfl, .inr (ex_t eL k1)⟩
              | _ => cases hi
            obtain ⟨b, rfl, hsq⟩ := seq
            refine iSetOf C.calm hsq hl.1 fun A c nA hcl => ?_
            refine iSortSet C.calm upd_same (by rw [hcl]; exact hl.2) fun P nP => ?_
            have k1 := Gr.new (sa := G.sa) (o := SetO X.w A (fun j => decide (j ∈ l)) c) eL nA
            have s2 : SrcR G.sa F1 (upd H1 A (SetO X.w A (fun j => decide (j ∈ l)) c)) S1 := s1.new nA
            have k2 := Gr.new (sa := G.sa) (o := .lst ((isort l).map V.int)) k1.fh nP
            have f0 : H1 P = none := k1.back nP
            exact p1 _ F1 _ (k1.trans k2) (s2.new nP) ⟨P, rfl, f0, fresh_back eL f0, fun z => s1.n1 (by rw [← z]; exact f0), fun z => s1.n2 (by rw [← z]; exact f0), _, upd_same, ints_drs _⟩
          · cases hs
      | some ls =>
        rw [hr] at hs
        dsimp only at hs
        split at hs
        · rename_i hl
          cases hs
          have ed := rowsD_eq hr
          subst ed
          have seq : ∃ b xs, v1 = .ref b ∧ (SqL X.K H1 b xs ∨ SqT X.K H1 b xs) ∧ DRs X.K G.sa F1 xs (ls.map tupD) := by
            cases d1 with
            | lst zs =>
              cases hi
              obtain ⟨b, us, rfl, k1, k2⟩ := w1.lst eL
              exact ⟨b, us, rfl, .inl (SqL.of k1), k2⟩
            | tup zs =>
              cases hi
              obtain ⟨b, us, rfl, k1, k2⟩ := w1.tup
              exact ⟨b, us, rfl, .inr (ex_t eL k1), k2⟩
            | _ => cases hi
          obtain ⟨b, xs, rfl, hsq, r1⟩ := seq
          obtain ⟨ks, rfl, e2, e3⟩ := rows_addr r1
          have len : FewB ks := fewB_of e2 hl.1
          refine sSetOf C.calm C.units hsq (fun q hq => ex_t eL (e3 q hq)) len fun A L nA sub all => ?_
          have eA : Ex H1 (upd H1 A (BTO X.prog X.w A L)) := Ex.new nA
          refine sSortSet (L := L) C.calm C.units upd_same (fun q hq => ex_t (eL.trans eA) (e3 q (sub q hq))) (fun q hq z => ?_) fun L' P pm nd ord nP => ?_
          · refine hl.2 q.2 ?_ z
            rw [← e2]
            exact List.mem_map.mpr ⟨q, sub q hq, rfl⟩
          · have k1 := Gr.new (sa := G.sa) (o := BTO X.prog X.w A L) eL nA
            have s2 : SrcR G.sa F1 (upd H1 A (BTO X.prog X.w A L)) S1 := s1.new nA
            have k2 := Gr.new (sa := G.sa) (o := .lst (L'.map fun x => V.ref x.1)) k1.fh nP
            have rows : L'.map (·.2) = ssort ls := by
              refine sorted_one ?_ (List.pairwise_map.mpr ord) (ssort_sorted ls)
              refine (List.perm_ext_iff_of_nodup nd (nodup_ssort ls)).mpr fun z => ?_
              rw [mem_ssort, ← e2, (pm.map (·.2)).mem_iff]
              constructor
              · intro hz
                obtain ⟨q, hq, rfl⟩ := List.mem_map.mp hz
                exact List.mem_map.mpr ⟨q, sub q hq, rfl⟩
              · intro hz
                obtain ⟨q, hq, rfl⟩ := List.mem_map.mp hz
                exact all q hq
            have dr : DRs X.K G.sa F1 (L'.map fun x => V.ref x.1) ((ssort ls).map tupD) := by
              rw [← rows]
              exact drs_rows fun q hq => e3 q (sub q (pm.mem_iff.mp hq))
            have f0 : H1 P = none := k1.back nP
            exact p1 _ F1 _ (k1.trans k2) (s2.new nP) ⟨P, rfl, f0, fresh_back eL f0, fun z => s1.n1 (by rw [← z]; exact f0), fun z => s1.n2 (by rw [← z]; exact f0), _, upd_same, dr⟩
        · cases hs
end
section
variable {prog : Program} {w : World} {A : Around} {E : Value → Shared → Prop} {s : Shared}
theorem rev_places (n : Nat) : Builtin.Slice.sliceAdjust none none (-1) (n : Int) = ((n : Int) - 1, -1) := by
  unfold Builtin.Slice.sliceAdjust
  simp
theorem rev_count (n : Nat) : Builtin.Slice.slicePlaces ((n : Int) - 1) (-1) (-1) = n := by
  unfold Builtin.Slice.slicePlaces
  rw [if_neg (by decide)]
  by_cases c : (n : Int) - 1 > -1
  · rw [if_pos c, show (-(-1) : Int) = 1 by decide, Int.ediv_one]
    omega
  · rw [if_neg c]
    omega
theorem rev_pick (items : Array Value) : ((List.range items.size).filterMap fun (k : Nat) => items[((items.size : Int) - 1 + (k : Int) * (-1)).toNat]?) = items.toList.reverse := by
  have k : ∀ n, n ≤ items.size → ((List.range n).filterMap fun (k : Nat) => items[((items.size : Int) - 1 + (k : Int) * (-1)).toNat]?) = items.toList.reverse.take n := by
    intro n
    induction n with
    | zero => intro _; rfl
    | succ n ih =>
      intro hn
      have hi : items.size - 1 - n < items.size := by omega
      have e : ((items.size : Int) - 1 + (n : Int) * (-1)).toNat = items.size - 1 - n := by omega
      have e2 : items[((items.size : Int) - 1 + (n : Int) * (-1)).toNat]? = some items[items.size - 1 - n] := by rw [e, Array.getElem?_eq_getElem hi]
      have e3 : items.toList.reverse[n]? = some items[items.size - 1 - n] := by
        rw [List.getElem?_reverse (by rw [Array.length_toList]; exact hn)]
        simp
      have e4 : [n].filterMap (fun (k : Nat) => items[((items.size : Int) - 1 + (k : Int) * (-1)).toNat]?) = [items[items.size - 1 - n]] := by
        simp only [List.filterMap_cons, List.filterMap_nil, e2]
      rw [List.range_succ, List.filterMap_append, ih (by omega), e4, List.take_succ, e3]
      rfl
  rw [k items.size (Nat.le_refl _)]
  refine List.take_of_length_le ?_
  simp
/-- t[::-1] -/
theorem getTupRev {t sl : Addr} {items : Array Value} {vl vu vs : Value} {Q : Value → Shared → Prop} (ht : IsTup s.heap t items) (hs : s.heap.IsSliceOf sl vl vu vs) (pl : IsPart vl none) (pu : IsPart vu none) (ps : IsPart vs (some (-1))) (hsz : items.size ≤ sizeLine)
    (h : Q (.ref s.heap.objs.size) { s with heap := s.heap.push { cls := .type "tuple", data := .seq items.toList.reverse.toArray } }) : wpAny (model prog w) A (getItem (.ref t) (.ref sl)) Q E s := by
  obtain ⟨osl, getSl, clsSl, dataSl⟩ := id hs
  have small : sizeOk (.seq items.toList.reverse.toArray) := by
    show items.toList.reverse.toArray.size ≤ sizeLine
    simpa using hsz
  unfold getItem
  try with_reducible refine wpAny_holding ?_
  first | refine wpAny_bind (wpAny_pure ?_) | skip
  refine wpAny_bind (wpAny_sequenceKey ht.typeIs (by decide) ?_)
  refine wpAny_bind (wpAny_callSpecial?_slot (name := Str.ofString "__getitem__") ht.typeIs slot_tuple_getitem (wpAny_call_entry slot_tuple_getitem ht.typeIs entry_tuple_getitem ?_ (args_tuple_getitem _ _)))
  show wpAny _ _ (Builtin.Tuple.tupleItemsOf (.ref t) >>= _) _ _ s
  refine wpAny_bind (tupleItemsOf_ ht (wpAny_bind (wpAny_typeOf (T := "slice") ⟨osl, getSl, clsSl⟩ ?_)))
  rw [if_pos (by decide)]
  refine wpAny_bind ?_
  unfold Builtin.Slice.sliceApplied Builtin.Slice.sliceFields
  refine wpAny_bind (wpAny_bind (wpAny_field getSl dataSl (x := vl) rfl (wpAny_bind (wpAny_field getSl dataSl (x := vu) rfl (wpAny_bind (wpAny_field getSl dataSl (x := vs) rfl (wpAny_pure ?_)))))))
  refine wpAny_bind (HT.slicePart_ ps ?_)
  show wpAny _ _ (if ((-1 : Int) == 0) = true then _ else _) _ _ s
  rw [if_neg (by decide)]
  refine wpAny_bind (HT.slicePart_ pl (wpAny_bind (HT.slicePart_ pu (wpAny_bind (wpAny_pure ?_)))))
  refine wpAny_pure ?_
  show wpAny _ _ (if ((items.size : Int) - 1 == 0 && (-1 : Int) == 1 && Builtin.Slice.slicePlaces ((items.size : Int) - 1) (-1) (-1) == items.size) = true then _ else _) _ _ s
  rw [if_neg (by simp)]
  show wpAny _ _ (Builtin.Tuple.tupleExact ((List.range (Builtin.Slice.slicePlaces ((items.size : Int) - 1) (-1) (-1))).filterMap fun (k : Nat) => items[((items.size : Int) - 1 + (k : Int) * (-1)).toNat]?).toArray >>= _) _ _ s
  rw [rev_count, rev_pick]
  first
    | exact wpAny_bind (m := Builtin.Tuple.tupleExact _) (wpAny_newObj_type (wpAny_pure ⟨_, rfl, wpAny_pure h⟩) small)
    | exact wpAny_bind (m := Builtin.Tuple.tupleExact _) (wpAny_newObj_type (wpAny_bind (wpAny_pure (wpAny_pure ⟨_, rfl, wpAny_pure h⟩))) small)
    | exact wpAny_bind (wpAny_bind (m := Builtin.Tuple.tupleExact _) (wpAny_newObj_type (wpAny_pure (wpAny_pure ⟨_, rfl, wpAny_pure h⟩)) small))
    | exact wpAny_bind (wpAny_bind (m := Builtin.Tuple.tupleExact _) (wpAny_newObj_type (wpAny_pure ⟨_, rfl, wpAny_pure h⟩) small))
end
section
variable {n : Nat} {G : Gd}
/-- e[::-1], a list or a tuple -/
def tRevA (K : PySem.W.Frag) (te : TE) : TE := fun σ H Q => te σ H fun x H1 => ∃ a xs, x = .ref a ∧
  ((SqL K H1 a xs ∧ ∀ p, H1 p = none → Q (.ref p) (upd H1 p (.lst xs.reverse))) ∨ (SqT K H1 a xs ∧ ∀ p, H1 p = none → Q (.ref p) (upd H1 p (.tup xs.reverse))))
theorem pe_revA {X : Cx} {e : Expr} {te : TE} {k : Nat} {p1 p2 p3 pos : Pos} (he : PE X e te) : PE X (.Subscript e (.Slice none none (some (.UnaryOp .USub (.Constant (.int 1) k p1) p2)) p3) pos) (tRevA X.K te) := by
  refine ⟨fun pins s σ H Q I h => ?_⟩
  refine Subscript_ (thn (he.run pins s σ H _ I h) fun v t1 ⟨x, H1, I1, r1, a, xs, hx, q⟩ => ?_)
  subst hx
  cases r1
  have step : PO X (some (.UnaryOp .USub (.Constant (.int 1) k p1) p2)) (tPart (tUn (rU fun i => .int (-i)) (tC (.int 1)))) := po_some (pe_un un_neg pe_int)
  refine wpAny_Slice (thn (po_none.run pins t1 σ H1 (fun o H2 => o = none ∧ H2 = H1) I1 ⟨rfl, rfl⟩) fun vl t2 ⟨l, H2, I2, pl, hl, h2⟩ => ?_)
  subst hl h2
  refine thn (po_none.run pins t2 σ H2 (fun o H3 => o = none ∧ H3 = H2) I2 ⟨rfl, rfl⟩) fun vu t3 ⟨u, H3, I3, pu, hu, h3⟩ => ?_
  subst hu h3
  refine thn (step.run pins t3 σ H3 (fun o H4 => o = some (-1) ∧ H4 = H3) I3 ⟨1, rfl, -1, rfl, rfl, rfl⟩) fun vs t4 ⟨o, H4, I4, ps, ho, h4⟩ => ?_
  subst ho h4
  have I5 : Inv X pins σ H4 { t4 with heap := t4.heap.push { cls := .type "slice", data := .fields #[vl, vu, vs] } } := I4.kept (t' := t4.toks) fun b ob z => Heap.get?_push_of_some _ z
  show wpAny (model X.prog X.w) X.A (subscriptTail e (.Slice none none (some (.UnaryOp .USub (.Constant (.int 1) k p1) p2)) p3) (.ref a) (.ref t4.heap.objs.size)) (EP X pins σ Q) X.xe
    { t4 with heap := t4.heap.push { cls := .type "slice", data := .fields #[vl, vu, vs] } }
  rcases q with ⟨hq, q⟩ | ⟨hq, q⟩
  · obtain ⟨its, r, ht, hz⟩ := I5.list hq
    have len := r.length
    refine tail_any (ops := [.ref a, .ref t4.heap.objs.size]) ht.isList.typeIs (PySem.slot_list_getitem.lookup) ?_ (by with_unfolding_all rfl)
    refine wpAny_getItem_list_slice ht.isList (Heap.IsSliceOf.new _ vl vu vs) pl pu ps (by decide) ?_ (by rw [List.size_toArray]; omega)
    rw [PySem.W.krv_pick]
    exact ⟨.ref _, _, I5.laid (t' := t4.toks) (o := .lst xs.reverse) (fun b ob z => Heap.get?_push_of_some _ z) (Nat.le_refl _)
      ⟨by rw [List.length_reverse]; exact hz, _, 0, r.reverse, Heap.get?_push_size _ rfl⟩, rfl, q _ (I5.hok.fresh (Nat.le_refl _))⟩
  · obtain ⟨its, r, ht, hz⟩ := I5.tuple hq
    have len := r.length
    refine tail_any (ops := [.ref a, .ref t4.heap.objs.size]) ht.typeIs (slot_tuple_getitem.lookup) ?_ (by with_unfolding_all rfl)
    refine getTupRev ht (Heap.IsSliceOf.new _ vl vu vs) pl pu ps (by rw [List.size_toArray]; omega) ?_
    exact ⟨.ref _, _, I5.laid (t' := t4.toks) (o := .tup xs.reverse) (fun b ob z => Heap.get?_push_of_some _ z) (Nat.le_refl _)
      ⟨by rw [List.length_reverse]; exact hz, _, r.reverse, _, Heap.get?_push_size _ rfl, rfl, 0, rfl⟩, rfl, q _ (I5.hok.fresh (Nat.le_refl _))⟩
theorem DRs.rev {K : PySem.W.Frag} {sa : Sa} {F : Hp} : ∀ {xs : List V} {ds : List D}, DRs K sa F xs ds → DRs K sa F xs.reverse ds.reverse
  | _, _, .nil => .nil
  | _, _, .cons h r => by
    rw [List.reverse_cons, List.reverse_cons]
    exact (DRs.rev r).append (.cons h .nil)
theorem se_rev {a : Xp} (ha : SE n G a) : SE n G (.rev a) := by
  intro X W osc x C h σ H F env S Q sr e s p
  rw [chkE] at h
  cases hc : revOf x with
  | none => rw [hc] at h; cases h
  | some y =>
  rw [hc] at h
  obtain ⟨k, p1, p2, p3, pos, rfl⟩ := revOf_eq hc
  rw [evE] at p
  refine .of (pe_revA we) (ha X W osc _ C h σ H F env S _ sr e s (p.bind.mono ?_ fun _ _ _ z => z))
  rintro v1 H1 ⟨m1, d1, S1, F1, q1, s1, w1, p1⟩
  cases d1 with
  | lst ds =>
    obtain ⟨b, us, rfl, k1, k2⟩ := w1.lst q1.fh
    exact ⟨b, us, rfl, .inl ⟨SqL.of k1, p1.newLst q1.fh s1 k2.rev⟩⟩
  | tup ds =>
    obtain ⟨b, us, rfl, k1, k2⟩ := w1.tup
    exact ⟨b, us, rfl, .inr ⟨ex_t q1.fh k1, p1.newTup q1.fh s1 k2.rev⟩⟩
  | _ => exact p1.elim
end
end Mp
set_option Elab.async false
set_option maxRecDepth 100000
set_option maxHeartbeats 4000000
/-! MpZ: zip(xs, ys, strict=True) of two tuples of one length. -/
namespace Mp
open PySem PySem.Spec PyProof.Rows L2 Evl RZ
/-- a strict zip -/
abbrev Zs (h : Heap) (z T O : Addr) (f : Value) : Prop :=
  h.get? z = some { cls := .type "zip", dict := none, data := .fields #[f, .bool false, .bool true, .ref T, .ref O], slots := #[] }
section
variable {P : Program} {w : World} {A : Around} {E : Value → Shared → Prop} {s : Shared}
theorem draw_item {it l : Addr} {i : Nat} {xs : Array Value} {x : Value} {Q : Option Value → Shared → Prop} (a1 : s.heap.IsTupleIter it l i) (a2 : s.heap.IsTuple l xs) (a3 : xs[i]? = some x)
    (q : ∀ h', h'.IsTupleIter it l (i + 1) → Heap.SameBut it s.heap h' → Q (some x) { s with heap := h' }) : wpAny (model P w) A (Builtin.SmallTypes.nextOrEnd (.ref it)) Q E s := by
  unfold Builtin.SmallTypes.nextOrEnd
  exact wpAny_bind (wpAny_attempt (nextOf_tuple_item a1 a2 a3 fun h' b1 b2 => wpAny_pure (q h' b1 b2)))
theorem draw_end {it l : Addr} {i : Nat} {xs : Array Value} {Q : Option Value → Shared → Prop} (hh : A.handled = none) (a1 : s.heap.IsTupleIter it l i) (a2 : s.heap.IsTuple l xs) (a3 : xs[i]? = none)
    (q : ∀ h', Heap.ExtBut it s.heap h' → Q none { s with heap := h' }) : wpAny (model P w) A (Builtin.SmallTypes.nextOrEnd (.ref it)) Q E s := by
  unfold Builtin.SmallTypes.nextOrEnd
  refine wpAny_bind (wpAny_attempt (nextOf_tuple_end hh a1 a2 a3 fun h' e b1 b2 => ?_))
  obtain ⟨o, b3, b4⟩ := b2
  exact wpAny_bind (wpAny_isInstance (T := "StopIteration") (b := true) ⟨o, b3, b4⟩ isSubtype_stop (wpAny_pure (q h' b1)))
theorem zs_item {z T O i1 i2 l1 l2 : Addr} {k1 k2 : Nat} {xs ys : Array Value} {x y a b : Value} {Q : Value → Shared → Prop} (D : ZipApart z T O i1 i2 l1 l2)
    (hz : Zs s.heap z T O .none) (hT : IsPair s.heap T (.ref i1) (.ref i2)) (hO : IsPair s.heap O a b)
    (h1 : s.heap.IsTupleIter i1 l1 k1) (h2 : s.heap.IsTupleIter i2 l2 k2) (t1 : s.heap.IsTuple l1 xs) (t2 : s.heap.IsTuple l2 ys) (hx : xs[k1]? = some x) (hy : ys[k2]? = some y)
    (q : ∀ h', Zs h' z T O (rawInt s.heap.objs.size) → IsPair h' O x y → h'.IsTupleIter i1 l1 (k1 + 1) → h'.IsTupleIter i2 l2 (k2 + 1) → IsPair h' s.heap.objs.size x y → h'.objs.size = s.heap.objs.size + 1 →
      (∀ c o, c ≠ z → c ≠ O → c ≠ i1 → c ≠ i2 → s.heap.get? c = some o → h'.get? c = some o) → Q (.ref s.heap.objs.size) { s with heap := h' }) :
    wpAny (model P w) A (Builtin.«zip.__next__» ⟨[.ref z], []⟩) (fun fin s' => ∃ v, fin = .done (.ret v) ∧ Q v s') E s := by
  show wpAny _ _ (field (.ref z) 2 >>= _) _ _ _
  refine wpAny_bind (wpAny_field hz rfl (x := .bool true) rfl ?_)
  show wpAny _ _ (field (.ref z) 3 >>= _) _ _ _
  refine wpAny_bind (wpAny_field hz rfl (x := .ref T) rfl (wpAny_bind (wpAny_seqItems hT rfl ?_)))
  show wpAny _ _ (Builtin.SmallTypes.ownedTupleIsFree (.ref z) >>= _) _ _ _
  refine wpAny_bind ?_
  unfold Builtin.SmallTypes.ownedTupleIsFree
  refine wpAny_bind (wpAny_field hz rfl (x := .none) rfl (wpAny_pure ?_))
  simp only [if_true]
  refine wpAny_bind (wpAny_rule (wpAny_bind (wpAny_field hz rfl (x := .ref O) rfl (wpAny_bind (wpAny_setField_rec hz (by simp) fun g1 z1 e1 => ?_)))))
  replace z1 : Zs g1 z T O .ellipsis := z1
  refine wpAny_bind ?_
  simp only [List.zipIdx_cons, List.zipIdx_nil, List.forIn_cons, List.forIn_nil]
  refine wpAny_bind (wpAny_bind (wpAny_onRaise ?_))
  show wpAny _ _ (Builtin.SmallTypes.nextOrEnd (.ref i1)) _ _ _
  refine draw_item (h1.extBut e1.extBut D.i1z) (t1.extBut e1.extBut D.l1z) hx fun g2 n1 e2 => ?_
  have o2 : IsPair g2 O a b := e2.extBut _ _ D.TOi1 (e1.extBut _ _ D.TOz hO)
  refine wpAny_bind (wpAny_seqItems o2 rfl (wpAny_bind (wpAny_updateSeq_pair o2 fun g3 o3 e3 => ?_)))
  replace o3 : IsPair g3 O x b := o3
  refine wpAny_bind (wpAny_letGo (wpAny_pure (wpAny_bind (wpAny_bind (wpAny_onRaise ?_)))))
  show wpAny _ _ (Builtin.SmallTypes.nextOrEnd (.ref i2)) _ _ _
  refine draw_item (((h2.extBut e1.extBut D.i2z).extBut e2.extBut D.i12.symm).extBut e3.extBut D.TOi2.symm) (((t2.extBut e1.extBut D.l2z).extBut e2.extBut D.l2i1).extBut e3.extBut D.l2TO) hy fun g4 n2 e4 => ?_
  have o4 : IsPair g4 O x b := e4.extBut _ _ D.TOi2 o3
  refine wpAny_bind (wpAny_seqItems o4 rfl (wpAny_bind (wpAny_updateSeq_pair o4 fun g5 o5 e5 => ?_)))
  replace o5 : IsPair g5 O x y := o5
  refine wpAny_bind (wpAny_letGo (wpAny_pure (wpAny_pure (wpAny_bind (wpAny_seqItems o5 rfl (wpAny_bind (wpAny_newTuple ?_)))))))
  have sz : g5.objs.size = s.heap.objs.size := by rw [e5.1, e4.1, e3.1, e2.1, e1.1]
  have z5 : Zs g5 z T O .ellipsis := e5.extBut _ _ D.TOz.symm (e4.extBut _ _ D.i2z.symm (e3.extBut _ _ D.TOz.symm (e2.extBut _ _ D.i1z.symm z1)))
  have kp : ∀ c o, c ≠ z → c ≠ O → c ≠ i1 → c ≠ i2 → s.heap.get? c = some o → g5.get? c = some o := fun c o c1 c2 c3 c4 e =>
    e5.extBut _ _ c2 (e4.extBut _ _ c4 (e3.extBut _ _ c2 (e2.extBut _ _ c3 (e1.extBut _ _ c1 e))))
  have m1 : g5.IsTupleIter i1 l1 (k1 + 1) := ((n1.extBut e3.extBut D.TOi1.symm).extBut e4.extBut D.i12).extBut e5.extBut D.TOi1.symm
  have m2 : g5.IsTupleIter i2 l2 (k2 + 1) := n2.extBut e5.extBut D.TOi2.symm
  have zl : z < g5.objs.size := Heap.lt_size z5
  show wpAny _ _ (Builtin.SmallTypes.ownedTupleHandOut (.ref z) (.ref g5.objs.size) >>= _) _ _ _
  refine wpAny_bind ?_
  unfold Builtin.SmallTypes.ownedTupleHandOut
  have z6 : Zs (g5.push { cls := .type "tuple", data := .seq #[x, y] }) z T O .ellipsis := Heap.get?_push_of_some _ z5
  refine wpAny_bind (wpAny_setField_rec z6 (by simp) fun g7 z7 e7 => ?_)
  replace z7 : Zs g7 z T O (rawInt g5.objs.size) := z7
  refine wpAny_setField_rec z7 (by simp) fun g8 z8 e8 => ?_
  replace z8 : Zs g8 z T O (rawInt g5.objs.size) := z8
  have up : ∀ c o, c ≠ z → g5.get? c = some o → g8.get? c = some o := fun c o c1 e => e8.extBut _ _ c1 (e7.extBut _ _ c1 (Heap.get?_push_of_some _ e))
  have new8 : IsPair g8 g5.objs.size x y := e8.extBut _ _ (Nat.ne_of_gt zl) (e7.extBut _ _ (Nat.ne_of_gt zl) (Heap.get?_push_size _ rfl))
  have s8 : g8.objs.size = g5.objs.size + 1 := by rw [e8.1, e7.1, Heap.size_push]
  rw [sz] at z8 new8 s8
  refine wpAny_pure ⟨_, rfl, ?_⟩
  show Q (.ref g5.objs.size) _
  rw [sz]
  exact q g8 z8 (up _ _ D.TOz o5) (m1.at fun o e => up _ o D.i1z e) (m2.at fun o e => up _ o D.i2z e) new8 s8 fun c o c1 c2 c3 c4 e => up c o c1 (kp c o c1 c2 c3 c4 e)
theorem zs_end {z T O i1 i2 l1 l2 : Addr} {k1 k2 : Nat} {xs ys : Array Value} {a b : Value} {Q : Fin → Shared → Prop} (hh : A.handled = none) (D : ZipApart z T O i1 i2 l1 l2)
    (hz : Zs s.heap z T O .none) (hT : IsPair s.heap T (.ref i1) (.ref i2)) (hO : IsPair s.heap O a b)
    (h1 : s.heap.IsTupleIter i1 l1 k1) (h2 : s.heap.IsTupleIter i2 l2 k2) (t1 : s.heap.IsTuple l1 xs) (t2 : s.heap.IsTuple l2 ys) (hx : xs[k1]? = none) (hy : ys[k2]? = none)
    (q : ∀ h' e, (∀ c o, c ≠ z → c ≠ O → c ≠ i1 → c ≠ i2 → s.heap.get? c = some o → h'.get? c = some o) → (∃ o, h'.get? e = some o ∧ o.cls = .type "StopIteration") → E (.ref e) { s with heap := h' }) :
    wpAny (model P w) A (Builtin.«zip.__next__» ⟨[.ref z], []⟩) Q E s := by
  show wpAny _ _ (field (.ref z) 2 >>= _) _ _ _
  refine wpAny_bind (wpAny_field hz rfl (x := .bool true) rfl ?_)
  show wpAny _ _ (field (.ref z) 3 >>= _) _ _ _
  refine wpAny_bind (wpAny_field hz rfl (x := .ref T) rfl (wpAny_bind (wpAny_seqItems hT rfl ?_)))
  show wpAny _ _ (Builtin.SmallTypes.ownedTupleIsFree (.ref z) >>= _) _ _ _
  refine wpAny_bind ?_
  unfold Builtin.SmallTypes.ownedTupleIsFree
  refine wpAny_bind (wpAny_field hz rfl (x := .none) rfl (wpAny_pure ?_))
  simp only [if_true]
  refine wpAny_bind (wpAny_rule (wpAny_bind (wpAny_field hz rfl (x := .ref O) rfl (wpAny_bind (wpAny_setField_rec hz (by simp) fun g1 z1 e1 => ?_)))))
  replace z1 : Zs g1 z T O .ellipsis := z1
  refine wpAny_bind ?_
  simp only [List.zipIdx_cons, List.zipIdx_nil, List.forIn_cons, List.forIn_nil]
  refine wpAny_bind (wpAny_bind (wpAny_onRaise ?_))
  show wpAny _ _ (Builtin.SmallTypes.nextOrEnd (.ref i1)) _ _ _
  refine draw_end hh (h1.extBut e1.extBut D.i1z) (t1.extBut e1.extBut D.l1z) hx fun g2 e2 => ?_
  have z2 : Zs g2 z T O .ellipsis := e2 _ _ D.i1z.symm z1
  refine wpAny_bind (wpAny_setField_rec z2 (by simp) fun g3 z3 e3 => ?_)
  refine wpAny_bind ?_
  refine wpAny_bind ?_
  rw [show (List.drop 1 [Value.ref i1, Value.ref i2]).zipIdx 1 = [(Value.ref i2, 1)] from rfl, List.forIn_cons]
  refine wpAny_bind (wpAny_bind ?_)
  have i2n : i2 ≠ i1 := D.i12.symm
  refine draw_end hh (((h2.extBut e1.extBut D.i2z).extBut e2 i2n).extBut e3.extBut D.i2z) (((t2.extBut e1.extBut D.l2z).extBut e2 D.l2i1).extBut e3.extBut D.l2z) hy fun g4 e4 => ?_
  refine wpAny_pure ?_
  show wpAny _ _ (pure PUnit.unit) _ _ _
  refine wpAny_pure (wpAny_bind (wpAny_rule ?_))
  unfold Builtin.SmallTypes.stopIteration
  refine wpAny_bind ?_
  simp only [newExc, newTuple]
  refine wpAny_bind (wpAny_newObj_type (wpAny_bind (m := firstArgMember _ _) (wpAny_of_eq (a := Value.none) (by first | rfl | (simp only [firstArgMember]; rfl)) ?_)) (by size_fits))
  refine wpAny_newObj_type ?_ (by size_fits)
  simp only [raiseNew]
  refine wpAny_bind (wpAny_handled ?_)
  rw [hh]
  refine wpAny_bind (wpAny_pure (wpAny_throw ?_))
  refine q _ _ (fun c o c1 c2 c3 c4 e => ?_) ⟨_, Heap.get?_push_size _ rfl, rfl⟩
  exact Heap.get?_push_of_some _ (Heap.get?_push_of_some _ (e4 _ _ c4 (e3.extBut _ _ c1 (e2 _ _ c3 (e1.extBut _ _ c1 e)))))
theorem zs_next {z T O i1 i2 l1 l2 : Addr} {k1 k2 : Nat} {xs ys : Array Value} {x y a b : Value} {Q : Option Value → Shared → Prop} (D : ZipApart z T O i1 i2 l1 l2)
    (hz : Zs s.heap z T O .none) (hT : IsPair s.heap T (.ref i1) (.ref i2)) (hO : IsPair s.heap O a b)
    (h1 : s.heap.IsTupleIter i1 l1 k1) (h2 : s.heap.IsTupleIter i2 l2 k2) (t1 : s.heap.IsTuple l1 xs) (t2 : s.heap.IsTuple l2 ys) (hx : xs[k1]? = some x) (hy : ys[k2]? = some y)
    (q : ∀ h', Zs h' z T O (rawInt s.heap.objs.size) → IsPair h' O x y → h'.IsTupleIter i1 l1 (k1 + 1) → h'.IsTupleIter i2 l2 (k2 + 1) → IsPair h' s.heap.objs.size x y → h'.objs.size = s.heap.objs.size + 1 →
      (∀ c o, c ≠ z → c ≠ O → c ≠ i1 → c ≠ i2 → s.heap.get? c = some o → h'.get? c = some o) → Q (some (.ref s.heap.objs.size)) { s with heap := h' }) :
    wpAny (model P w) A (pyNext (.ref z)) Q E s := by
  have ty : s.TypeIs (.ref z) "zip" := ⟨_, hz, rfl⟩
  unfold pyNext
  refine wpAny_bind (wpAny_attempt (wpAny_callSpecial?_slot (name := Str.ofString "__next__") ty F.slot_zip_next (wpAny_call_entry F.slot_zip_next ty F.entry_zip_next ?_ (F.args_zip_next_1 _))))
  exact zs_item D hz hT hO h1 h2 t1 t2 hx hy fun h' b1 b2 b3 b4 b5 b6 b7 => wpAny_pure (q h' b1 b2 b3 b4 b5 b6 b7)
theorem zs_stop {z T O i1 i2 l1 l2 : Addr} {k1 k2 : Nat} {xs ys : Array Value} {a b : Value} {Q : Option Value → Shared → Prop} (hh : A.handled = none) (D : ZipApart z T O i1 i2 l1 l2)
    (hz : Zs s.heap z T O .none) (hT : IsPair s.heap T (.ref i1) (.ref i2)) (hO : IsPair s.heap O a b)
    (h1 : s.heap.IsTupleIter i1 l1 k1) (h2 : s.heap.IsTupleIter i2 l2 k2) (t1 : s.heap.IsTuple l1 xs) (t2 : s.heap.IsTuple l2 ys) (hx : xs[k1]? = none) (hy : ys[k2]? = none)
    (q : ∀ h', (∀ c o, c ≠ z → c ≠ O → c ≠ i1 → c ≠ i2 → s.heap.get? c = some o → h'.get? c = some o) → Q none { s with heap := h' }) : wpAny (model P w) A (pyNext (.ref z)) Q E s := by
  have ty : s.TypeIs (.ref z) "zip" := ⟨_, hz, rfl⟩
  unfold pyNext
  refine wpAny_bind (wpAny_attempt (wpAny_callSpecial?_slot (name := Str.ofString "__next__") ty F.slot_zip_next (wpAny_call_entry F.slot_zip_next ty F.entry_zip_next (zs_end hh D hz hT hO h1 h2 t1 t2 hx hy fun h' e kp b2 => ?_) (F.args_zip_next_1 _))))
  obtain ⟨o, b3, b4⟩ := b2
  exact wpAny_bind (wpAny_isInstance (T := "StopIteration") (b := true) ⟨o, b3, b4⟩ isSubtype_stop (wpAny_pure (q _ kp)))
theorem zs_iter {z T O : Addr} {f : Value} {Q : Value → Shared → Prop} (hz : Zs s.heap z T O f) (h : Q (.ref z) s) : wpAny (model P w) A (pyIter (.ref z)) Q E s := by
  have ty : s.TypeIs (.ref z) "zip" := ⟨_, hz, rfl⟩
  refine wpAny_pyIter_slot ty F.slot_zip_iter (wpAny_call_entry F.slot_zip_iter ty F.entry_zip_iter ?_ (F.args_zip_iter_1 _))
  show wpAny _ _ (ret (.ref z)) _ _ s
  exact wpAny_pure ⟨_, rfl, "zip", _, ty, F.slot_zip_next.lookup, h⟩
theorem zs_letgo {elts : List Expr} {n : Nat} {pos : Pos} {z T O N : Addr} {Q : Unit → Shared → Prop} (hz : Zs s.heap z T O (rawInt N))
    (q : ∀ h', Zs h' z T O .none → Heap.SameBut z s.heap h' → Q () { s with heap := h' }) : wpAny (model P w) A (letOwnedTupleGo (.Tuple elts n pos) (.ref z) (.ref N)) Q E s := by
  unfold letOwnedTupleGo
  refine wpAny_bind (wpAny_load hz ?_)
  show wpAny _ _ (if (["enumerate", "zip", "dict_itemiterator", "dict_reverseitemiterator", "odict_iterator", "itertools.zip_longest", "itertools.pairwise"].contains "zip" && (#[rawInt N, .bool false, .bool true, .ref T, .ref O] : Array Value)[0]? == some (rawInt N)) = true then _ else _) Q E s
  rw [if_pos (by simp)]
  refine wpAny_bind (wpAny_rule ?_)
  show wpAny _ _ (setField (.ref z) 0 .none) Q E s
  exact wpAny_setField_rec hz (by simp) fun h' b1 b2 => q h' b1 b2
end
abbrev zsA (h : Heap) (a : Addr) : Heap := h.push { cls := .type "tuple_iterator", data := .fields #[.ref a, .int 0 0] }
abbrev zsB (h : Heap) (a b : Addr) : Heap := (zsA h a).push { cls := .type "tuple_iterator", data := .fields #[.ref b, .int 0 0] }
abbrev zsC (h : Heap) (a b : Addr) : Heap := (zsB h a b).push { cls := .type "tuple", data := .seq #[.ref h.objs.size, .ref (zsA h a).objs.size] }
abbrev zsD (h : Heap) (a b : Addr) : Heap := (zsC h a b).push { cls := .type "tuple", data := .seq #[.none, .none] }
abbrev zsE (h : Heap) (a b : Addr) : Heap := (zsD h a b).push { cls := .type "zip", data := .fields #[.none, .bool false, .bool true, .ref (zsB h a b).objs.size, .ref (zsC h a b).objs.size] }
theorem zs_new (a b : Addr) (xs ys : Array Value) : Meets (Builtin.«zip.__new__» ⟨[.type "zip", .ref a, .ref b], [(Str.ofString "strict", .bool true)]⟩) (fun _ R s => s.heap.IsTuple a xs ∧ s.heap.IsTuple b ys ∧
      R (.ok (.ret (.ref (zsD s.heap a b).objs.size))) { s with heap := zsE s.heap a b }) :=
  .of_wp fun P w A R s h => by
    obtain ⟨hp, g, d, tk, os⟩ := s
    obtain ⟨t1, t2, h⟩ := h
    have sub := sub_zip
    have q1 : Heap.IsTuple (Shared.heap ⟨hp, g, d, tk, os⟩) a xs := t1
    have q2 : Heap.IsTuple (Shared.heap ⟨hp.push { cls := .type "tuple_iterator", data := .fields #[.ref a, .int 0 0] }, g, d, tk, os⟩) b ys := Heap.IsTuple.push t2 _
    have s1 : (Str.ofString "strict" != ("strict" : Str)) = false := by decide +kernel
    have s2 : (Str.ofString "strict" == ("strict" : Str)) = true := by decide +kernel
    wp_walk using wpAny_pyIter_tuple q1, wpAny_pyIter_tuple q2
    exact ⟨_, rfl, h⟩
theorem zs_tc (a b : Value) : checkTypeCall "zip" ⟨[a, b], [(Str.ofString "strict", .bool true)]⟩ = pure () := by kernel_rfl
theorem zs_nc (a b : Value) : checkBuiltinCall "zip.__new__" ⟨[.type "zip", a, b], [(Str.ofString "strict", .bool true)]⟩ = pure () := by kernel_rfl
theorem zs_ai (o a b : Value) : argsOk "object.__init__" ⟨[o, a, b], [(Str.ofString "strict", .bool true)]⟩ := by unfold argsOk; kernel_rfl
end Mp
set_option Elab.async false
set_option maxRecDepth 100000
set_option maxHeartbeats 4000000
/-! MpZ2: a walk over zip(xs, ys, strict=True). -/
namespace Mp
open PySem PySem.Spec PyProof.Rows L2 Evl RZ
/-- the tuples at a and b, of one length, the items in new pairs -/
def Itzs (K : PySem.W.Frag) (a b : Addr) : L2.It :=
  ⟨fun i H => ∃ (xs ys : List V) (x y : V), SqT K H a xs ∧ SqT K H b ys ∧ xs[i]? = some x ∧ ys[i]? = some y,
    fun i H v H' => ∃ N x y, v = .ref N ∧ H N = none ∧ H' = upd H N (.tup [x, y]) ∧ (∀ xs, SqT K H a xs → xs[i]? = some x) ∧ ∀ ys, SqT K H b ys → ys[i]? = some y,
    fun i H => ∃ xs ys : List V, SqT K H a xs ∧ SqT K H b ys ∧ xs.length ≤ i ∧ ys.length ≤ i⟩
theorem walk_zs {K : PySem.W.Frag} {a b : Addr} {xs ys : List V} (hl : xs.length = ys.length) : Walk (Itzs K a b) xs.length (fun H => SqT K H a xs ∧ SqT K H b ys) (YPair (fun i => xs[i]?) (fun i => ys[i]?)) := by
  refine ⟨fun i _ hi q => ?_, fun _ q => ⟨xs, ys, q.1, q.2, Nat.le_refl _, by omega⟩, fun i H v H' _ q y => ?_⟩
  · have h2 : i < ys.length := by omega
    exact ⟨xs, ys, xs[i], ys[i], q.1, q.2, by simp [hi], by simp [h2]⟩
  · obtain ⟨N, x, z, h1, h2, h3, h4, h5⟩ := y
    exact ⟨N, x, z, h1, h2, h3, h4 xs q.1, h5 ys q.2⟩
theorem turn_zs {P : Program} {w : World} {K : PySem.W.Frag} {elts : List Expr} {n : Nat} {tpos : Pos} {a b z T O i1 i2 : Addr} (D : ZipApart z T O i1 i2 a b) :
    Turn P w K (.Tuple elts n tpos) (Itzs K a b) [z, T, O, i1, i2] z (fun i h => Zs h z T O .none ∧ IsPair h T (.ref i1) (.ref i2) ∧ (∃ x y, IsPair h O x y) ∧ h.IsTupleIter i1 a i ∧ h.IsTupleIter i2 b i) where
  mem := by simp
  obj := fun i h st c hc => by
    obtain ⟨hz, hT, ⟨x, y, hO⟩, ⟨o1, e1, _, d1⟩, ⟨o2, e2, _, d2⟩⟩ := st
    have five : c = z ∨ c = T ∨ c = O ∨ c = i1 ∨ c = i2 := by simpa using hc
    rcases five with q | q | q | q | q <;> rw [q]
    · exact ⟨_, hz, fun v q => nomatch q⟩
    · exact ⟨_, hT, fun v q => nomatch q⟩
    · exact ⟨_, hO, fun v q => nomatch q⟩
    · exact ⟨o1, e1, fun v q => by rw [d1] at q; cases q⟩
    · exact ⟨o2, e2, fun v q => by rw [d2] at q; cases q⟩
  keep := fun i h h' st k => by
    obtain ⟨hz, hT, ⟨x, y, hO⟩, h1, h2⟩ := st
    exact ⟨k z (by simp) _ hz, k T (by simp) _ hT, ⟨x, y, k O (by simp) _ hO⟩, h1.at fun o q => k i1 (by simp) o q, h2.at fun o q => k i2 (by simp) o q⟩
  item := by
    intro X hP hw hK hc i pins s σ H E I hf st hg
    subst hP hw hK
    obtain ⟨hz, hT, ⟨x0, y0, hO⟩, h1, h2⟩ := st
    obtain ⟨xs, ys, x, y, qx, qy, hx, hy⟩ := hg
    obtain ⟨us, rv, p, _⟩ := I.tuple qx
    obtain ⟨us2, rv2, p2, _⟩ := I.tuple qy
    obtain ⟨u, hu, ru⟩ := rv.get hx
    obtain ⟨u2, hu2, ru2⟩ := rv2.get hy
    have zl : z < s.heap.objs.size := Heap.lt_size hz
    refine zs_next D hz hT hO h1 h2 p p2 (x := u) (y := u2) (by simpa using hu) (by simpa using hu2) fun h' z' O' n1 n2 nT sz kp => ?_
    refine ⟨_, rfl, zs_letgo (s := { s with heap := h' }) z' fun h'' z'' sb => ?_⟩
    have new2 : h''.get? s.heap.objs.size = some { cls := .type "tuple", data := .seq #[u, u2] } := (sb.2 _ (Nat.ne_of_gt zl)).trans nT
    have new : ObjOk X.prog X.w (upd H s.heap.objs.size (.tup [x, y])) h'' s.heap.objs.size (.tup [x, y]) :=
      ⟨by show 2 ≤ sizeLine; decide, [u, u2], .cons ru (.cons ru2 .nil), ⟨_, new2, rfl, _, rfl⟩⟩
    have I1 : Inv X pins σ (upd H s.heap.objs.size (.tup [x, y])) { s with heap := h'' } := by
      refine I.turnedNew (t' := s.toks) (ch := [z, T, O, i1, i2]) (fun c o hb q => ?_) hf (Nat.le_refl _) new
      exact (sb.2 c (fun q' => hb (by simp [q']))).trans (kp c o (fun q' => hb (by simp [q'])) (fun q' => hb (by simp [q'])) (fun q' => hb (by simp [q'])) (fun q' => hb (by simp [q'])) q)
    refine ⟨.ref s.heap.objs.size, _, I1, rfl, ⟨_, x, y, rfl, I.hok.fresh (Nat.le_refl _), rfl, fun l hl => by rw [I.tuple_inj hl qx]; exact hx, fun l hl => by rw [I.tuple_inj hl qy]; exact hy⟩, ⟨z'', ?_, ⟨u, u2, ?_⟩, ?_, ?_⟩, fun c hcm => ?_⟩
    · exact (sb.2 _ D.TIz).trans (kp _ _ D.TIz D.TITO D.TIi1 D.TIi2 hT)
    · exact (sb.2 _ D.TOz).trans O'
    · exact n1.at fun o q => (sb.2 _ D.i1z).trans q
    · exact n2.at fun o q => (sb.2 _ D.i2z).trans q
    · have lt : c < s.heap.objs.size := by
        have five : c = z ∨ c = T ∨ c = O ∨ c = i1 ∨ c = i2 := by simpa using hcm
        rcases five with q | q | q | q | q <;> rw [q]
        · exact zl
        · exact Heap.lt_size hT
        · exact Heap.lt_size hO
        · obtain ⟨_, e1, _⟩ := h1; exact Heap.lt_size e1
        · obtain ⟨_, e2, _⟩ := h2; exact Heap.lt_size e2
      rw [upd_ne (Nat.ne_of_lt lt)]
      exact (hf c hcm).1
  done := by
    intro X hP hw hK hc i pins s σ H E I hf st hg
    subst hP hw hK
    obtain ⟨hz, hT, ⟨x0, y0, hO⟩, h1, h2⟩ := st
    obtain ⟨xs, ys, qx, qy, end1, end2⟩ := hg
    obtain ⟨us, rv, p, _⟩ := I.tuple qx
    obtain ⟨us2, rv2, p2, _⟩ := I.tuple qy
    have l1 := rv.length
    have l2 := rv2.length
    refine zs_stop (I.ok.hd hc) D hz hT hO h1 h2 p p2 (by simp; omega) (by simp; omega) fun h' kp => ⟨rfl, I.turnedL (t' := s.toks) (ch := [z, T, O, i1, i2]) (fun c o hb q => ?_) hf⟩
    exact kp c o (fun q' => hb (by simp [q'])) (fun q' => hb (by simp [q'])) (fun q' => hb (by simp [q'])) (fun q' => hb (by simp [q'])) q
  self := fun A i s Q E st h => zs_iter st.1 h
section
variable {M : Model} {A : Around} {E : Value → Shared → Prop} {s : Shared}
/-- a built-in type called with keywords -/
theorem callTK {pos : Pos} {T : String} {args : List (Bool × Sem Value)} {kws : List (Option Str × Sem Value)} {Q : Value → Shared → Prop} (hp : args.any (·.1) = false) (hk : kws.any (·.1.isNone) = false)
    (h : wpAny M A (evalArgs (.type T) true args kws) (fun a s1 => wpAny M A (call (.type T) a.pos a.kw) Q E s1) E s) : wpAny M A (callWith pos (.type T) [] args kws) Q E s := by
  unfold callWith
  refine wpAny_bind (wpAny_holding (wpAny_mono h (fun a s1 h1 => wpAny_bind (wpAny_standAt ?_)) fun _ _ x => x))
  simp only [hp, hk, Bool.or_false]
  refine wpAny_bind (wpAny_pure (wpAny_bind (wpAny_mono h1 (fun r s2 hr => ?_) fun _ _ x => x)))
  exact wpAny_bind (wpAny_holding (wpAny_point (wpAny_pure hr)))
end
section
variable {P : Program} {w : World} {A : Around} {E : Value → Shared → Prop} {s : Shared}
theorem zs_call {a b : Addr} {xs ys : Array Value} {Q : Value → Shared → Prop} (t1 : s.heap.IsTuple a xs) (t2 : s.heap.IsTuple b ys)
    (q : ∀ h', Zs h' (s.heap.objs.size + 4) (s.heap.objs.size + 2) (s.heap.objs.size + 3) .none → IsPair h' (s.heap.objs.size + 2) (.ref s.heap.objs.size) (.ref (s.heap.objs.size + 1)) →
      IsPair h' (s.heap.objs.size + 3) .none .none → h'.IsTupleIter s.heap.objs.size a 0 → h'.IsTupleIter (s.heap.objs.size + 1) b 0 → (∀ c o, s.heap.get? c = some o → h'.get? c = some o) → Q (.ref (s.heap.objs.size + 4)) { s with heap := h' }) :
    wpAny (model P w) A (call (.type "zip") [.ref a, .ref b] [(Str.ofString "strict", .bool true)]) Q E s := by
  refine callType_newKw F.called_zip (by decide) (zs_tc _ _) (zs_nc _ _) (fun o => zs_ai o _ _) F.entry_zip_new (zs_new a b xs ys) ⟨t1, t2, ?_⟩
  have z1 : (zsA s.heap a).objs.size = s.heap.objs.size + 1 := Heap.size_push ..
  have z2 : (zsB s.heap a b).objs.size = s.heap.objs.size + 2 := by rw [Heap.size_push, z1]
  have z3 : (zsC s.heap a b).objs.size = s.heap.objs.size + 3 := by rw [Heap.size_push, z2]
  have z4 : (zsD s.heap a b).objs.size = s.heap.objs.size + 4 := by rw [Heap.size_push, z3]
  have g5 : (zsE s.heap a b).get? (zsD s.heap a b).objs.size = some _ := Heap.get?_push_size _ rfl
  have g4 : (zsE s.heap a b).get? (zsC s.heap a b).objs.size = some _ := Heap.get?_push_of_some _ (Heap.get?_push_size _ rfl)
  have g3 : (zsE s.heap a b).get? (zsB s.heap a b).objs.size = some _ := Heap.get?_push_of_some _ (Heap.get?_push_of_some _ (Heap.get?_push_size _ rfl))
  have g2 : (zsE s.heap a b).get? (zsA s.heap a).objs.size = some _ := Heap.get?_push_of_some _ (Heap.get?_push_of_some _ (Heap.get?_push_of_some _ (Heap.get?_push_size _ rfl)))
  have g1 : (zsE s.heap a b).get? s.heap.objs.size = some _ := Heap.get?_push_of_some _ (Heap.get?_push_of_some _ (Heap.get?_push_of_some _ (Heap.get?_push_of_some _ (Heap.get?_push_size _ rfl))))
  show _ ∧ _
  rw [z2, z3, z4] at g5
  rw [z1, z2] at g3
  rw [z3] at g4
  rw [z1] at g2
  rw [z4]
  exact ⟨⟨_, g5, rfl⟩, q _ g5 g3 g4 ⟨_, g1, rfl, rfl⟩ ⟨_, g2, rfl, rfl⟩ fun c o x => Heap.get?_push_of_some _ (Heap.get?_push_of_some _ (Heap.get?_push_of_some _ (Heap.get?_push_of_some _ (Heap.get?_push_of_some _ x))))⟩
end
def iZs (K : PySem.W.Frag) (ta : TA) : TI := fun σ H R => ta σ H fun vs H1 => ∃ a b xs ys, vs = [.ref a, .ref b] ∧ SqT K H1 a xs ∧ SqT K H1 b ys ∧ R (Itzs K a b) H1
theorem pi_zs {X : Cx} {e e2 : Expr} {ta : TA} {p pos tpos kp cp : Pos} {kc : Nat} {elts : List Expr} {n : Nat} (hg : Gl X "zip") (hm : X.mg "zip" = none) (ha : PA X [e, e2] ta)
    (hs : starEach [e, e2] X.env = (false, eval e X.env) :: starEach [e2] X.env) (hpl : (backTo pos (starEach [e2] X.env)).any (·.1) = false) :
    PI X (.Tuple elts n tpos) (.Call (.Name "zip" p) [e, e2] [⟨some (Str.ofString "strict"), .Constant (.bool true) kc cp, kp⟩] pos) (iZs X.K ta) := by
  refine ⟨fun pins s σ H R I h => ?_⟩
  refine wpAny_Call_Name_kw (ld_blt I hg hm PyProof.Rows.boot_zip ?_)
  have run := ha.run pos pins s σ H _ I h
  rw [hs] at run ⊢
  refine callTK (by show (false || (backTo pos (starEach [e2] X.env)).any (·.1)) = false; rw [hpl]; rfl) rfl (evalArgs_kwB rfl (thn run fun us s1 ⟨vs, H1, I1, r1, q1⟩ => ?_))
  refine thn ((pk_cons (nm := some (Str.ofString "strict")) (kpos := kp) (pe_bl (X := X) (b := true)) pk_nil).run pos pins s1 σ H1 (fun zs H2 => zs = [.bl true] ∧ H2 = H1) I1 ⟨rfl, rfl⟩) fun ws s2 ⟨zs, H2, I2, rz, ez, eH⟩ => ?_
  subst ez eH
  have ew : ws = [.bool true] := by
    cases rz with
    | cons r rr => cases rr; cases r; rfl
  subst ew
  obtain ⟨a, b, xs, ys, ex, qx, qy, q⟩ := q1
  subst ex
  have eu : us = [.ref a, .ref b] := by
    cases r1 with
    | cons r rr => cases rr with
      | cons r' rr => cases rr; cases r; cases r'; rfl
  subst eu
  obtain ⟨u1, rv, p1, _⟩ := I2.tuple qx
  obtain ⟨u2, rv2, p2, _⟩ := I2.tuple qy
  obtain ⟨o1, ho1, _⟩ := id p1
  obtain ⟨o2, ho2, _⟩ := id p2
  have five : ∀ c, c ∈ [s2.heap.objs.size + 4, s2.heap.objs.size + 2, s2.heap.objs.size + 3, s2.heap.objs.size, s2.heap.objs.size + 1] → FpOk X pins H2 c := fun c hcm => by
    have le : s2.heap.objs.size ≤ c := by
      simp only [List.mem_cons, List.not_mem_nil, or_false] at hcm
      omega
    exact I2.fpOk le (I2.hok.fresh le)
  refine zs_call (show s2.heap.IsTuple a u1.toArray from p1) (show s2.heap.IsTuple b u2.toArray from p2) fun h' hz hT hO h1 h2 kp' => zs_iter hz ?_
  exact ⟨s2.heap.objs.size + 4, [s2.heap.objs.size + 4, s2.heap.objs.size + 2, s2.heap.objs.size + 3, s2.heap.objs.size, s2.heap.objs.size + 1], _, _, H2, rfl, I2.kept (t' := s2.toks) kp', turn_zs (PySem.W.ktu_apart s2.heap.objs.size a b (Heap.lt_size ho1) (Heap.lt_size ho2)), ⟨hz, hT, ⟨_, _, hO⟩, h1, h2⟩, five, q⟩
end Mp
set_option Elab.async false
set_option maxRecDepth 100000
set_option maxHeartbeats 4000000
/-! MpL: list(range(n)); a walk over a strict zip. -/
namespace Mp
open PySem L2 Evl
theorem rg_drs {K : PySem.W.Frag} {sa : Sa} {F : Hp} (n : Int) : DRs K sa F (rgV 0 n) (rangeD 0 n) := by
  unfold rgV rangeD
  have k : ∀ l : List Nat, DRs K sa F (l.map fun i => V.int ((0 : Int) + (i : Nat))) (l.map fun (i : Nat) => D.int ((0 : Int) + i)) := by
    intro l
    induction l with
    | nil => exact .nil
    | cons x l ih => exact .cons (.int _) ih
  exact k _
theorem zipD_len {xs ys : List D} (h : xs.length = ys.length) : (zipD xs ys).length = xs.length := by
  unfold zipD
  rw [List.length_map, List.length_zip]
  omega
theorem zipD_at {xs ys : List D} {i : Nat} {x y : D} (h1 : xs[i]? = some x) (h2 : ys[i]? = some y) : (zipD xs ys)[i]? = some (.tup [x, y]) := by
  unfold zipD
  rw [List.getElem?_map, show (xs.zip ys)[i]? = some (x, y) from List.getElem?_zip_eq_some.mpr ⟨h1, h2⟩]
  rfl
section
variable {K : PySem.W.Frag} {sa : Sa} {F H : Hp}
theorem WalkD.zs {br : Bool} {a b : Addr} {xs ys : List V} {ds es : List D} (h1 : SqT K F a xs) (h2 : SqT K F b ys) (e0 : Ex F H) (r1 : DRs K sa F xs ds) (r2 : DRs K sa F ys es) (hl : ds.length = es.length) : WalkD K sa br F H (Itzs K a b) (zipD ds es) := by
  have l1 := r1.length
  have l2 := r2.length
  refine ⟨fun H => SqT K H a xs ∧ SqT K H b ys, _, by rw [zipD_len hl, ← l1]; exact walk_zs (K := K) (a := a) (b := b) (xs := xs) (ys := ys) (by omega), fun F2 H2 g => ⟨ex_t (g.ff.trans g.fh) h1, ex_t (g.ff.trans g.fh) h2⟩, fun _ F2 H2 e1 e2 => ⟨ex_t (e1.trans e2) h1, ex_t (e1.trans e2) h2⟩, fun i F2 H2 x H3 e1 e2 _ y => ?_⟩
  obtain ⟨p, u, v, rfl, hn, rfl, hu, hv⟩ := y
  obtain ⟨d, hd, q⟩ := r1.getV hu
  obtain ⟨d', hd', q'⟩ := r2.getV hv
  refine ⟨_, _, zipD_at hd hd', Gr.newF e2 hn, fun S s => ?_, .tup (Or.inl (Or.inl upd_same)) (.cons ((q.mono e1).mono (Ex.new (fresh_back e2 hn))) (.cons ((q'.mono e1).mono (Ex.new (fresh_back e2 hn))) .nil))⟩
  exact (s.new hn).fz (fun z => by rw [z] at hn; exact s.n1 hn) (fun z => by rw [z] at hn; exact s.n2 hn)
end
section
variable {n : Nat} {G : Gd}
theorem si_zips {a b : Xp} (ha : SE n G a) (hb : SE n G b) : SI n G (.zips a b) := by
  intro X W osc x tg C h σ H F env S R sr e s p
  rw [chkI] at h
  cases hc : zipOf x with
  | none => rw [hc] at h; cases h
  | some t =>
  obtain ⟨nm, y, z⟩ := t
  rw [hc] at h
  obtain ⟨np, kc, cp, kp, pos, rfl⟩ := zipOf_eq hc
  simp only [Bool.and_eq_true] at h
  obtain ⟨⟨⟨⟨⟨⟨h0, h1⟩, h2⟩, h3⟩, h3'⟩, h4⟩, h5⟩ := h
  obtain ⟨es, kk, tp, rfl⟩ := isTup_eq h0
  have h1 := of_decide_eq_true h1
  subst h1
  obtain ⟨g1, g2⟩ := gl_of (X := X) h2
  rw [evI] at p
  refine .of (pi_zs g1 (C.blt _ (by decide +kernel)) (pa_cons weI (pa_cons weI pa_nil (star_cons h3' _ _)) (star_cons h3 _ _)) (star_cons h3 _ _) (by rw [star_cons h3']; rfl)) ?_
  refine ha X W osc _ C h4 σ H F env S _ sr e s (p.bind0.mono ?_ fun _ _ _ z => z)
  rintro v1 H1 ⟨m1, d1, S1, F1, q1, s1, w1, p1⟩ _
  refine hb X W osc _ C h5 σ H1 F1 env S1 _ (sr.mono q1) q1.fh s1 ((p1.next q1).bind0.mono ?_ fun _ _ _ z => z)
  rintro v2 H2 ⟨m2, d2, S2, F2, q2, s2, w2, p2⟩ hB
  cases d1 with
  | tup ds =>
    cases d2 with
    | tup ds2 =>
      obtain ⟨a1, us, rfl, k1, r1⟩ := w1.tup
      obtain ⟨a2, us2, rfl, k2, r2⟩ := w2.tup
      have p3 : PostI X.K G (fun c d H' => W c d σ H') F1 H1 (if ds.length = ds2.length then .ok false (zipD ds ds2) S2 else .bad) R := p2
      split at p3
      · rename_i hl
        have k1' := ex_t q2.ff k1
        have r1' := r1.mono q2.ff
        have sz : (zipD ds ds2).length ≤ sizeLine := by
          rw [zipD_len hl, ← r1.length]
          exact hB.2 _ _ (ex_t q2.fh k1')
        exact ⟨a1, a2, us, us2, rfl, ex_t q2.fh k1', ex_t q2.fh k2, p3 _ F2 H2 q2 sz s2 (WalkD.zs k1' k2 q2.fh r1' r2 hl)⟩
      · exact p3.elim
    | _ => exact p2.elim
  | _ => cases d2 <;> exact p2.elim
theorem se_lrg {a : Xp} (ha : SE n G a) : SE n G (.lrg a) := by
  intro X W osc x C h σ H F env S Q sr e s p
  rw [chkE] at h
  cases hc : call1 x with
  | none => rw [hc] at h; cases h
  | some t =>
  obtain ⟨nm, y⟩ := t
  rw [hc] at h
  dsimp only at h
  cases hc2 : call1 y with
  | none => rw [hc2] at h; cases h
  | some t =>
  obtain ⟨nm2, z⟩ := t
  rw [hc2] at h
  dsimp only at h
  obtain ⟨np1, pos1, rfl⟩ := call1_eq hc
  obtain ⟨np2, pos2, rfl⟩ := call1_eq hc2
  simp only [Bool.and_eq_true] at h
  obtain ⟨⟨⟨⟨⟨h1, h2⟩, h3⟩, h4⟩, h5⟩, h6⟩ := h
  have h1 := of_decide_eq_true h1
  have h2 := of_decide_eq_true h2
  subst h1 h2
  obtain ⟨g1, g2⟩ := gl_of (X := X) h3
  obtain ⟨g3, g4⟩ := gl_of (X := X) h4
  refine .of (pe_listRg (pos := pos1) (p := np1) C.calm g1 (C.blt "list" (by decide +kernel)) (prg_1 (p := np2) (pos := pos2) g3 (C.blt "range" (by decide +kernel)) (we (e := z)) (star_cons h5 _ _)) rfl) ?_
  rw [evE] at p
  refine ha X W osc _ C h6 σ H F env S _ sr e s (p.bind.mono ?_ fun _ _ _ z => z)
  rintro v1 H1 ⟨m1, d1, S1, F1, q1, s1, w1, p1⟩
  cases d1 with
  | int i =>
    obtain ⟨rfl, _⟩ := w1.int
    have p2 : Post X.K G (fun c d H' => W c d σ H') F1 H1 (if -1000000 ≤ i ∧ i ≤ 1000000 then .ok .fr (.lst (rangeD 0 i)) S1 else .bad) Q := p1
    split at p2
    · rename_i hi
      refine ⟨i, rfl, ⟨by omega, by omega, by omega, by omega, ?_⟩, fun q nq => ?_⟩
      · have : (i - 0).toNat ≤ 1000000 := by omega
        exact Nat.le_trans this (by decide)
      · exact p2 _ F1 _ (Gr.new q1.fh nq) (s1.new nq) ⟨q, rfl, nq, fresh_back q1.fh nq, fun z => by rw [z] at nq; exact s1.n1 nq, fun z => by rw [z] at nq; exact s1.n2 nq, _, upd_same, rg_drs i⟩
    · exact p2.elim
  | _ => exact p1.elim
end
end Mp
set_option Elab.async false
set_option maxRecDepth 100000
set_option maxHeartbeats 4000000
/-! MpW: rows: tuples made by tuple(xs), known to have no dict of their own. -/
namespace Mp
open PySem L2 Evl
theorem row_tup {K : PySem.W.Frag} {sa : Sa} {F : Hp} {v : V} {ds : List D} (h : DR K sa F v (.row ds)) : DR K sa F v (.tup ds) := by
  cases h with
  | row h c d r => exact .tup (Or.inl (Or.inr ⟨_, h⟩)) r
theorem DR.asT {K : PySem.W.Frag} {sa : Sa} {F : Hp} {v : V} {d : D} (h : DR K sa F v d) : DR K sa F v d.asT := by
  cases d with
  | row ds => exact row_tup h
  | _ => exact h
section
variable {n : Nat} {G : Gd}
theorem se_varT {i : Nat} : SE n G (.varT i) := by
  intro X W osc x C h σ H F env S Q sr e s p
  cases x <;> (try simp only [chkE, Bool.false_eq_true] at h)
  rename_i x pos
  unfold nmOk at h
  simp only [Bool.and_eq_true, decide_eq_true_eq, Bool.not_eq_true', Bool.not_eq_eq_eq_not, Bool.not_true] at h
  obtain ⟨⟨⟨h1, h2⟩, h3⟩, h4⟩ := h
  refine .of (pe_var h1 (vis_of h2) h3 h4) ?_
  rw [evE] at p
  split at p
  · rename_i d he
    obtain ⟨v, h5, h6⟩ := sr.2 i false d he
    exact ⟨v, h5, p v F H (Gr.refl e) s (DR.asT h6)⟩
  · exact p.elim
theorem bootTuple : bootBuiltins "tuple" = some (.type "tuple") := by decide +kernel
theorem mkRow {X : Cx} {H : Hp} {Q : VK} {a : Addr} {xs : List V} (hl : SqL X.K H a xs) (q : ∀ p o, H p = none → o.cls = .type "tuple" → o.dict = none → Q (.ref p) (upd H p (.frz o (.tup xs)))) : WC X (.type "tuple") [.ref a] H Q := by
  intro pins s σ us I r
  rw [Vals.ref1 r]
  obtain ⟨its, rv, pl, hz⟩ := I.list hl
  have hlen := rv.length
  refine call_tuple_list pl.isList (fun h' kp => ?_) (by simp only [List.size_toArray]; omega)
  have I1 : Inv X pins σ H { s with heap := h' } := I.kept (t' := s.toks) kp
  have new : H h'.objs.size = none := I1.hok.fresh (Nat.le_refl _)
  have ok : ObjOk X.prog X.w (upd H h'.objs.size (.frz { cls := .type "tuple", data := .seq its.toArray } (.tup xs))) (h'.push { cls := .type "tuple", data := .seq its.toArray }) h'.objs.size (.frz { cls := .type "tuple", data := .seq its.toArray } (.tup xs)) :=
    ⟨Heap.get?_push_size _ rfl, hz, its, rv, ⟨_, Heap.get?_push_size _ rfl, rfl, _, rfl⟩⟩
  exact ⟨.ref h'.objs.size, _, I1.laid (t' := s.toks) (fun b o e => Heap.get?_push_of_some _ e) (Nat.le_refl _) ok, rfl, q _ _ new rfl rfl⟩
theorem se_mkrow {a : Xp} (ha : SE n G a) : SE n G (.mkrow a) := by
  intro X W osc x C h σ H F env S Q sr e s p
  rw [chkE] at h
  cases hc : call1 x with
  | none => rw [hc] at h; cases h
  | some t =>
  obtain ⟨nm, y⟩ := t
  rw [hc] at h
  dsimp only at h
  obtain ⟨np1, pos1, rfl⟩ := call1_eq hc
  simp only [Bool.and_eq_true] at h
  obtain ⟨⟨⟨h1, h2⟩, h3⟩, h4⟩ := h
  have h1 := of_decide_eq_true h1
  subst h1
  obtain ⟨g1, g2⟩ := gl_of (X := X) h2
  refine .of (pe_callTy (X := X) (pos := pos1) (p := np1) wc g1 (C.blt "tuple" (by decide +kernel)) bootTuple (pa_cons (we (e := y)) pa_nil (star_cons h3 _ _)) (by decide +kernel) g2 (star_cons h3 _ _) rfl) ?_
  rw [evE] at p
  refine ha X W osc _ C h4 σ H F env S _ sr e s (p.bind.mono ?_ fun _ _ _ z => z)
  rintro v1 H1 ⟨m1, d1, S1, F1, q1, s1, w1, p1⟩
  cases d1 with
  | lst xs =>
    have p2 : Post X.K G (fun c d H' => W c d σ H') F1 H1 (if xs.length ≤ szMax then .ok .fz (.row xs) S1 else .bad) Q := p1
    split at p2
    · obtain ⟨b, us, rfl, k1, k2⟩ := w1.lst q1.fh
      refine mkRow (SqL.of k1) fun q o nq c d => ?_
      have g := Gr.newF (sa := G.sa) (o := .frz o (.tup us)) q1.fh nq
      have nf := fresh_back q1.fh nq
      exact p2 _ _ _ g ((s1.new nq).fz (fun z => by rw [z] at nq; exact s1.n1 nq) (fun z => by rw [z] at nq; exact s1.n2 nq)) (.row upd_same c d (k2.mono (Ex.new nf)))
    · exact p2.elim
  | _ => exact p1.elim
end
end Mp
set_option Elab.async false
set_option maxRecDepth 100000
set_option maxHeartbeats 4000000
/-! MpD: dict(xs), xs a list of pairs whose keys are tuples of numbers and texts. -/
namespace Mp
open PySem PySem.Spec PyProof.Rows L2 Evl
/-- later pairs win, the place is the first one's -/
def mergeT (kvs more : List (List Key × V)) : List (List Key × V) := more.foldl (fun acc kv => putK acc kv.1 kv.2) kvs
theorem mergeT_kt {H : Hp} : ∀ {more : List (List Key × V)} {qs : List (List Key × Addr × Value)}, KT H more qs → ∀ {kvs : List (List Key × V)} {xs : List (List Key × Addr × Value)}, KT H kvs xs → KT H (mergeT kvs more) (storedAllH xs qs)
  | _, _, .nil, _, _, r => r
  | _, _, .cons (a := p) (b := q) h t, kvs, xs, r => by
    obtain ⟨k, b, u⟩ := q
    obtain ⟨h1, h2, h3⟩ := h
    have h1 : p.1 = k := h1
    have h2 : H b = some (.tup (p.1.map kV)) := h2
    subst h1
    exact mergeT_kt t (r.put p.1 h2 h3)
theorem mergeT_len : ∀ (more kvs : List (List Key × V)), (mergeT kvs more).length ≤ kvs.length + more.length
  | [], kvs => Nat.le_refl _
  | p :: more, kvs => by
    have h1 := mergeT_len more (putK kvs p.1 p.2)
    have h2 : (putK kvs p.1 p.2).length ≤ kvs.length + 1 := by
      unfold putK
      split
      · rw [List.length_map]
        omega
      · rw [List.length_append]
        exact Nat.le_refl _
    show (mergeT (putK kvs p.1 p.2) more).length ≤ _
    rw [List.length_cons]
    omega
section
variable {X : Cx} {pins : List (Addr × Obj)} {σ : L2.St} {H : Hp} {s : Shared}
/-- the pairs as they stand -/
theorem pairsT_of (I : Inv X pins σ H s) : ∀ {ps : List Addr} {kvs : List (List Key × Addr × V)}, Paired (fun (p : Addr) (kv : List Key × Addr × V) => SqT X.K H p [.ref kv.2.1, kv.2.2] ∧ H kv.2.1 = some (.tup (kv.1.map kV))) ps kvs →
    ∃ qs : List (List Key × Addr × Value), KT H (kvs.map fun x => (x.1, x.2.2)) qs ∧ qs.length = ps.length ∧ ∀ (j : Nat) (q : List Key × Addr × Value), qs[j]? = some q → ∃ b : Addr, ps[j]? = some b ∧ IsTup s.heap b #[.ref q.2.1, q.2.2]
  | _, _, .nil => ⟨[], .nil, rfl, fun j q e => by simp at e⟩
  | _, _, .cons (a := p) (b := kv) h t => by
    obtain ⟨qs, r, hl, hp⟩ := pairsT_of I t
    obtain ⟨h1, h2⟩ := h
    obtain ⟨its, rv, ht, _⟩ := I.tuple h1
    obtain ⟨u, y, ei, ru, ry⟩ := vals2 rv
    subst ei
    cases ru
    refine ⟨(kv.1, kv.2.1, y) :: qs, .cons ⟨rfl, h2, ry⟩ r, by rw [List.length_cons, List.length_cons, hl], fun j q e => ?_⟩
    cases j with
    | zero =>
      have e' : (kv.1, kv.2.1, y) = q := Option.some.inj e
      subst e'
      exact ⟨p, rfl, ht⟩
    | succ j =>
      obtain ⟨b, e1, e2⟩ := hp j q (by simpa using e)
      exact ⟨b, by simpa using e1, e2⟩
theorem call_dictT (hcalm : X.calm = true) (hu : X.A.units + 100 < cLine) : CallR X (.type "dict") (fun xs H Q => ∃ (a : Addr) (ps : List Addr) (kvs : List (List Key × Addr × V)), xs = [.ref a] ∧ SqL X.K H a (ps.map V.ref) ∧
    Paired (fun (p : Addr) (kv : List Key × Addr × V) => SqT X.K H p [.ref kv.2.1, kv.2.2] ∧ H kv.2.1 = some (.tup (kv.1.map kV))) ps kvs ∧
    ∀ p, H p = none → Q (.ref p) (upd H p (.dT (mergeT [] (kvs.map fun x => (x.1, x.2.2)))))) := by
  intro pins s σ H xs us Q I r q
  obtain ⟨a, ps, kvs, ex, hq, hp, q⟩ := q
  subst ex
  obtain ⟨u, eu, rx⟩ := vals1 r
  subst eu
  cases rx
  obtain ⟨its, rv, pl, hz⟩ := I.list hq
  have ei := refs_at rv
  subst ei
  rw [List.length_map] at hz
  obtain ⟨qs, rel, hl, hpr⟩ := pairsT_of I hp
  obtain ⟨o, n, ho, hc, hd, hdat⟩ := pl
  let prs : List (Value × Value) := qs.map fun q => (.ref q.2.1, q.2.2)
  have lp : prs.length = qs.length := List.length_map _
  have keyIn : ∀ x ∈ qs, H x.2.1 = some (.tup (x.1.map kV)) := by
    have all : ∀ {l : List (List Key × V)} {m : List (List Key × Addr × Value)}, KT H l m → ∀ x ∈ m, H x.2.1 = some (.tup (x.1.map kV)) := by
      intro l m q
      induction q with
      | nil => intro x hx; exact nomatch hx
      | @cons p q ps qs hq t ih =>
        intro x hx
        rcases List.mem_cons.mp hx with e | hx
        · subst e
          rw [← hq.1]
          exact hq.2.1
        · exact ih x hx
    exact all rel
  refine call_dict_pairsH (knd := tupleKind (mixKind X.prog X.w)) (ps := qs) (PairArg.list a (ps.map Value.ref).toArray (fun j => (ps[j]?).getD 0) prs) (I.ok.hd hcalm) (tupleKind_room_in1 (A := X.A.in1) ?_) ⟨⟨o, n, ho, hc, hd, hdat⟩, ?_⟩ ⟨lp.symm, ?_⟩ ?_ (by rw [lp, hl]; exact hz) ?_
  · show X.A.units + 1 + 1 < cLine
    omega
  · refine ⟨by rw [lp, hl]; simp, fun j k v e => ?_⟩
    obtain ⟨q', e1, e2⟩ : ∃ q', qs[j]? = some q' ∧ (Value.ref q'.2.1, q'.2.2) = (k, v) := by
      have e' : (qs.map fun q => ((Value.ref q.2.1, q.2.2) : Value × Value))[j]? = some (k, v) := e
      rw [List.getElem?_map] at e'
      exact Option.map_eq_some_iff.mp e'
    cases e2
    obtain ⟨b, f1, f2⟩ := hpr j q' e1
    refine ⟨by simp [f1], ?_⟩
    show PairAt s.heap ((ps[j]?).getD 0) _ _
    rw [f1]
    exact .inl (by obtain ⟨o, e1, e2, n, e3⟩ := f2; exact ⟨o, e1, e2, n, e3⟩)
  · intro i key v e
    obtain ⟨q', e1, e2⟩ : ∃ q', qs[i]? = some q' ∧ (Value.ref q'.2.1, q'.2.2) = (key, v) := by
      have e' : (qs.map fun q => ((Value.ref q.2.1, q.2.2) : Value × Value))[i]? = some (key, v) := e
      rw [List.getElem?_map] at e'
      exact Option.map_eq_some_iff.mp e'
    cases e2
    exact ⟨q'.1, q'.2.1, e1, rfl⟩
  · intro h' hk x hx
    obtain ⟨o', its', n', g1, g2, g3, g4⟩ := key_of I.hok (keyIn x hx)
    exact ⟨o', its', n', hk _ _ (Nat.ne_of_lt (Heap.lt_size g1)) (fun z => nomatch z) g1, g2, g3, g4⟩
  · intro h' tk hd' k
    have hm : (s.heap.objs.size == sysModules) = false := beq_eq_false_iff_ne.mpr (Nat.ne_of_gt I.big)
    have hlen : (mergeT [] (kvs.map fun x => (x.1, x.2.2))).length ≤ sizeLine := by
      refine Nat.le_trans (mergeT_len _ []) ?_
      rw [List.length_nil, Nat.zero_add, Paired.length rel, hl]
      exact hz
    have new : H s.heap.objs.size = none := I.hok.fresh (Nat.le_refl _)
    obtain ⟨q2, es, ep, f1, f2, f3, f4, _, f5⟩ := hd'
    have kt : KT H (mergeT [] (kvs.map fun x => (x.1, x.2.2))) (storedAllH [] qs) := mergeT_kt rel .nil
    refine ⟨.ref s.heap.objs.size, upd H s.heap.objs.size (.dT (mergeT [] (kvs.map fun x => (x.1, x.2.2)))), I.laid (t' := tk) (fun b o => k b o (fun z => nomatch z)) (Nat.le_refl _) ?_, rfl, q _ new⟩
    refine (show ObjOk X.prog X.w _ _ _ (.dT (mergeT [] (kvs.map fun x => (x.1, x.2.2)))) from ⟨hlen, hm, _, kt.keeps fun c ys ec => ?_, q2, es, ep, f1, f2, f3, f4, f5⟩)
    rw [upd_ne (ne_of_none ec new)]
    exact ec
end
end Mp
set_option Elab.async false
set_option maxRecDepth 100000
set_option maxHeartbeats 4000000
/-! MpG: pairs as keys, maps of such, written dicts of texts. -/
namespace Mp
open PySem L2 Evl
def entM (p : (Int × Int) × Int) : List Key × V := ([.inl p.1.1, .inl p.1.2], .int p.2)
theorem valV_mergeM (x y : Int) : ∀ (ps : List ((Int × Int) × Int)) (kvs : List (List Key × V)),
    valV (mergeT kvs (ps.map entM)) [.inl x, .inl y] = match lookM ps x y with | some v => some (.int v) | none => valV kvs [.inl x, .inl y]
  | [], kvs => rfl
  | p :: ps, kvs => by
    show valV (mergeT (putK kvs (entM p).1 (entM p).2) (ps.map entM)) _ = _
    rw [valV_mergeM x y ps, lookM]
    cases lookM ps x y with
    | some v => rfl
    | none =>
      dsimp only
      rw [valV_put]
      by_cases h : p.1.1 = x ∧ p.1.2 = y
      · rw [if_pos (show ([.inl x, .inl y] : List Key) = (entM p).1 by show _ = [Sum.inl p.1.1, Sum.inl p.1.2]; rw [h.1, h.2]), if_pos h]
        rfl
      · rw [if_neg (show ¬ ([.inl x, .inl y] : List Key) = (entM p).1 from fun z => h (by
          have z : ([.inl x, .inl y] : List Key) = [Sum.inl p.1.1, Sum.inl p.1.2] := z
          injection z with z1 z2
          injection z2 with z2 z3
          injection z1 with z1
          injection z2 with z2
          exact ⟨z1.symm, z2.symm⟩)), if_neg h]
theorem valV_mapM (x y : Int) (ps : List ((Int × Int) × Int)) : valV (mergeT [] (ps.map entM)) [.inl x, .inl y] = (lookM ps x y).map V.int := by
  rw [valV_mergeM]
  cases lookM ps x y <;> rfl
theorem pairsM_of {K : PySem.W.Frag} {sa : Sa} {F H : Hp} (e : Ex F H) : ∀ {us : List V} {xs : List D} {ps : List ((Int × Int) × Int)}, DRs K sa F us xs → pairsM xs = some ps →
    ∃ (as : List Addr) (kvs : List (List Key × Addr × V)), us = as.map V.ref ∧ Paired (fun (p : Addr) (kv : List Key × Addr × V) => SqT K H p [.ref kv.2.1, kv.2.2] ∧ H kv.2.1 = some (.tup (kv.1.map kV))) as kvs ∧
      (kvs.map fun x => (x.1, x.2.2)) = ps.map entM
  | _, _, ps, .nil, h => by
    rw [pairsM] at h
    cases h
    exact ⟨[], [], rfl, .nil, rfl⟩
  | _, _, ps, .cons (v := v) (d := d) h t, q => by
    unfold pairsM at q
    split at q
    · rename_i e0
      cases e0
    · rename_i x y z r e0
      cases e0
      obtain ⟨ps', q1, rfl⟩ := Option.map_eq_some_iff.mp q
      obtain ⟨as, kvs, rfl, h1, h2⟩ := pairsM_of e t q1
      cases h with
      | tup h3 h4 =>
        cases h4 with
        | cons h5 h6 =>
          cases h6 with
          | cons h7 h8 =>
            cases h8
            cases h7
            cases h5 with
            | kt _ _ h9 =>
              exact ⟨_ :: as, ([.inl x, .inl y], _, .int z) :: kvs, rfl, .cons ⟨ex_t e h3, e _ _ h9⟩ h1, by rw [List.map_cons, List.map_cons, h2]; rfl⟩
    · cases q
section
variable {n : Nat} {G : Gd}
theorem se_mkey {a b : Xp} (ha : SE n G a) (hb : SE n G b) : SE n G (.mkey a b) := by
  intro X W osc x C h σ H F env S Q sr e s p
  cases x <;> (try simp only [chkE, Bool.false_eq_true] at h)
  rename_i xs kk pos
  rcases xs with _ | ⟨y, _ | ⟨z, _ | _⟩⟩ <;> (try simp only [chkE, Bool.false_eq_true] at h)
  simp only [Bool.and_eq_true] at h
  obtain ⟨⟨⟨h1, h2⟩, h3⟩, h4⟩ := h
  refine .of (pe_tup (pa_cons (we (e := y)) (pa_cons (we (e := z)) pa_nil (star_cons h2 _ _)) (star_cons h1 _ _))) ?_
  rw [evE] at p
  refine ha X W osc _ C h3 σ H F env S _ sr e s (p.bind.mono ?_ fun _ _ _ z => z)
  rintro v1 H1 ⟨m1, d1, S1, F1, q1, s1, w1, p1⟩
  refine hb X W osc _ C h4 σ H1 F1 env S1 _ (sr.mono q1) q1.fh s1 (p1.bind.mono ?_ fun _ _ _ z => z)
  rintro v2 H2 ⟨m2, d2, S2, F2, q2, s2, w2, p2⟩
  cases d1 with
  | int i =>
    cases d2 with
    | int j =>
      obtain ⟨rfl, _⟩ := w1.int
      obtain ⟨rfl, _⟩ := w2.int
      refine ⟨by rw [sizeLine_eq]; show 2 ≤ 16777216; omega, fun q nq => ?_⟩
      have p3 : Post X.K G (fun c d H' => W c d σ H') F2 H2 (.ok .fz (.kt i j) S2) Q := p2
      exact p3 _ _ _ (Gr.newF q2.fh nq) ((s2.new nq).fz (fun z => by rw [z] at nq; exact s2.n1 nq) (fun z => by rw [z] at nq; exact s2.n2 nq)) (.kt i j upd_same)
    | _ => exact p2.elim
  | _ => cases d2 <;> exact p2.elim
theorem bootDict : bootBuiltins "dict" = some (.type "dict") := by decide +kernel
theorem se_mkmap {a : Xp} (ha : SE n G a) : SE n G (.mkmap a) := by
  intro X W osc x C h σ H F env S Q sr e s p
  rw [chkE] at h
  cases hc : call1 x with
  | none => rw [hc] at h; cases h
  | some t =>
  obtain ⟨nm, y⟩ := t
  rw [hc] at h
  dsimp only at h
  obtain ⟨np1, pos1, rfl⟩ := call1_eq hc
  simp only [Bool.and_eq_true] at h
  obtain ⟨⟨⟨h1, h2⟩, h3⟩, h4⟩ := h
  have h1 := of_decide_eq_true h1
  subst h1
  obtain ⟨g1, g2⟩ := gl_of (X := X) h2
  refine .of (pe_callTy (X := X) (pos := pos1) (p := np1) wc g1 (C.blt "dict" (by decide +kernel)) bootDict (pa_cons (we (e := y)) pa_nil (star_cons h3 _ _)) (by decide +kernel) g2 (star_cons h3 _ _) rfl) ?_
  rw [evE] at p
  refine ha X W osc _ C h4 σ H F env S _ sr e s (p.bind.mono ?_ fun _ _ _ z => z)
  rintro v1 H1 ⟨m1, d1, S1, F1, q1, s1, w1, p1⟩
  cases d1 with
  | lst xs =>
    have p2 : Post X.K G (fun c d H' => W c d σ H') F1 H1 (match pairsM xs with | some ps => if ps.length ≤ 1000 then .ok .fz (.map ps) S1 else .bad | none => .bad) Q := p1
    cases hp : pairsM xs with
    | none => rw [hp] at p2; exact p2.elim
    | some ps =>
      rw [hp] at p2
      dsimp only at p2
      split at p2
      · obtain ⟨b, us, rfl, k1, k2⟩ := w1.lst q1.fh
        obtain ⟨as, kvs, rfl, r1, r2⟩ := pairsM_of q1.fh k2 hp
        intro pins s0 σ0 us I r
        refine call_dictT C.calm C.units pins s0 σ0 H1 _ us Q I r ⟨b, as, kvs, rfl, SqL.of k1, r1, fun q nq => ?_⟩
        rw [r2]
        have g := Gr.newF (sa := G.sa) (o := .dT (mergeT [] (ps.map entM))) q1.fh nq
        exact p2 _ _ _ g ((s1.new nq).fz (fun z => by rw [z] at nq; exact s1.n1 nq) (fun z => by rw [z] at nq; exact s1.n2 nq)) (.map upd_same fun x y => valV_mapM x y ps)
      · exact p2.elim
  | _ => exact p1.elim
theorem map_at {K : PySem.W.Frag} {sa : Sa} {m : Md} {H0 F H : Hp} {v : V} {ps : List ((Int × Int) × Int)} (h : VR K sa m H0 F H v (.map ps)) : ∃ a kvs, v = .ref a ∧ F a = some (.dT kvs) ∧ ∀ x y : Int, valV kvs [.inl x, .inl y] = (lookM ps x y).map V.int := by
  cases m with
  | fz => cases h with | map h c => exact ⟨_, _, rfl, h, c⟩
  | fr => obtain ⟨_, _, _, _, _, _, o⟩ := h; exact o.elim
  | br => obtain ⟨_, _, _, _, _, o⟩ := h; exact o.elim
theorem m2_of {X : Cx} {o e f : Expr} {m : Str} {apos cpos : Pos} (h1 : noCall0 o = true) (h2 : (apos.endLine == cpos.line) = true) (h3 : noStar e = true) (h4 : noStar f = true) : M2 X o m apos e f cpos where
  base := base_of h1 _ _
  few := by
    rw [star_all cpos X.env (fun z hz => by
      rcases List.mem_cons.mp hz with rfl | hz
      · exact h3
      · rcases List.mem_cons.mp hz with rfl | hz
        · exact h4
        · exact nomatch hz), noKw_all]
    rfl
  line := h2
  trees := by
    rw [star_cons h3, star_cons h4]
    rfl
theorem se_mget {o a b d : Xp} (ho : SE n G o) (ha : SE n G a) (hb : SE n G b) (hd : SE n G d) : SE n G (.mget o a b d) := by
  intro X W osc x C h σ H F env S Q sr e s p
  unfold chkE at h
  split at h <;> try (rename_i e0; cases e0)
  all_goals try (exact absurd h (by decide))
  rename_i sc' o' nm apos y z kk tpos d' cpos
  simp only [Bool.and_eq_true] at h
  obtain ⟨⟨⟨⟨⟨⟨⟨⟨⟨h1, h2⟩, h3⟩, h4⟩, h5⟩, h6⟩, h7⟩, h8⟩, h9⟩, h10⟩ := h
  have h1 := of_decide_eq_true h1
  subst h1
  have hu : X.A.units + 1 < cLine := by have := C.units; omega
  refine .of (pe_dget2 hu (we (e := o')) (pe_tup (pa_cons (we (e := y)) (pa_cons (we (e := z)) pa_nil (star_cons h5 _ _)) (star_cons h4 _ _))) (we (e := d')) (m2_of h3 h2 rfl h6)) ?_
  rw [evE] at p
  refine ho X W osc _ C h7 σ H F env S _ sr e s (p.bind.mono ?_ fun _ _ _ z => z)
  rintro v0 H0 ⟨m0, d0, S0, F0, q0, s0, w0, p0⟩
  cases d0 with
  | map ps =>
    obtain ⟨c, kvs, rfl, k1, k2⟩ := map_at w0
    refine ⟨c, rfl, .inr ⟨kvs, .inl (q0.fh _ _ k1)⟩, ?_⟩
    refine ha X W osc _ C h8 σ H0 F0 env S0 _ (sr.mono q0) q0.fh s0 (Post.mono (Post.bind p0) ?_ fun _ _ _ z => z)
    rintro v1 H1 ⟨m1, d1, S1, F1, q1, s1, w1, p1⟩
    refine hb X W osc _ C h9 σ H1 F1 env S1 _ ((sr.mono q0).mono q1) q1.fh s1 (p1.bind.mono ?_ fun _ _ _ z => z)
    rintro v2 H2 ⟨m2, d2, S2, F2, q2, s2, w2, p2⟩
    cases d1 with
    | int i =>
      cases d2 with
      | int j =>
        obtain ⟨rfl, _⟩ := w1.int
        obtain ⟨rfl, _⟩ := w2.int
        refine ⟨by rw [sizeLine_eq]; show 2 ≤ 16777216; omega, fun q nq => ?_⟩
        have g := Gr.newF (sa := G.sa) (o := .tup [.int i, .int j]) q2.fh nq
        have s3 : SrcR G.sa (upd F2 q (.tup [.int i, .int j])) (upd H2 q (.tup [.int i, .int j])) S2 := (s2.new nq).fz (fun z => by rw [z] at nq; exact s2.n1 nq) (fun z => by rw [z] at nq; exact s2.n2 nq)
        refine hd X W osc _ C h10 σ _ _ env S2 _ ((((sr.mono q0).mono q1).mono q2).mono g) g.fh s3 (Post.mono (Post.bind (Post.next p2 g)) ?_ fun _ _ _ z => z)
        rintro v3 H3 ⟨m3, d3, S3, F3, q3, s4, w3, p3⟩
        cases d3 with
        | int z =>
          obtain ⟨rfl, _⟩ := w3.int
          have p4 : Post X.K G (fun c d H' => W c d σ H') F3 H3 (.ok .fz (.int ((lookM ps i j).getD z)) S3) Q := p3
          refine ⟨_, DGet.t (k := [.inl i, .inl j]) (q3.fh _ _ (q3.ff _ _ (g.ff _ _ (q2.ff _ _ (q1.ff _ _ k1))))) (q3.fh _ _ (q3.ff _ _ upd_same)), ?_⟩
          rw [k2]
          have e3 : (((lookM ps i j).map V.int).getD (V.int z)) = V.int ((lookM ps i j).getD z) := by cases lookM ps i j <;> rfl
          rw [e3]
          exact p4.flat q3.fh s4 (.int _)
        | _ => exact p3.elim
      | _ => exact p2.elim
    | _ => cases d2 <;> exact p2.elim
  | _ => exact p0.elim
theorem kv_len : ∀ {kvs : List (Str × Str)} {ks : List (Option Expr)} {vs : List Expr}, chkKV kvs ks vs = true → ks.length = kvs.length ∧ vs.length = kvs.length ∧ ks.all (·.isSome) = true ∧
    ∀ (X : Cx) (pos : Pos), PPs X pos ks vs (kvs.map fun p => (tC (.str p.1), tC (.str p.2)))
  | [], ks, vs, h => by
    unfold chkKV at h
    split at h
    · exact ⟨rfl, rfl, rfl, fun X pos => pps_nil⟩
    · rename_i e0; cases e0
    · cases h
  | (a, b) :: r, ks, vs, h => by
    unfold chkKV at h
    split at h
    · rename_i e0; cases e0
    · rename_i a' b' r' x k1 p1 ks' y k2 p2 vs' e0
      cases e0
      simp only [Bool.and_eq_true] at h
      obtain ⟨⟨h1, h2⟩, h3⟩ := h
      have h1 := eq_of_beq h1
      have h2 := eq_of_beq h2
      subst h1 h2
      obtain ⟨i1, i2, i3, i4⟩ := kv_len h3
      exact ⟨by rw [List.length_cons, List.length_cons, i1], by rw [List.length_cons, List.length_cons, i2], by rw [List.all_cons, i3]; rfl, fun X pos => pps_cons pe_str pe_str (i4 X pos)⟩
    · cases h
theorem tPairs_c {σ : L2.St} {H : Hp} : ∀ (kvs : List (Str × Str)) (Q : List (V × V) → Hp → Prop), tPairs (kvs.map fun p => (tC (.str p.1), tC (.str p.2))) σ H Q = Q (kvs.map fun p => (.str p.1, .str p.2)) H
  | [], Q => rfl
  | p :: r, Q => by
    show tPairs (r.map fun p => (tC (.str p.1), tC (.str p.2))) σ H (fun ps H3 => Q ((V.str p.1, V.str p.2) :: ps) H3) = _
    rw [tPairs_c r]
    rfl
theorem lookS_eq {kvs : List (Str × Str)} {x y : Str} (h : lookS kvs x = some y) : valV (mergeK [] (mapS kvs)) (.inr x) = some (.str y) := by
  unfold lookS at h
  split at h
  · cases h
    assumption
  · cases h
theorem se_smap {kvs : List (Str × Str)} {a : Xp} (ha : SE n G a) : SE n G (.smap kvs a) := by
  intro X W osc x C h σ H F env S Q sr e s p
  unfold chkE at h
  split at h <;> try (rename_i e0; cases e0)
  all_goals try (exact absurd h (by decide))
  rename_i sc' ks vs dpos e' pos
  simp only [Bool.and_eq_true] at h
  obtain ⟨⟨⟨⟨h1, h2⟩, h3⟩, h4⟩, h5⟩ := h
  have h3 := of_decide_eq_true h3
  obtain ⟨i1, i2, i3, i4⟩ := kv_len h4
  have hu : X.A.units + 1 < cLine := by have := C.units; omega
  have nosl : NoSl e' := fun ov iv => plainIx_of h1 ov iv
  have ne : ks ≠ [] := fun z => by
    rw [z] at i1
    rw [List.eq_nil_of_length_eq_zero i1.symm] at h2
    cases h2
  refine .of (pe_dget hu (pe_disp (i4 X dpos) i3 (by rw [i1, i2]) ne (by rw [i1]; exact h3)) (we (e := e')) nosl) ?_
  rw [evE] at p
  intro q nq
  rw [tPairs_c]
  refine ⟨upd_same, mapS kvs, by unfold mapS; rw [List.map_map]; rfl, by unfold mapS; rw [List.length_map]; exact h3, ?_⟩
  rw [upd_upd]
  have g := Gr.newF (sa := G.sa) (o := .dK (mergeK [] (mapS kvs))) e nq
  have s1 : SrcR G.sa (upd F q (.dK (mergeK [] (mapS kvs)))) (upd H q (.dK (mergeK [] (mapS kvs)))) S := (s.new nq).fz (fun z => by rw [z] at nq; exact s.n1 nq) (fun z => by rw [z] at nq; exact s.n2 nq)
  refine ha X W osc _ C h5 σ _ _ env S _ (sr.mono g) g.fh s1 (Post.mono (Post.bind (Post.next p g)) ?_ fun _ _ _ z => z)
  rintro v1 H1 ⟨m1, d1, S1, F1, q1, s2, w1, p1⟩
  cases d1 with
  | str x =>
    obtain ⟨rfl, _⟩ := w1.str
    have p2 : Post X.K G (fun c d H' => W c d σ H') F1 H1 (match lookS kvs x with | some y => .ok .fz (.str y) S1 | none => .bad) Q := p1
    cases hk : lookS kvs x with
    | none => rw [hk] at p2; exact p2.elim
    | some y =>
      rw [hk] at p2
      refine ⟨q, _, rfl, ?_, p2.flat q1.fh s2 (.str _)⟩
      have g2 := DGet.k (H := H1) (k := .inr x) (q1.fh _ _ (q1.ff _ _ upd_same))
      rw [lookS_eq hk] at g2
      exact g2
  | _ => exact p1.elim
end
end Mp
set_option Elab.async false
set_option maxRecDepth 100000
set_option maxHeartbeats 4000000
/-! MpK: dicts with nested keys, sets that are asked, items() walked: the written forms. -/
namespace Mp
open PySem L2 Evl
section
variable {n : Nat} {G : Gd}
theorem dicPW {X : Cx} (hpw : G.sa.prog = X.prog ∧ G.sa.w = X.w) (a : Addr) (o : Obj) (kvs : List Ent) : dicO X.prog X.w a o kvs = dicO G.sa.prog G.sa.w a o kvs := by rw [hpw.1, hpw.2]
theorem se_dic0 : SE n G .dic0 := by
  intro X W osc x C h σ H F env S Q sr e s p
  rw [chkE] at h
  obtain ⟨pos, hx⟩ := Option.isSome_iff_exists.mp h
  obtain rfl := dic0Of_eq hx
  rw [evE] at p
  refine .of pe_dnewN fun q o nq => ?_
  rw [dicPW C.pw]
  exact p _ _ _ (Gr.new e nq) (s.new nq) ⟨q, rfl, nq, fresh_back e nq, fun z => by rw [z] at nq; exact s.n1 nq, fun z => by rw [z] at nq; exact s.n2 nq, o, [], upd_same, .nil⟩
theorem Gr.over {sa : Sa} {F H F' H' : Hp} {q : Addr} {o : HO} (g : Gr sa F H F' H') (n : H q = none) (f : F' q = none) (n1 : q ≠ sa.s1) (n2 : q ≠ sa.s2) : Gr sa F H F' (upd H' q o) :=
  ⟨g.ff, fun a u e => by
      have ne : a ≠ q := fun z => by rw [z, f] at e; cases e
      rw [upd_ne ne]; exact g.fh a u e,
    fun a u e h1 h2 => by rw [upd_ne (ne_of_none e n)]; exact g.hh a u e h1 h2, g.nw,
    fun z => by rw [upd_ne (Ne.symm n1)]; exact g.s1 z,
    fun z => by rw [upd_ne (Ne.symm n2)]; exact g.s2 z⟩
theorem SrcR.over {sa : Sa} {F H : Hp} {S : Sr} {q : Addr} {o : HO} (s : SrcR sa F H S) (n1 : q ≠ sa.s1) (n2 : q ≠ sa.s2) : SrcR sa F (upd H q o) S :=
  ⟨s.f1, s.f2, s.ne, by rw [upd_ne (Ne.symm n1)]; exact s.h1, by rw [upd_ne (Ne.symm n2)]; exact s.h2⟩
theorem se_dic1 {k v : Xp} (hk : SE n G k) (hv : SE n G v) : SE n G (.dic1 k v) := by
  intro X W osc x C h σ H F env S Q sr e s p
  rw [chkE] at h
  cases hc : dic1Of x with
  | none => rw [hc] at h; cases h
  | some t =>
  obtain ⟨k', v', pos⟩ := t
  rw [hc] at h
  dsimp only at h
  obtain rfl := dic1Of_eq hc
  rw [Bool.and_eq_true] at h
  obtain ⟨h1, h2⟩ := h
  have hu := C.units
  refine .of (pe_disp1 (by omega) (we (e := k')) (we (e := v'))) fun q o nq => ?_
  rw [evE] at p
  have g := Gr.new (sa := G.sa) (o := dicO X.prog X.w q o []) e nq
  have s0 : SrcR G.sa F (upd H q (dicO X.prog X.w q o [])) S := s.new nq
  have n1 : q ≠ G.sa.s1 := fun z => by rw [z] at nq; exact s.n1 nq
  have n2 : q ≠ G.sa.s2 := fun z => by rw [z] at nq; exact s.n2 nq
  have fq : F q = none := fresh_back e nq
  show WE X k' σ (upd H q (dicO X.prog X.w q o [])) _
  refine hk X W osc _ C h1 σ _ F env S _ (sr.mono g) g.fh s0 ?_
  cases hE : evE G.T G.cl k env S with
  | bad => rw [hE] at p; exact p.elim
  | exc y S1 =>
    rw [hE] at p
    exact fun c dx F' H' g' s' z => p c dx F' H' (g.trans g') s' z
  | ok m1 d1 S1 =>
    rw [hE] at p
    have p1 : Post X.K G (fun c d H' => W c d σ H') F H (if m1 = .br then .bad else (evE G.T G.cl v env S1).b fun m' vd S => if m' = .br then .bad else if d1.nk.isSome then .ok .fr (.dic [(d1, vd)]) S else .bad) Q := p
    split at p1
    · exact p1.elim
    rename_i hm1
    intro v1 F1 H1 g1 s1 w1
    obtain ⟨F2, g2, x2, s2, r2⟩ := w1.frozen hm1 g1 s1
    have g02 := g.trans g2
    show WE X v' σ H1 _
    refine hv X W osc _ C h2 σ H1 F2 env S1 _ (sr.mono g02) g2.fh s2 ?_
    cases hE2 : evE G.T G.cl v env S1 with
    | bad => rw [hE2] at p1; exact p1.elim
    | exc y S2 =>
      rw [hE2] at p1
      exact fun c dx F' H' g' s' z => p1 c dx F' H' (g02.trans g') s' z
    | ok m2 d2 S2 =>
      rw [hE2] at p1
      have p2 : Post X.K G (fun c d H' => W c d σ H') F H (if m2 = .br then .bad else if d1.nk.isSome then .ok .fr (.dic [(d1, d2)]) S2 else .bad) Q := p1
      split at p2
      · exact p2.elim
      rename_i hm2
      split at p2
      · rename_i hn
        intro v2 F3 H3 g3 s3 w3
        obtain ⟨F4, g4, x4, s4, r4⟩ := w3.frozen hm2 g3 s3
        have g04 := g02.trans g4
        obtain ⟨kk, hkk⟩ := Option.isSome_iff_exists.mp hn
        have r2' := r2.mono g4.ff
        have w2 : VR X.K G.sa .fz H1 F4 H3 v1 d1 := r2'
        obtain ⟨b, rfl, kin⟩ := VR.keyIn (X := X) (G := G) w2 g4.fh hkk
        have f4 : F4 q = none := (g2.trans g4).nofz fq (by rw [upd_same]; exact fun z => nomatch z)
        refine ⟨b, kk, v2, rfl, kin, (g2.trans g4).hh q _ upd_same n1 n2, fun o' => ?_⟩
        refine p2 _ F4 _ (g04.over nq f4 n1 n2) (s4.over n1 n2) ⟨q, rfl, nq, f4, n1, n2, o', [(kk, b, v2)], ?_, .cons r2' hkk r4 .nil⟩
        rw [upd_same, dicPW C.pw]
      · exact p2.elim
theorem se_dget {o k d : Xp} (ho : SE n G o) (hk : SE n G k) (hd : SE n G d) : SE n G (.dget o k d) := by
  intro X W osc x C h σ H F env S Q sr e s p
  rw [chkE] at h
  cases hc : meth2Of x with
  | none => rw [hc] at h; cases h
  | some t =>
  obtain ⟨nm, o', k', d', apos, cpos⟩ := t
  rw [hc] at h
  dsimp only at h
  obtain rfl := meth2Of_eq hc
  simp only [Bool.and_eq_true] at h
  obtain ⟨⟨⟨⟨⟨⟨⟨h1, h2⟩, h3⟩, h4⟩, h5⟩, h6⟩, h7⟩, h8⟩ := h
  have h1 := of_decide_eq_true h1
  subst h1
  have hu := C.units
  refine .of (pe_dgetN (by omega) (we (e := o')) (we (e := k')) (we (e := d')) (m2_of h3 h2 h4 h5)) ?_
  rw [evE] at p
  refine ho X W osc _ C h6 σ H F env S _ sr e s (p.bind.mono ?_ fun _ _ _ z => z)
  rintro v0 H0 ⟨m0, d0, S0, F0, q0, s0, w0, p0⟩
  cases d0 with
  | dic ds =>
    obtain ⟨a, ob, kvs, rfl, ha, r⟩ := w0.dic q0.fh
    have ha' : H0 a = some (dicO X.prog X.w a ob kvs) := by rw [dicPW C.pw]; exact ha
    refine ⟨a, ob, kvs, rfl, ha', r.keysIn q0.fh, ?_⟩
    have na : a ≠ G.sa.s1 ∧ a ≠ G.sa.s2 := by
      refine ⟨fun z => ?_, fun z => ?_⟩
      · have q := s0.h1
        rw [← z, ha] at q
        cases q
      · have q := s0.h2
        rw [← z, ha] at q
        cases q
    refine hk X W osc _ C h7 σ H0 F0 env S0 _ (sr.mono q0) q0.fh s0 (Post.mono (Post.bind p0) ?_ fun _ _ _ z => z)
    rintro v1 H1 ⟨m1, d1, S1, F1, q1, s1, w1, p1⟩
    cases hkk : d1.nk with
    | none =>
      have p2 : Post X.K G (fun c d H' => W c d σ H') F1 H1 (match d1.nk with | some k => (evE G.T G.cl d env S1).b fun md z S => if md = .br then .bad else (match lookD ds k with | some v => .ok .fz v S | none => .ok md z S) | none => .bad) Q := p1
      rw [hkk] at p2
      exact p2.elim
    | some kk =>
      have p2 : Post X.K G (fun c d H' => W c d σ H') F1 H1 (match d1.nk with | some k => (evE G.T G.cl d env S1).b fun md z S => if md = .br then .bad else (match lookD ds k with | some v => .ok .fz v S | none => .ok md z S) | none => .bad) Q := p1
      rw [hkk] at p2
      dsimp only at p2
      refine hd X W osc _ C h8 σ H1 F1 env S1 _ ((sr.mono q0).mono q1) q1.fh s1 ?_
      cases hE : evE G.T G.cl d env S1 with
      | bad => rw [hE] at p2; exact p2.elim
      | exc y S2 => rw [hE] at p2; exact p2
      | ok m2 d2 S2 =>
        rw [hE] at p2
        intro v2 F2 H2 q2 s2 w2
        have p3 : Post X.K G (fun c d H' => W c d σ H') F1 H1 (if m2 = .br then .bad else match lookD ds kk with | some v => .ok .fz v S2 | none => .ok m2 d2 S2) Q := p2
        split at p3
        · exact p3.elim
        have w1' := w1.mono q2
        obtain ⟨b, rfl, kin⟩ := w1'.keyIn q2.fh hkk
        have r' := (r.mono q1.ff).mono q2.ff
        refine ⟨b, kk, rfl, q2.hh a _ (q1.hh a _ ha' na.1 na.2) na.1 na.2, r'.keysIn q2.fh, kin, ?_⟩
        have lk := r'.look kk
        cases hl : lookD ds kk with
        | some dv =>
          rw [hl] at p3 lk
          obtain ⟨v, hv, hr⟩ := lk
          rw [hv]
          exact p3 v F2 H2 q2 s2 hr
        | none =>
          rw [hl] at p3 lk
          dsimp only at lk
          rw [lk]
          exact p3 v2 F2 H2 q2 s2 w2
  | _ => exact p0.elim
theorem se_mset {a : Xp} (ha : SE n G a) : SE n G (.mset a) := by
  intro X W osc x C h σ H F env S Q sr e s p
  rw [chkE] at h
  cases hc : call1 x with
  | none => rw [hc] at h; cases h
  | some t =>
  obtain ⟨nm, y⟩ := t
  rw [hc] at h
  dsimp only at h
  obtain ⟨np1, pos1, rfl⟩ := call1_eq hc
  simp only [Bool.and_eq_true] at h
  obtain ⟨⟨⟨h1, h2⟩, h3⟩, h4⟩ := h
  have h1 := of_decide_eq_true h1
  subst h1
  obtain ⟨g1, g2⟩ := gl_of (X := X) h2
  refine .of (pe_callTy (X := X) (pos := pos1) (p := np1) wc g1 (C.blt "set" (by decide +kernel)) bootSet (pa_cons (we (e := y)) pa_nil (star_cons h3 _ _)) (by decide +kernel) g2 (star_cons h3 _ _) rfl) ?_
  rw [evE] at p
  refine ha X W osc _ C h4 σ H F env S _ sr e s (p.bind.mono ?_ fun _ _ _ z => z)
  rintro v1 H1 ⟨m1, d1, S1, F1, q1, s1, w1, p1⟩
  have eL := q1.fh
  cases hi : d1.items with
  | none => rw [hi] at p1; exact p1.elim
  | some ds =>
    rw [hi] at p1
    dsimp only at p1
    cases hs : rowsD ds with
    | none => rw [hs] at p1; exact p1.elim
    | some ls =>
      rw [hs] at p1
      dsimp only at p1
      split at p1
      · rename_i hl
        have ed := rowsD_eq hs
        subst ed
        have seq : ∃ b xs, v1 = .ref b ∧ (SqL X.K H1 b xs ∨ SqT X.K H1 b xs) ∧ DRs X.K G.sa F1 xs (ls.map tupD) := by
          cases d1 with
          | lst zs =>
            cases hi
            obtain ⟨b, us, rfl, k1, k2⟩ := w1.lst eL
            exact ⟨b, us, rfl, .inl (SqL.of k1), k2⟩
          | tup zs =>
            cases hi
            obtain ⟨b, us, rfl, k1, k2⟩ := w1.tup
            exact ⟨b, us, rfl, .inr (ex_t eL k1), k2⟩
          | _ => cases hi
        obtain ⟨b, xs, rfl, hsq, r1⟩ := seq
        obtain ⟨ks, rfl, e2, e3⟩ := rows_addr r1
        have len : FewB ks := fewB_of e2 hl
        refine sSetOf C.calm C.units hsq (fun q hq => ex_t eL (e3 q hq)) len fun A L nA sub all => ?_
        have g3 := Gr.newF (sa := G.sa) (o := BTO X.prog X.w A L) eL nA
        refine p1 _ _ _ g3 ((s1.new nA).fz (fun z => by rw [z] at nA; exact s1.n1 nA) (fun z => by rw [z] at nA; exact s1.n2 nA)) (DR.ts (L := L) (by rw [C.pw.1, C.pw.2]; exact upd_same) (fun q hq => ex_t (Ex.new (fresh_back eL nA)) (e3 q (sub q hq))) fun z => ?_)
        rw [← e2]
        constructor
        · intro hz
          obtain ⟨q, hq, rfl⟩ := List.mem_map.mp hz
          exact List.mem_map.mpr ⟨q, sub q hq, rfl⟩
        · intro hz
          obtain ⟨q, hq, rfl⟩ := List.mem_map.mp hz
          exact all q hq
      · exact p1.elim
theorem dks_at {K : PySem.W.Frag} {sa : Sa} {F : Hp} : ∀ {kvs : List Ent} {ds : List (D × D)} {i : Nat} {k : NestedKey} {b : Addr} {v : V}, DKs K sa F kvs ds → kvs[i]? = some (k, b, v) → ∃ kd vd, ds[i]? = some (kd, vd) ∧ DR K sa F (.ref b) kd ∧ DR K sa F v vd
  | _, _, _, _, _, _, .nil, h => by simp at h
  | _, _, 0, _, _, _, .cons (kd := kd) (vd := vd) h q v r, e => by
    simp at e
    obtain ⟨rfl, rfl, rfl⟩ := e
    exact ⟨_, _, rfl, h, v⟩
  | _, _, i + 1, _, _, _, .cons h q v r, e => by
    obtain ⟨kd, vd, h1, h2, h3⟩ := dks_at (i := i) r (by simpa using e)
    exact ⟨kd, vd, by simpa using h1, h2, h3⟩
theorem WalkD.itemsN {K : PySem.W.Frag} {sa : Sa} {F H : Hp} {br : Bool} {a : Addr} {o : Obj} {kvs : List Ent} {ds : List (D × D)} (h : F a = some (dicO sa.prog sa.w a o kvs)) (e0 : Ex F H) (r : DKs K sa F kvs ds) :
    WalkD K sa br F H (ItN sa.prog sa.w a o kvs) (ds.map fun p => .tup [p.1, p.2]) := by
  refine ⟨_, _, by rw [List.length_map, ← r.length]; exact walk_itemsN, fun F2 H2 g => (g.ff.trans g.fh) _ _ h, fun _ F2 H2 e1 e2 => (e1.trans e2) _ _ h, fun i F2 H2 x H3 e1 e2 _ y => ?_⟩
  obtain ⟨p, v, u, rfl, hn, rfl, hv, hu⟩ := y
  dsimp only at hv hu
  cases hk : kvs[i]? with
  | none => rw [hk] at hv; cases hv
  | some t =>
    obtain ⟨k, b, w⟩ := t
    rw [hk] at hv hu
    cases hv
    cases hu
    obtain ⟨kd, vd, h1, h2, h3⟩ := dks_at r hk
    refine ⟨.tup [kd, vd], _, by rw [List.getElem?_map, h1]; rfl, Gr.newF e2 hn, fun S s => ?_, .tup (Or.inl (Or.inl upd_same)) (.cons ((h2.mono e1).mono (Ex.new (fresh_back e2 hn))) (.cons ((h3.mono e1).mono (Ex.new (fresh_back e2 hn))) .nil))⟩
    exact (s.new hn).fz (fun z => by rw [z] at hn; exact s.n1 hn) (fun z => by rw [z] at hn; exact s.n2 hn)
theorem si_items {a : Xp} (ha : SE n G a) : SI n G (.items a) := by
  intro X W osc x tg C h σ H F env S R sr e s p
  rw [chkI] at h
  cases hc : itemsOf x with
  | none => rw [hc] at h; cases h
  | some t =>
  obtain ⟨nm, y, apos, cpos⟩ := t
  rw [hc] at h
  dsimp only at h
  obtain rfl := itemsOf_eq hc
  simp only [Bool.and_eq_true] at h
  obtain ⟨⟨⟨⟨h0, h1⟩, h2⟩, h3⟩, h4⟩ := h
  obtain ⟨es, kk, tp, rfl⟩ := isTup_eq h0
  have h1 := of_decide_eq_true h1
  subst h1
  rw [evI] at p
  refine .of (pi_itemsN (we (e := y)) (base_of h3 _ _) h2) (ha X W osc _ C h4 σ H F env S _ sr e s ?_)
  cases hE : evE G.T G.cl a env S with
  | bad => rw [hE] at p; exact p.elim
  | exc y S1 => rw [hE] at p; exact p
  | ok m d S1 =>
    rw [hE] at p
    intro v F1 H1 g1 s1 w1
    cases d with
    | dic ds =>
      have p1 : PostI X.K G (fun c d H' => W c d σ H') F H (if m = .fz then .ok false (ds.map fun p => .tup [p.1, p.2]) S1 else .bad) R := p
      split at p1
      · rename_i hm
        subst hm
        cases w1 with
        | dic h r =>
          rename_i a ob kvs
          refine ⟨a, ob, kvs, rfl, by rw [dicPW C.pw]; exact g1.fh _ _ h, fun hz => ?_⟩
          rw [← C.pw.1, ← C.pw.2]
          exact p1 _ F1 H1 g1 (by rw [List.length_map, ← r.length]; exact hz) s1 (WalkD.itemsN h g1.fh r)
      · exact p1.elim
    | _ => exact p.elim
end
end Mp
set_option Elab.async false
set_option maxRecDepth 100000
set_option maxHeartbeats 4000000
/-! MpX2: own exceptions as values: the rules. -/
namespace Mp
open PySem L2 Evl
section
variable {X : Cx} {pins : List (Addr × Obj)} {σ : L2.St} {H : Hp} {s : Shared} {C : Addr} {E : Value → Shared → Prop} {A : Around}
theorem vals_zip : ∀ {ns : List Str} {vs : List V} {us : List Value}, Vals vs us → ∀ y, RelO ((ns.zip vs).reverse.lookup y) ((ns.zip us).reverse.lookup y) := by
  intro ns vs us r y
  induction r generalizing ns with
  | nil => rw [List.zip_nil_right, List.zip_nil_right]; exact True.intro
  | @cons v u vs us h r ih =>
    cases ns with
    | nil => exact True.intro
    | cons n ns =>
      rw [List.zip_cons_cons, List.zip_cons_cons, List.reverse_cons, List.reverse_cons, List.lookup_append, List.lookup_append]
      have q := ih (ns := ns)
      cases z : (ns.zip vs).reverse.lookup y with
      | some a =>
        rw [z] at q
        cases z2 : (ns.zip us).reverse.lookup y with
        | some b => rw [z2] at q; exact q
        | none => rw [z2] at q; exact q.elim
      | none =>
        rw [z] at q
        cases z2 : (ns.zip us).reverse.lookup y with
        | some b => rw [z2] at q; exact q.elim
        | none =>
          show RelO ([(n, v)].lookup y) ([(n, u)].lookup y)
          by_cases e : y = n
          · subst e
            simp [List.lookup]
            exact h
          · have e' : (y == n) = false := by simpa using e
            simp [List.lookup, e']
            exact True.intro
theorem exC_ok {P : Program} {w : World} {H : Hp} {h : Heap} {a : Addr} {cls : Value} {d : Option Addr} {oe : Obj} {vs : Array Value} (e : h.get? a = some oe) (z : Zc cls d oe) (q : oe.data = .fields vs) : ObjOk P w H h a (ExC cls d a) :=
  ⟨⟨oe, vs, e, z, q⟩, ⟨oe, e⟩, fun _ _ ⟨o, v, q, r⟩ k => ⟨o, v, k o q, r⟩⟩
/-- a new exception and its dict, tracked -/
theorem inv_made {h' : Heap} {t' : Nat} {a dx : Addr} {o1 o2 : HO} (I : Inv X pins σ H s) (k : ∀ b o, s.heap.get? b = some o → h'.get? b = some o) (na : s.heap.get? a = none) (nd : s.heap.get? dx = none) (ne : dx ≠ a)
    (k1 : ObjOk X.prog X.w (upd (upd H a o1) dx o2) h' a o1) (k2 : ObjOk X.prog X.w (upd (upd H a o1) dx o2) h' dx o2) : Inv X pins σ (upd (upd H a o1) dx o2) { s with heap := h', toks := t' } := by
  have ha := I.hok.gone na
  have hd := I.hok.gone nd
  have e1 : ∀ {b : Addr} {o : Obj}, s.heap.get? b = some o → upd (upd H a o1) dx o2 b = H b := fun {b o} z => by
    rw [upd_ne (fun y => by rw [y, nd] at z; cases z), upd_ne (fun y => by rw [y, na] at z; cases z)]
  have e2 : ∀ {b : Addr} {u : HO}, H b = some u → upd (upd H a o1) dx o2 b = some u := fun {b u} z => by
    rw [upd_ne (ne_of_none z hd), upd_ne (ne_of_none z ha)]
    exact z
  refine I.un (t' := t') ⟨fun b o q n _ _ => k b o q, fun b o q n _ _ => ⟨o.slots, k b o q⟩, fun b o q n _ => by rw [e1 q]; exact n, fun b o q _ => ⟨o, k b o q⟩, fun b xs q => e2 q, fun b o u q => e2 q, fun b ps q => ⟨#[], by rw [e2 q]; simp⟩⟩ fun b o q => ?_
  by_cases hb : b = dx
  · subst hb
    rw [upd_same] at q
    cases q
    exact k2
  · rw [upd_ne hb] at q
    by_cases hc : b = a
    · subst hc
      rw [upd_same] at q
      cases q
      exact k1
    · rw [upd_ne hc] at q
      exact (I.hok b o q).stay (fun c v _ z => k c v z) (fun c z => e2 z) (fun c xs z => e2 z)
end
section
variable {X : Cx} {e : Expr} {es : List Expr} {ta : TA} {C : Addr} {x sl : Str} {as : List (Str × Str)} {p pos : Pos}
/-- C(e, ..), C's own __init__ storing what it gets -/
def tMkI (C : Addr) (as : List (Str × Str)) (ta : TA) : TE := fun σ H Q => ta σ H fun vs H1 => vs.length = as.length ∧ as.length ≤ 900 ∧
  ∀ a dx, H1 a = none → H1 dx = none → dx ≠ a → Q (.ref a) (upd (upd H1 a (ExC (.ref C) (some dx) a)) dx (.xd ((as.map (·.1)).zip vs).reverse))
theorem pe_ini {k : Nat} (hne : as ≠ []) (I : IniC X.prog X.K C sl as) (hr : Room k X.A) (hg : Gl X x) (hm : X.mg x = some (.ref C)) (hms : X.mg "super" = none) (ha : PA X (e :: es) ta) (hdb : (x == ("__debug__" : Str)) = false)
    (he : starEach (e :: es) X.env = (false, eval e X.env) :: starEach es X.env) (hpl : (backTo pos (starEach es X.env)).any (·.1) = false) : PE X (.Call (.Name x p) (e :: es) [] pos) (tMkI C as ta) := by
  have T := I.oex
  obtain ⟨nm, q, N, bs, bm, sn, sub, ab, col, dd, k0, k1, k2, k3, k5, hC, hbm⟩ := T.cls
  obtain ⟨f, hf, tf⟩ : ∃ f, PySem.W.findIn X.K (.ref C) "__init__" = some (some (.ref f)) ∧ PySem.W.typeIn X.K (.ref f) = some (.type "function") := by
    obtain ⟨f, _, _, _, _, _, _, _, _, _, _, _, _, _, _, _, _, _, _, _, _, _, _, _, _, _, _, _, _, _, _, _, _, _, _, _, h1, h2, _⟩ := I.run
    exact ⟨f, h1, h2⟩
  refine ⟨fun pins s σ H Q I0 h => ?_⟩
  refine wpAny_Call_Name_kw (ld_glob I0 hg hm ?_ hdb)
  refine PySem.W.callWith_K (h₀ := X.base) I0.ok.mod.kin T.kC (thn (ha.run pos pins s σ H _ I0 h) fun us s1 ⟨vs, H1, I1, r1, hl, hz, q1⟩ => ⟨I1.kIn, ?_⟩) he hpl
  show wpAny _ _ (call (.ref C) us) _ _ _
  have hlu : us.length = as.length := (Paired.length r1).symm.trans hl
  have hus : us.length ≤ sizeLine := by rw [sizeLine_eq]; omega
  obtain ⟨hp, g, dr, tk, os⟩ := s1
  have I1h : ∀ b o, hp.get? b = some o → ((hp.push (PySem.W.kdv_tup us)).push (PySem.HandSPX.excO C hp.objs.size)).get? b = some o := fun b o e => Heap.get?_push_of_some _ (Heap.get?_push_of_some _ e)
  have hget : ((hp.push (PySem.W.kdv_tup us)).push (PySem.HandSPX.excO C hp.objs.size)).get? (hp.objs.size + 1) = some (PySem.HandSPX.excO C hp.objs.size) := by heap_get
  obtain ⟨mb, hmb, hmb2⟩ := I1.ok.mod.blt
  have kk : ∀ b o, X.base.get? b = some o → ((hp.push (PySem.W.kdv_tup us)).push (PySem.HandSPX.excO C hp.objs.size)).get? b = some o := fun b o z => I1h b o (I1.bk b o z)
  have hn : hp.get? (hp.objs.size + 1) = none := Heap.get?_none_of_le (Nat.le_succ _)
  refine wpAny_call (PySem.HandSPX.call_own PySem.F.excBase_ValueError (fun Y => PySem.HandSPX.refsVE_contains Y bm hbm) (I1.kIn _ _ hC) (PySem.W.looks_findIn I1.kIn hf) (fun self => PySem.W.bind_fn I1.kIn self tf) hus ?_)
  refine ini_run (hB := hp) (mg := X.mg) (mb := mb) I I1.kIn I1h hn hget (ns_at I1.ok.mod.glob fun o z => kk _ _ z) hms (ns_at hmb fun o z => kk _ _ z) ((hmb2 _ (by decide)).trans PyProof.Rows.Boot.«super») (I1.ok.mod.nolimit.keeps kk) ?_ hlu hz hf fun h' t' L k' S => ?_
  · rw [make_depth]
    have := hr.dp
    omega
  · rcases S with ⟨e0, _⟩ | ⟨dx, t0, m0, he', hns, hm0, hBd, dne, _⟩
    · exfalso
      cases as with
      | nil => exact hne rfl
      | cons q as =>
        cases us with
        | nil => cases hlu
        | cons u us =>
          rw [List.map_cons, List.zip_cons_cons, List.reverse_cons] at e0
          exact absurd e0 (by simp)
    · refine ⟨rfl, .ref (hp.objs.size + 1), _, inv_made (a := hp.objs.size + 1) (dx := dx) I1 k' hn hBd dne (exC_ok he' ⟨rfl, rfl⟩ rfl) ?_, rfl, q1 _ _ (I1.hok.gone hn) (I1.hok.gone hBd) dne⟩
      exact ⟨m0, hns, fun y => by rw [hm0]; exact vals_zip r1 y⟩

/-- C(), C(e) of an own class without own __init__ -/
theorem pe_xc0 (E : ExcF X x C) (hx : PySem.W.excIn X.K C [.type "ValueError", .type "Exception", .type "BaseException", .type "object"] "ValueError.__new__" = true) (hg : Gl X x) (hdb : (x == ("__debug__" : Str)) = false) :
    PE X (.Call (.Name x p) [] [] pos) (fun _ H Q => ∀ a, H a = none → Q (.ref a) (upd H a (ExC (.ref C) none a))) := by
  refine ⟨fun pins s σ H Q I h => ?_⟩
  refine wpAny_Call_Name_kw (ld_glob I hg E.mg ?_ hdb)
  refine PySem.W.callWith_K0 I.kIn E.kp ?_
  obtain ⟨bm, M, nm, qn, bs, hdct, sn, sub, ab, col, dd, k0, k1, k2, k3, k5, mN, hC, hN, hni, T⟩ := exc_obj I.kIn hx
  refine wpAny_call_exc_subT PySem.F.excBase_ValueError T hC hN hni (fun h' a hm => ?_) (Nat.zero_le _)
  have hn : H a = none := I.hok.gone hm.new
  obtain ⟨t, ht, _, _⟩ := hm.there
  exact ⟨.ref a, _, I.laidN (t' := s.toks) hm.keeps hm.new hn (exC_ok ht ⟨rfl, rfl⟩ rfl), rfl, h a hn⟩
theorem pe_xc1 {te : TE} (E : ExcF X x C) (hx : PySem.W.excIn X.K C [.type "ValueError", .type "Exception", .type "BaseException", .type "object"] "ValueError.__new__" = true) (hg : Gl X x) (hdb : (x == ("__debug__" : Str)) = false) (he : PE X e te)
    (hs : starEach [e] X.env = (false, eval e X.env) :: starEach [] X.env) : PE X (.Call (.Name x p) [e] [] pos) (fun σ H Q => te σ H fun _ H1 => ∀ a, H1 a = none → Q (.ref a) (upd H1 a (ExC (.ref C) none a))) := by
  refine ⟨fun pins s σ H Q I h => ?_⟩
  refine wpAny_Call_Name_kw (ld_glob I hg E.mg ?_ hdb)
  refine PySem.W.callWith_K (h₀ := X.base) I.ok.mod.kin E.kp ?_ hs (by rfl)
  rw [hs]
  refine Calls.spliced_cons (thn (he.run pins s σ H _ I h) fun u s1 ⟨v, H1, I1, r1, q1⟩ => ?_)
  refine Calls.spliced_nil ⟨I1.kIn, ?_⟩
  obtain ⟨bm, M, nm, qn, bs, hdct, sn, sub, ab, col, dd, k0, k1, k2, k3, k5, mN, hC, hN, hni, T⟩ := exc_obj I1.kIn hx
  refine wpAny_call_exc_subT PySem.F.excBase_ValueError T hC hN hni (fun h' a hm => ?_) (by show 1 ≤ sizeLine; rw [sizeLine_eq]; omega)
  have hn : H1 a = none := I1.hok.gone hm.new
  obtain ⟨t, ht, _, _⟩ := hm.there
  exact ⟨.ref a, _, I1.laidN (t' := s1.toks) hm.keeps hm.new hn (exC_ok ht ⟨rfl, rfl⟩ rfl), rfl, q1 a hn⟩
/-- e.f, e an exception with fields -/
def tFld (K : PySem.W.Frag) (n : Str) (te : TE) : TE := fun σ H Q => te σ H fun x H1 => ∃ (a dd C : Addr) (fs : List (Str × V)) (v : V), x = .ref a ∧ H1 a = some (ExC (.ref C) (some dd) a) ∧ H1 dd = some (.xd fs) ∧ ExcC K C ∧ PySem.W.findIn K (.ref C) n = some none ∧ fs.lookup n = some v ∧ Q v H1
theorem exC_at {K : PySem.W.Frag} {P : Program} {w : World} {H : Hp} {h : Heap} {a : Addr} {d : Option Addr} (hok : HOk P w H h) (ha : H a = some (ExC (.ref C) d a)) : ∃ oe vs, h.get? a = some oe ∧ Zc (.ref C) d oe ∧ oe.data = .fields vs :=
  (show ObjOk P w H h a (ExC (.ref C) d a) from hok a _ ha).1
theorem pe_fld {te : TE} {n : Str} (he : PE X e te) (hb : attributeBase e n X.env (eval e X.env) = eval e X.env) : PE X (.Attribute e n pos) (tFld X.K n te) := by
  refine ⟨fun pins s σ H Q I h => ?_⟩
  refine attr_of hb (thn (he.run pins s σ H _ I h) fun u s1 hh => ?_)
  obtain ⟨x, H1, I1, rx, a, dd, C, fs, v, rfl, ha, hd, EC, hno, l, q⟩ := hh
  obtain rfl : u = Value.ref a := rx
  obtain ⟨oe, vs, o1, o2, o3⟩ := exC_at (K := X.K) I1.hok ha
  obtain ⟨mA, hns, hr⟩ : ∃ mA, s1.heap.Ns1 dd mA ∧ ∀ f, RelO (fs.lookup f) (mA f) := (show ObjOk X.prog X.w H1 s1.heap dd (.xd fs) from I1.hok dd _ hd)
  obtain ⟨od, ho, hl⟩ := lookIn_ns hns
  obtain ⟨u, hu, ru⟩ := RelO.some_of (v := v) (o := mA n) (by rw [← l]; exact hr n)
  have J : PySem.W.InstAt s1.heap a oe C (some od) := ⟨o1, o2.1, by unfold PySem.W.notCls; rw [o3] <;> rfl, by rw [o2.2]; exact ho⟩
  exact HandSPX.exc_get I1.kIn J EC.hg EC.hk EC.hs (PySem.W.findObj_own EC.hd hno rfl (by rw [hl, hu])) (handed_of ru) ⟨v, H1, I1.tok _, ru, q⟩
end
end Mp
set_option Elab.async false
set_option maxRecDepth 100000
set_option maxHeartbeats 4000000
/-! MpX3: own exceptions as values: the written forms. -/
namespace Mp
open PySem L2 Evl
section
variable {n : Nat} {G : Gd}
theorem se_mkx0 {c : Str} : SE n G (.mkx0 c) := by
  intro X W osc x C h σ H F env S Q sr e s p
  rw [chkE] at h
  cases hc : call0 x with
  | none => rw [hc] at h; cases h
  | some nm =>
  rw [hc] at h
  dsimp only at h
  obtain ⟨np1, pos1, rfl⟩ := call0_eq hc
  rw [Bool.and_eq_true] at h
  obtain ⟨h1, h2⟩ := h
  have h1 := of_decide_eq_true h1
  subst h1
  obtain ⟨g1, g2⟩ := gl_of (X := X) h2
  rw [evE] at p
  split at p
  · rename_i hh
    obtain ⟨a, ha⟩ := Option.isSome_iff_exists.mp (C.cls c hh.1 hh.2.2)
    refine .of (pe_xc0 (C.exc c a ha) (C.exn c a ha (Option.isNone_iff_eq_none.mp hh.2.1)) g1 g2) fun q nq => ?_
    exact p _ _ _ (Gr.newF e nq) ((s.new nq).fz (fun z => by rw [z] at nq; exact s.n1 nq) (fun z => by rw [z] at nq; exact s.n2 nq)) (DR.exc ha upd_same)
  · exact p.elim
theorem se_mkx1 {c : Str} {a : Xp} (ha : SE n G a) : SE n G (.mkx1 c a) := by
  intro X W osc x C h σ H F env S Q sr e s p
  rw [chkE] at h
  cases hc : call1 x with
  | none => rw [hc] at h; cases h
  | some t =>
  obtain ⟨nm, y⟩ := t
  rw [hc] at h
  dsimp only at h
  obtain ⟨np1, pos1, rfl⟩ := call1_eq hc
  simp only [Bool.and_eq_true] at h
  obtain ⟨⟨⟨h1, h2⟩, h3⟩, h4⟩ := h
  have h1 := of_decide_eq_true h1
  subst h1
  obtain ⟨g1, g2⟩ := gl_of (X := X) h2
  rw [evE] at p
  split at p
  · rename_i hh
    obtain ⟨A, hA⟩ := Option.isSome_iff_exists.mp (C.cls c hh.1 hh.2.2)
    refine .of (pe_xc1 (C.exc c A hA) (C.exn c A hA (Option.isNone_iff_eq_none.mp hh.2.1)) g1 g2 (we (e := y)) (star_cons h3 _ _)) ?_
    refine ha X W osc _ C h4 σ H F env S _ sr e s (p.bind.mono ?_ fun _ _ _ z => z)
    rintro v1 H1 ⟨m1, d1, S1, F1, q1, s1, w1, p1⟩ q nq
    exact p1 _ _ _ (Gr.newF q1.fh nq) ((s1.new nq).fz (fun z => by rw [z] at nq; exact s1.n1 nq) (fun z => by rw [z] at nq; exact s1.n2 nq)) (DR.exc hA upd_same)
  · exact p.elim
theorem dfs_zip {K : PySem.W.Frag} {sa : Sa} {F : Hp} : ∀ {ns : List Str} {vs : List V} {ds : List D}, DRs K sa F vs ds → DFs K sa F (ns.zip vs) (ns.zip ds)
  | [], _, _, _ => .nil
  | _ :: _, [], [], .nil => .nil
  | _ :: _, _ :: _, _ :: _, .cons h r => .cons h (dfs_zip r)
theorem DFs.app {K : PySem.W.Frag} {sa : Sa} {F : Hp} {a2 : List (Str × V)} {b2 : List (Str × D)} (h2 : DFs K sa F a2 b2) : ∀ {a1 : List (Str × V)} {b1 : List (Str × D)}, DFs K sa F a1 b1 → DFs K sa F (a1 ++ a2) (b1 ++ b2)
  | _, _, .nil => h2
  | _, _, .cons h r => .cons h (DFs.app h2 r)
theorem DFs.rev {K : PySem.W.Frag} {sa : Sa} {F : Hp} : ∀ {a : List (Str × V)} {b : List (Str × D)}, DFs K sa F a b → DFs K sa F a.reverse b.reverse
  | _, _, .nil => .nil
  | _, _, .cons h r => by
    rw [List.reverse_cons, List.reverse_cons]
    exact DFs.app (.cons h .nil) (DFs.rev r)
theorem DFs.look {K : PySem.W.Frag} {sa : Sa} {F : Hp} {f : Str} {d : D} : ∀ {a : List (Str × V)} {b : List (Str × D)}, DFs K sa F a b → b.lookup f = some d → ∃ v, a.lookup f = some v ∧ DR K sa F v d
  | _, _, .nil, h => by cases h
  | (n, v) :: _, _, .cons (n := _) (d := e) h r, q => by
    rw [List.lookup_cons] at q ⊢
    cases z : f == n with
    | true =>
      rw [z] at q
      cases q
      exact ⟨v, rfl, h⟩
    | false =>
      rw [z] at q
      exact DFs.look r q
theorem se_mki {c : Str} {es : List Xp} (hs : SA n G es) : SE n G (.mki c es) := by
  intro X W osc x C h σ H F env S Q sr e s p
  rw [chkE] at h
  cases hc : callN x with
  | none => rw [hc] at h; cases h
  | some t =>
  obtain ⟨nm, y, ys⟩ := t
  rw [hc] at h
  dsimp only at h
  obtain ⟨np1, pos1, rfl⟩ := callN_eq hc
  simp only [Bool.and_eq_true] at h
  obtain ⟨⟨h1, h2⟩, h4⟩ := h
  have h1 := of_decide_eq_true h1
  subst h1
  obtain ⟨g1, g2⟩ := gl_of (X := X) h2
  rw [evE] at p
  cases hi : G.T.ini c with
  | none => rw [hi] at p; exact p.elim
  | some fs =>
    rw [hi] at p
    dsimp only at p
    obtain ⟨k1, k2, A, sl, as, k3, k4, I⟩ := C.ini c fs hi
    have hst := chkEs_star h4
    have hy := hst y List.mem_cons_self
    have hne : as ≠ [] := fun z => k1 (by rw [← k4, z]; rfl)
    refine .of (pe_ini (pos := pos1) (p := np1) (k := n) hne I C.room g1 (C.exc c A k3).mg (C.blt _ (by decide +kernel)) (wa (es := y :: ys)) g2 (star_cons hy _ _) (star_plain _ _ fun z hz => hst z (List.mem_cons_of_mem _ hz))) ?_
    refine hs X W osc _ C h4 σ H F env S _ sr e s ?_
    cases hE : evEs G.T G.cl es env S with
    | bad => rw [hE] at p; exact p
    | exc x S1 => rw [hE] at p; exact p
    | ok ds S1 =>
      rw [hE] at p
      have p0 : Post X.K G (fun c d H' => W c d σ H') F H (if ds.length = fs.length then .ok .fz (.exc c (fs.zip ds).reverse) S1 else .bad) Q := p
      split at p0
      · rename_i hl
        intro vs F1 H1 g1 s1 r1
        have la : as.length = fs.length := by rw [← k4, List.length_map]
        refine ⟨by rw [r1.length, hl, la], by rw [la]; exact k2, fun a dx na nd ne => ?_⟩
        rw [k4]
        have eL := g1.fh
        have f1 := Gr.newF (sa := G.sa) (o := ExC (.ref A) (some dx) a) eL na
        have sa1 : a ≠ G.sa.s1 := fun z => by rw [z] at na; exact s1.n1 na
        have sa2 : a ≠ G.sa.s2 := fun z => by rw [z] at na; exact s1.n2 na
        have sd1 : dx ≠ G.sa.s1 := fun z => by rw [z] at nd; exact s1.n1 nd
        have sd2 : dx ≠ G.sa.s2 := fun z => by rw [z] at nd; exact s1.n2 nd
        have s2 := (s1.new (o := ExC (.ref A) (some dx) a) na).fz sa1 sa2 (o := ExC (.ref A) (some dx) a)
        have nd2 : upd H1 a (ExC (.ref A) (some dx) a) dx = none := by rw [upd_ne ne]; exact nd
        have f2 := Gr.newF (sa := G.sa) (o := .xd (fs.zip vs).reverse) f1.fh nd2
        have s3 := (s2.new (o := .xd (fs.zip vs).reverse) nd2).fz sd1 sd2 (o := .xd (fs.zip vs).reverse)
        refine p0 _ _ _ ((g1.trans f1).trans f2) s3 (DR.exf k3 ?_ upd_same (fun q hq => ?_) (DFs.rev (dfs_zip ((r1.mono f1.ff).mono f2.ff))))
        · rw [upd_ne (Ne.symm ne)]
          exact upd_same
        · rw [List.mem_reverse] at hq
          have hm := (List.of_mem_zip hq).1
          rw [← k4] at hm
          obtain ⟨q', hq', e'⟩ := List.mem_map.mp hm
          rw [← e']
          exact I.fld q' hq'
      · exact p0.elim
theorem se_fld {a : Xp} {f : Str} (ha : SE n G a) : SE n G (.fld a f) := by
  intro X W osc x C h σ H F env S Q sr e s p
  rw [chkE] at h
  cases hc : attrOf x with
  | none => rw [hc] at h; cases h
  | some t =>
  obtain ⟨o', f', pos⟩ := t
  rw [hc] at h
  dsimp only at h
  obtain rfl := attrOf_eq hc
  simp only [Bool.and_eq_true] at h
  obtain ⟨⟨h1, h2⟩, h3⟩ := h
  have h1 := of_decide_eq_true h1
  subst h1
  rw [evE] at p
  refine .of (pe_fld (we (e := o')) (base_of h2 _ _)) ?_
  refine ha X W osc _ C h3 σ H F env S _ sr e s (p.bind.mono ?_ fun _ _ _ z => z)
  rintro v1 H1 ⟨m1, d1, S1, F1, q1, s1, w1, p1⟩
  cases d1 with
  | exc nm fs =>
    have p2 : Post X.K G (fun c d H' => W c d σ H') F1 H1 (okd (fs.lookup f) S1) Q := p1
    cases hl : fs.lookup f with
    | none => rw [hl] at p2; exact p2.elim
    | some d =>
      rw [hl] at p2
      cases m1 with
      | fz =>
        cases w1 with
        | exc _ _ => cases hl
        | exf j1 j2 j3 j4 j5 =>
          rename_i b dd D vs
          obtain ⟨v, hv, hr⟩ := j5.look hl
          have hm : (f, v) ∈ vs := by
            have key : ∀ {l : List (Str × V)} {y : V}, l.lookup f = some y → (f, y) ∈ l := by
              intro l
              induction l with
              | nil => intro y h; cases h
              | cons q l ih =>
                intro y h
                obtain ⟨g, z⟩ := q
                rw [List.lookup_cons] at h
                cases zz : f == g with
                | true =>
                  rw [zz] at h
                  cases h
                  rw [eq_of_beq zz]
                  exact List.mem_cons_self
                | false =>
                  rw [zz] at h
                  exact List.mem_cons_of_mem _ (ih h)
            exact key hv
          exact ⟨_, dd, D, vs, v, rfl, q1.fh _ _ j2, q1.fh _ _ j3, (C.exc nm D j1).ec, j4 _ hm, hv, post_flat p2 q1.fh s1 hr⟩
      | fr => obtain ⟨_, _, _, _, _, _, o⟩ := w1; exact o.elim
      | br => obtain ⟨_, _, _, _, _, o⟩ := w1; exact o.elim
  | _ => exact p1.elim
end
end Mp
set_option Elab.async false
set_option maxRecDepth 100000
set_option maxHeartbeats 4000000
/-! MpY: a call that gives a new list of whole numbers. -/
namespace Mp
open PySem L2 Evl
def numsV (xs : List V) : Bool := xs.all fun v => match v with
  | .int _ => true
  | _ => false
/-- without the lists of whole numbers -/
def cutI (F : Hp) : Hp := fun a => match F a with
  | some (.lst xs) => if numsV xs = true then none else some (.lst xs)
  | o => o
section
variable {K : PySem.W.Frag} {sa : Sa} {F : Hp}
theorem cut_sub : Ex (cutI F) F := fun a o h => by
  unfold cutI at h
  split at h
  · rename_i xs e
    split at h
    · cases h
    · cases h
      exact e
  · exact h
theorem cut_keep {a : Addr} {o : HO} (h : F a = some o) (n : ∀ xs, o = .lst xs → numsV xs = false) : cutI F a = some o := by
  unfold cutI
  rw [h]
  cases o with
  | lst xs =>
    dsimp only
    rw [n xs rfl]
    rfl
  | _ => rfl
theorem cut_lst {a : Addr} {xs : List V} (h : cutI F a = some (.lst xs)) : numsV xs = false := by
  have h0 := cut_sub a _ h
  unfold cutI at h
  rw [h0] at h
  dsimp only at h
  split at h
  · cases h
  · rename_i e
    exact Bool.eq_false_iff.mpr e
theorem nums_ints : ∀ {xs : List V} {ds : List D}, DRs K sa F xs ds → numsV xs = true → (intsOf ds).isSome = true
  | _, _, .nil, _ => rfl
  | v :: xs, d :: ds, .cons h r, q => by
    unfold numsV at q
    rw [List.all_cons, Bool.and_eq_true] at q
    have ih := nums_ints r q.2
    cases v with
    | int i =>
      cases h
      rw [intsOf]
      cases z : intsOf ds with
      | none => rw [z] at ih; cases ih
      | some l => rfl
    | _ => cases q.1
theorem ints_nums : ∀ {xs : List V} {ds : List D}, DRs K sa F xs ds → (intsOf ds).isSome = true → numsV xs = true
  | _, _, .nil, _ => rfl
  | v :: xs, d :: ds, .cons h r, q => by
    cases d with
    | int i =>
      cases h
      rw [intsOf] at q
      unfold numsV
      rw [List.all_cons, Bool.and_eq_true]
      refine ⟨rfl, ints_nums r ?_⟩
      cases z : intsOf ds with
      | none => rw [z] at q; cases q
      | some l => rfl
    | _ => cases q
theorem cut_tup {a : Addr} {xs : List V} (h : SqT K F a xs) : SqT K (cutI F) a xs := by
  rcases h with (h | ⟨o, h⟩) | h
  · exact .inl (.inl (cut_keep h nofun))
  · exact .inl (.inr ⟨o, cut_keep h nofun⟩)
  · exact .inr h
mutual
theorem cut_dr : ∀ {v : V} {d : D}, DR K sa F v d → d.noI = true → DR K sa (cutI F) v d
  | _, _, .non, _ => .non
  | _, _, .bl b, _ => .bl b
  | _, _, .int i, _ => .int i
  | _, _, .str x, _ => .str x
  | _, _, .src, _ => .src
  | _, _, .tup h r, q => .tup (cut_tup h) (cut_drs r (by simpa [D.noI] using q))
  | _, _, .lst h r, q => by
    rw [D.noI, Bool.and_eq_true, Bool.not_eq_true'] at q
    refine .lst (cut_keep h fun ys e => ?_) (cut_drs r q.2)
    cases e
    refine Bool.eq_false_iff.mpr fun z => ?_
    rw [nums_ints r z] at q
    cases q.1
  | _, _, .row h c d r, q => by simp [D.noI] at q
  | _, _, .kt _ _ h, q => by simp [D.noI] at q
  | _, _, .map h _, q => by simp [D.noI] at q
  | _, _, .dic h _, q => by simp [D.noI] at q
  | _, _, .ts h _ _, q => by simp [D.noI] at q
  | _, _, .dct0 h, q => by simp [D.noI] at q
  | _, _, .exc h r, q => by simp [D.noI] at q
  | _, _, .exf _ _ _ _ _, q => by simp [D.noI] at q
theorem cut_drs : ∀ {vs : List V} {ds : List D}, DRs K sa F vs ds → D.noIs ds = true → DRs K sa (cutI F) vs ds
  | _, _, .nil, _ => .nil
  | _, _, .cons h r, q => by
    rw [D.noIs, Bool.and_eq_true] at q
    exact .cons (cut_dr h q.1) (cut_drs r q.2)
end
/-- both, but for one place -/
def joinI (F F2 : Hp) (a : Addr) : Hp := fun b => if b = a then none else match F2 b with
  | some o => some o
  | none => F b
theorem drs_nums {F2 : Hp} : ∀ {xs : List V} {ds : List D}, DRs K sa F xs ds → (intsOf ds).isSome = true → DRs K sa F2 xs ds
  | _, _, .nil, _ => .nil
  | v :: xs, d :: ds, .cons h r, q => by
    cases d with
    | int i =>
      cases h
      rw [intsOf] at q
      refine .cons (.int i) (drs_nums r ?_)
      cases z : intsOf ds with
      | none => rw [z] at q; cases q
      | some l => rfl
    | _ => cases q
theorem joined {H F2 H2 : Hp} (e : Ex F H) (f1 : F sa.s1 = none) (f2 : F sa.s2 = none) (g : Gr sa (cutI F) H F2 H2) {a : Addr} (na : F a = none) : Gr sa F H (joinI F F2 a) H2 := by
  have agree : ∀ {b : Addr} {o o2 : HO}, F b = some o → F2 b = some o2 → o2 = o := fun {b o o2} h1 h2 => by
    rcases g.nw b o2 h2 with q | q
    · have := cut_sub b _ q
      rw [h1] at this
      exact (Option.some.inj this).symm
    · rw [e b o h1] at q
      cases q
  refine ⟨fun b o h => ?_, fun b o h => ?_, g.hh, fun b o h => ?_, g.s1, g.s2⟩
  · unfold joinI
    rw [if_neg (fun z => by rw [z, na] at h; cases h)]
    cases q : F2 b with
    | none => exact h
    | some o2 => rw [agree h q]
  · unfold joinI at h
    split at h
    · cases h
    · cases q : F2 b with
      | none =>
        rw [q] at h
        exact g.hh b o (e b o h) (fun z => by rw [z, f1] at h; cases h) (fun z => by rw [z, f2] at h; cases h)
      | some o2 =>
        rw [q] at h
        cases h
        exact g.fh b _ q
  · unfold joinI at h
    split at h
    · cases h
    · cases q : F2 b with
      | none => rw [q] at h; exact .inl h
      | some o2 =>
        rw [q] at h
        cases h
        rcases g.nw b _ q with z | z
        · exact .inl (cut_sub b _ z)
        · exact .inr z
end
section
variable {n : Nat} {G : Gd}
theorem join_src {sa : Sa} {F F2 H : Hp} {a : Addr} {S S2 : Sr} {H0 : Hp} (s : SrcR sa F H0 S) (s2 : SrcR sa F2 H S2) : SrcR sa (joinI F F2 a) H S2 := by
  have k : ∀ b, F b = none → F2 b = none → joinI F F2 a b = none := fun b h1 h2 => by
    unfold joinI
    rw [h2, h1]
    split <;> rfl
  exact ⟨k _ s.f1 s2.f1, k _ s.f2 s2.f2, s2.ne, s2.h1, s2.h2⟩
theorem se_callN {f : Str} {es : List Xp} (hs : SA n G es) : SE n G (.callN f es) := by
  intro X W osc x C h σ H F env S Q sr e s p
  rw [chkE] at h
  cases hc : callN x with
  | none => rw [hc] at h; cases h
  | some t =>
  obtain ⟨nm, y, ys⟩ := t
  rw [hc] at h
  dsimp only at h
  obtain ⟨np1, pos1, rfl⟩ := callN_eq hc
  simp only [Bool.and_eq_true] at h
  obtain ⟨⟨⟨h1, h2⟩, h3⟩, h4⟩ := h
  have h1 := of_decide_eq_true h1
  subst h1
  obtain ⟨g1, g2⟩ := gl_of (X := X) h2
  obtain ⟨fa, fd, ps, hps, hm, hk, hb, FO⟩ := C.fns f es.length (of_decide_eq_true h3)
  have hst := chkEs_star h4
  rw [evE] at p
  refine .of (pe_callS FO C.room g1 hm hk hb (fun σ => passAt C.takes σ) (wa (es := y :: ys)) g2 (star_cons (hst y List.mem_cons_self) _ _) (star_plain _ _ fun z hz => hst z (List.mem_cons_of_mem _ hz))) ?_
  refine hs X W osc _ C h4 σ H F env S _ sr e s ?_
  cases hE : evEs G.T G.cl es env S with
  | bad => rw [hE] at p; exact p
  | exc x S1 => rw [hE] at p; exact p
  | ok ds S1 =>
    rw [hE] at p
    have p0 : Post X.K G (fun c d H' => W c d σ H') F H (if D.noIs ds = true then newI (G.cl f ds S1) else .bad) Q := p
    split at p0
    · rename_i hn
      intro vs F1 H1 k1 s1 r1
      have e1 := k1.fh
      refine ⟨by rw [r1.length]; exact se_tup.evEs_len hE, cutI F1, ds, S1, cut_sub.trans e1, ⟨?_, ?_, s1.ne, s1.h1, s1.h2⟩, cut_drs r1 hn, ?_⟩
      · cases z : cutI F1 G.sa.s1 with
        | none => rfl
        | some o => have := cut_sub _ _ z; rw [s1.f1] at this; cases this
      · cases z : cutI F1 G.sa.s2 with
        | none => rfl
        | some o => have := cut_sub _ _ z; rw [s1.f2] at this; cases this
      cases hr : G.cl f ds S1 with
      | bad => rw [hr] at p0; exact p0.elim
      | exc x S2 =>
        rw [hr] at p0
        intro c dx F2 H2 k2 s2 w2
        have nx : ∃ a, F1 a = none ∧ ∀ o, F2 a ≠ some o := by
          refine ⟨G.sa.s1, s1.f1, fun o z => by rw [s2.f1] at z; cases z⟩
        obtain ⟨a, na, _⟩ := nx
        exact p0 c dx (joinI F1 F2 a) H2 (k1.trans (joined e1 s1.f1 s1.f2 k2 na)) (join_src s1 s2) w2
      | ok m d S2 =>
        rw [hr] at p0
        intro v F2 H2 k2 s2 w2
        cases d with
        | non =>
          have hv : v = .non := w2.non
          subst hv
          exact p0 .non (joinI F1 F2 G.sa.s1) H2 (k1.trans (joined e1 s1.f1 s1.f2 k2 s1.f1)) (join_src s1 s2) DR.non
        | lst rs =>
          have p1 : Post X.K G (fun c d H' => W c d σ H') F H (if m ≠ .br ∧ (intsOf rs).isSome = true then .ok .fr (.lst rs) S2 else .bad) Q := p0
          split at p1
          · rename_i hh
            obtain ⟨hm2, hi⟩ := hh
            have fin : ∀ a xs, v = .ref a → H2 a = some (.lst xs) → H1 a = none → a ≠ G.sa.s1 → a ≠ G.sa.s2 → DRs X.K G.sa F2 xs rs → Q v H2 := fun a xs ev ha hn1 n1 n2 r => by
              have fa1 : F1 a = none := fresh_back e1 hn1
              refine p1 v (joinI F1 F2 a) H2 (k1.trans (joined e1 s1.f1 s1.f2 k2 fa1)) (join_src s1 s2) ⟨a, ev, k1.back hn1, ?_, n1, n2, xs, ha, drs_nums r hi⟩
              unfold joinI
              rw [if_pos rfl]
            cases m with
            | br => exact absurd rfl hm2
            | fr =>
              obtain ⟨a, ev, a1, a2, n1, n2, xs, ha, r⟩ := w2
              exact fin a xs ev ha a1 n1 n2 r
            | fz =>
              cases w2 with
              | lst ha r =>
                rename_i a xs
                have h2 := k2.fh a _ ha
                have n1 : a ≠ G.sa.s1 := fun z => by rw [z, s2.f1] at ha; cases ha
                have n2 : a ≠ G.sa.s2 := fun z => by rw [z, s2.f2] at ha; cases ha
                rcases k2.nw a _ ha with z | z
                · have := cut_lst z
                  rw [ints_nums r hi] at this
                  cases this
                · exact fin a xs rfl h2 z n1 n2 r
          · exact p1.elim
        | _ => exact p0.elim
    · exact p0.elim
end
end Mp
set_option Elab.async false
set_option maxRecDepth 100000
set_option maxHeartbeats 4000000
/-! Mp15: the theorem of expressions. -/
namespace Mp
open PySem L2 Evl
theorem pt_iteX {X : Cx} {c a b : Expr} {pos : Pos} {tc ta tb : TT} (hc : PT X c tc) (ha : PT X a ta) (hb : PT X b tb) : PT X (.IfExp c a b pos) (fun σ H Q => tc σ H fun k H1 => if k = true then ta σ H1 Q else tb σ H1 Q) := by
  refine ⟨fun pins s σ H Q I h => ?_⟩
  unfold PySem.isTrue
  refine wpAny_bind (thn (hc.run pins s σ H _ I h) fun k s1 ⟨H1, I1, q⟩ => ?_)
  cases k with
  | true => exact ha.run pins s1 σ H1 Q I1 q
  | false => exact hb.run pins s1 σ H1 Q I1 q
def plainT : Expr → Bool
  | .BoolOp _ _ _ => false
  | .UnaryOp .Not _ _ => false
  | .IfExp _ _ _ _ => false
  | .Compare _ _ _ _ => false
  | _ => true
theorem plain_eq {x : Expr} (h : plainT x = true) (env : PySem.Env) (whole : Sem Value) : PySem.isTrue x env whole = (do let v ← whole; standAt (Expr.pos x); holding [v] (truthy v)) := by
  cases x <;> first
    | rfl
    | cases h
    | (rename_i op _ _; cases op <;> first | rfl | cases h)
def tstP : Xp → Bool
  | .not _ => false | .cmp _ _ _ => false | .cmp2 _ _ _ _ _ => false | .bool _ _ => false | .ite _ _ _ => false
  | _ => true
section
variable {n : Nat} {G : Gd}
theorem plain_chk {np : Str → Option Nat} {N : List Str} {e : Xp} {sc : Scope} {x : Expr} (he : tstP e = true) (h : chkE np N e sc x = true) : plainT x = true := by
  cases x <;> try rfl
  · cases e <;> first | cases he | simp [chkE, call1, revOf, dic0Of, dic1Of, meth2Of, call0, callN, attrOf] at h
    all_goals (rename_i l; cases l <;> simp [chkE, call1, revOf, dic0Of, dic1Of, meth2Of, call0, callN, attrOf] at h)
  · rename_i op _ _
    cases op <;> try rfl
    cases e <;> first | cases he | simp [chkE, call1, revOf, dic0Of, dic1Of, meth2Of, call0, callN, attrOf] at h
    all_goals (rename_i l; cases l <;> simp [chkE, call1, revOf, dic0Of, dic1Of, meth2Of, call0, callN, attrOf] at h)
  · cases e <;> first | cases he | simp [chkE, call1, revOf, dic0Of, dic1Of, meth2Of, call0, callN, attrOf] at h
    all_goals (rename_i l; cases l <;> simp [chkE, call1, revOf, dic0Of, dic1Of, meth2Of, call0, callN, attrOf] at h)
  · cases e <;> first | cases he | simp [chkE, call1, revOf, dic0Of, dic1Of, meth2Of, call0, callN, attrOf] at h
    all_goals (rename_i l; cases l <;> simp [chkE, call1, revOf, dic0Of, dic1Of, meth2Of, call0, callN, attrOf] at h)
theorem st_val {e : Xp} (hp : tstP e = true) (he : SE n G e) : ST n G e := by
  intro X W osc x C h σ H F env S Q sr e0 s p
  exact .of (pt_val we (plain_eq (plain_chk hp h) _)) (he X W osc x C h σ H F env S _ sr e0 s p)
theorem st_ite {c a b : Xp} (hc : ST n G c) (ha : ST n G a) (hb : ST n G b) : ST n G (.ite c a b) := by
  intro X W osc x C h σ H F env S Q sr e s p
  cases x <;> (try simp only [chkE, Bool.false_eq_true] at h)
  simp only [Bool.and_eq_true] at h
  obtain ⟨⟨h1, h2⟩, h3⟩ := h
  rw [evE] at p
  refine .of (pt_iteX wt wt wt) (hc X W osc _ C h1 σ H F env S _ sr e s (p.bind.mono ?_ fun _ _ _ z => z))
  rintro v1 H1 ⟨m1, d1, S1, F1, g1, s1, w1, p1⟩
  cases d1 with
  | bl k =>
    obtain ⟨rfl, _⟩ := w1.bl
    refine ⟨k, rfl, ?_⟩
    cases k with
    | true =>
      rw [if_pos rfl]
      exact ha X W osc _ C h2 σ H1 F1 env S1 _ (sr.mono g1) g1.fh s1 p1
    | false =>
      rw [if_neg (by decide)]
      exact hb X W osc _ C h3 σ H1 F1 env S1 _ (sr.mono g1) g1.fh s1 p1
  | _ => exact p1.elim
theorem both {e : Xp} (hp : tstP e = true) (he : SE n G e) : SE n G e ∧ ST n G e := ⟨he, st_val hp he⟩
/-- not carried -/
theorem se_bad {e : Xp} (h : ∀ N sc x, chkE G.np N e sc x = false) : SE n G e ∧ ST n G e :=
  ⟨fun X W osc x C hx => by
      rw [h] at hx
      exact absurd hx (by decide), fun X W osc x C hx => by
      rw [h] at hx
      exact absurd hx (by decide)⟩
mutual
theorem allE : ∀ e : Xp, SE n G e ∧ ST n G e
  | .lit l => both rfl se_lit
  | .var i => both rfl se_var
  | .con c => both rfl se_con
  | .bin o a b => both rfl (se_bin (allE a).1 (allE b).1)
  | .neg a => both rfl (se_neg (allE a).1)
  | .not a => ⟨se_not (allE a).1, st_not (allE a).2⟩
  | .cmp o a b => ⟨se_cmp (allE a).1 (allE b).1, st_cmp (allE a).1 (allE b).1⟩
  | .cmp2 o o' a b c => ⟨se_cmp2 (allE a).1 (allE b).1 (allE c).1, st_cmp2 (allE a).1 (allE b).1 (allE c).1⟩
  | .bool k es => ⟨se_bool (allK es k), st_bool (allK es k)⟩
  | .ite c a b => ⟨se_ite (allE c).2 (allE a).1 (allE b).1, st_ite (allE c).2 (allE a).2 (allE b).2⟩
  | .tup es => both rfl (se_tup (allA es))
  | .lst es => both rfl (se_lst (allA es))
  | .dct0 => both rfl se_dct0
  | .ix a i => both rfl (se_ix (allE a).1 (allE i).1)
  | .sl a lo hi => both rfl (se_sl (allE a).1 (allO lo) (allO hi))
  | .call f es => both rfl (se_call (allA es))
  | .blt f es => both rfl (se_blt (allB es))
  | .isi a c => both rfl (se_isi (allE a).1)
  | .isx a c => both rfl (se_isx (allE a).1)
  | .meth m o es => both rfl (se_meth (allE o).1 (allA es))
  | .sset a => both rfl (se_sset (allE a).1)
  | .rev a => both rfl (se_rev (allE a).1)
  | .lrg a => both rfl (se_lrg (allE a).1)
  | .mkrow a => both rfl (se_mkrow (allE a).1)
  | .mkey a b => both rfl (se_mkey (allE a).1 (allE b).1)
  | .mkmap a => both rfl (se_mkmap (allE a).1)
  | .mget o a b d => both rfl (se_mget (allE o).1 (allE a).1 (allE b).1 (allE d).1)
  | .smap kvs e => both rfl (se_smap (allE e).1)
  | .dic0 => both rfl se_dic0
  | .dic1 k v => both rfl (se_dic1 (allE k).1 (allE v).1)
  | .dget o k d => both rfl (se_dget (allE o).1 (allE k).1 (allE d).1)
  | .mset a => both rfl (se_mset (allE a).1)
  | .mkx0 c => both rfl se_mkx0
  | .mkx1 c a => both rfl (se_mkx1 (allE a).1)
  | .mki c es => both rfl (se_mki (allA es))
  | .fld a f => both rfl (se_fld (allE a).1)
  | .callN f es => both rfl (se_callN (allA es))
  | .varT i => both rfl se_varT
  | .comp own tg it ifs e => both rfl (se_comp (allI it) (allT ifs) (allE e).1)
  | .comp2 own vs tg it ifs tg' it' ifs' e => both rfl (se_comp2 (allI it) (allT ifs) (allI it') (allT ifs') (allE e).1)
theorem allA : ∀ es : List Xp, SA n G es
  | [] => sa_nil
  | e :: es => sa_cons (allE e).1 (allA es)
theorem allB : ∀ es : List Xp, SB n G es
  | [] => sb_nil
  | e :: es => sb_cons (allE e).1 (allB es)
theorem allK : ∀ (es : List Xp) (k : Bool), SK n G k es
  | [], k => sk_nil
  | [e], k => sk_one (allE e).1 (allE e).2
  | e :: e' :: es, k => sk_cons (allE e).1 (allE e).2 (allK (e' :: es) k)
theorem allO : ∀ o : Option Xp, SO n G o
  | none => so_none
  | some e => so_some (allE e).1
theorem allT : ∀ es : List Xp, (∀ f ∈ es, ST n G f)
  | [] => fun f h => nomatch h
  | e :: es => fun f h => (List.mem_cons.mp h).elim (fun q => q ▸ (allE e).2) (fun q => allT es f q)
theorem allI : ∀ it : It, SI n G it
  | .ov e => si_ov (allE e).1
  | .rg a => si_rg (allE a).1
  | .rg2 a b => si_rg2 (allE a).1 (allE b).1
  | .enum a => si_enum (allE a).1
  | .zips a b => si_zips (allE a).1 (allE b).1
  | .items a => si_items (allE a).1
end
end
end Mp
set_option Elab.async false
set_option maxRecDepth 100000
set_option maxHeartbeats 4000000
/-! Mp16: statements: written form, evaluation, looks. -/
namespace Mp
open PySem L2 Evl

inductive St
  | asg (i : Nat) (e : Xp)
  | asgT (tg : Tg) (e : Xp)
  | asgN (i : Nat) (e : Xp) (j : Nat)
  | asgB (i : Nat) (e : Xp) (j l : Nat) (b : Bool)
  | asg3 (i j l : Nat) (es : List Xp)
  | app (i : Nat) (e : Xp)
  | appT (i : Nat) (e : Xp)
  | nil2 (i j : Nat)
  | put (i : Nat) (k e : Xp)
  | exp (e : Xp)
  | ret (e : Xp) | retN
  | ite (c : Xp) (a b : List St)
  | for_ (tg : Tg) (it : It) (b : List St)
  | whl (c : Xp) (b : List St)
  | raise (c : Str)
  | tryAs (b : List St) (c : Str) (i j : Nat)
  | tryRN (b : List St) (c : Str)
  | pass | brk | cnt

/-! where a variable's value is kept on -/
mutual
def esc : Xp → List Nat
  | .var i => [i]
  | .varT i => [i]
  | .ite c a b => escR c ++ esc a ++ esc b
  | .tup es => escs es
  | .lst es => escs es
  | .call _ es => escs es
  | .bin _ a b => escR a ++ escR b
  | .neg a => escR a
  | .not a => escR a
  | .cmp _ a b => escR a ++ escR b
  | .cmp2 _ _ a b c => escR a ++ escR b ++ escR c
  | .bool _ es => escRs es
  | .ix a i => escR a ++ escR i
  | .sl a lo hi => escR a ++ escO lo ++ escO hi
  | .blt _ es => escRs es
  | .isi a _ => escR a
  | .isx a _ => escR a
  | .meth _ o es => escR o ++ escs es
  | .sset a => escR a
  | .rev a => escR a
  | .lrg a => escR a
  | .mkrow a => escR a
  | .mkey a b => escR a ++ escR b
  | .mkmap a => escR a
  | .mget o a b d => escR o ++ escR a ++ escR b ++ escR d
  | .smap _ e => escR e
  | .dic1 k v => esc k ++ esc v
  | .dget o k d => escR o ++ escR k ++ esc d
  | .mset a => escR a
  | .mkx1 _ a => escR a
  | .mki _ es => escs es
  | .fld a _ => escR a
  | .callN _ es => escs es
  | .comp _ _ it ifs e => escI it ++ escRs ifs ++ esc e
  | .comp2 _ _ _ it ifs _ it' ifs' e => escI it ++ escRs ifs ++ escI it' ++ escRs ifs' ++ esc e
  | _ => []
def escR : Xp → List Nat
  | .var _ => []
  | .ite c a b => escR c ++ escR a ++ escR b
  | .tup es => escs es
  | .lst es => escs es
  | .call _ es => escs es
  | .bin _ a b => escR a ++ escR b
  | .neg a => escR a
  | .not a => escR a
  | .cmp _ a b => escR a ++ escR b
  | .cmp2 _ _ a b c => escR a ++ escR b ++ escR c
  | .bool _ es => escRs es
  | .ix a i => escR a ++ escR i
  | .sl a lo hi => escR a ++ escO lo ++ escO hi
  | .blt _ es => escRs es
  | .isi a _ => escR a
  | .isx a _ => escR a
  | .meth _ o es => escR o ++ escs es
  | .sset a => escR a
  | .rev a => escR a
  | .lrg a => escR a
  | .mkrow a => escR a
  | .mkey a b => escR a ++ escR b
  | .mkmap a => escR a
  | .mget o a b d => escR o ++ escR a ++ escR b ++ escR d
  | .smap _ e => escR e
  | .dic1 k v => esc k ++ esc v
  | .dget o k d => escR o ++ escR k ++ esc d
  | .mset a => escR a
  | .mkx1 _ a => escR a
  | .mki _ es => escs es
  | .fld a _ => escR a
  | .callN _ es => escs es
  | .comp _ _ it ifs e => escI it ++ escRs ifs ++ esc e
  | .comp2 _ _ _ it ifs _ it' ifs' e => escI it ++ escRs ifs ++ escI it' ++ escRs ifs' ++ esc e
  | _ => []
def escs : List Xp → List Nat
  | [] => []
  | e :: es => esc e ++ escs es
def escRs : List Xp → List Nat
  | [] => []
  | e :: es => escR e ++ escRs es
def escO : Option Xp → List Nat
  | none => []
  | some e => escR e
def escI : It → List Nat
  | .ov e => escR e
  | .rg a => escR a
  | .rg2 a b => escR a ++ escR b
  | .enum a => escR a
  | .zips a b => escR a ++ escR b
  | .items a => esc a
end
/-- a loop's own list must not be owned -/
def escF : It → List Nat
  | .ov e => esc e
  | .enum e => esc e
  | it => escI it
def freezeE (env : Env) : List Nat → Env
  | [] => env
  | i :: is => match (freezeE env is)[i]? with
    | some (some (true, d)) => (freezeE env is).set i (some (false, d))
    | _ => freezeE env is

inductive Ro
  | nx (env : Env) (S : Sr)
  | rt (m : Md) (d : D) (S : Sr)
  | bk (env : Env) (S : Sr)
  | ct (env : Env) (S : Sr)
  | ex (x : D) (env : Env) (S : Sr)
  | bad
/-- a kept value -/
def R.keep (r : R) (env : Env) (k : Md → D → Sr → Ro) : Ro :=
  match r with
  | .ok m d S => if m = .br then .bad else k m d S
  | .exc x S => .ex x env S
  | .bad => .bad
def Ro.seq (r : Ro) (k : Env → Sr → Ro) : Ro :=
  match r with
  | .nx env S => k env S
  | r => r
def forL (f : D → Env → Sr → Ro) : List D → Env → Sr → Ro
  | [], env, S => .nx env S
  | d :: r, env, S => match f d env S with
    | .nx env S => forL f r env S
    | .ct env S => forL f r env S
    | .bk env S => .nx env S
    | o => o
def whlL (c : Env → Sr → R) (b : Env → Sr → Ro) : Nat → Env → Sr → Ro
  | 0, _, _ => .bad
  | k + 1, env, S => match c env S with
    | .ok _ (.bl true) S => match b env S with
      | .nx env S => whlL c b k env S
      | .ct env S => whlL c b k env S
      | .bk env S => .nx env S
      | o => o
    | .ok _ (.bl false) S => .nx env S
    | .exc x S => .ex x env S
    | _ => .bad
section
variable (T : Tab) (call : Str → List D → Sr → R)
mutual
def exS : St → Env → Sr → Ro
  | .asg i e, env, S => let env := freezeE env (esc e); (evE T call e env S).keep env fun m d S => .nx (env.set i (some (decide (m = .fr), d))) S
  | .asgT tg e, env, S => let env := freezeE env (esc e); (evE T call e env S).keep env fun m d S => match tgD tg d env with
    | some env => .nx env S
    | none => .bad
  | .asgN i e j, env, S => let env := freezeE env (esc e); (evE T call e env S).keep env fun _ d S => .nx ((env.set i (some (false, d))).set j (some (true, .lst []))) S
  | .asg3 i j l es, env, S => match evEs T call es (freezeE env (escs es)) S with
    | .ok [x, y, z] S => .nx ((((freezeE env (escs es)).set i (some (false, x))).set j (some (false, y))).set l (some (false, z))) S
    | .exc x S => .ex x (freezeE env (escs es)) S
    | _ => .bad
  | .asgB i e j l b, env, S => let env := freezeE env (esc e); (evE T call e env S).keep env fun _ d S => .nx (((env.set i (some (false, d))).set j (some (true, .lst []))).set l (some (false, .bl b))) S
  | .app i e, env, S => let env := freezeE env (esc e); match env[i]? with
    | some (some (true, .lst xs)) => (evE T call e env S).keep env fun _ d S => if xs.length < szMax then .nx (env.set i (some (true, .lst (xs ++ [d])))) S else .bad
    | _ => .bad
  | .appT i e, env, S => match env[i]? with
    | some (some (true, .lst xs)) => match evE T call e (freezeE env (esc e)) S with
      | .ok m d S => if m ≠ .br ∧ d.hard = true ∧ xs.length < szMax then .nx (env.set i (some (true, .lst (xs ++ [d])))) S else .bad
      | _ => .bad
    | _ => .bad
  | .nil2 i j, env, S => .nx ((env.set i (some (true, .lst []))).set j (some (true, .lst []))) S
  | .put i k e, env, S => let env := freezeE env (esc e ++ escR k); (evE T call e env S).keep env fun _ d S => match env[i]? with
    | some (some (true, .dic ds)) => (evE T call k env S).keep env fun _ kd S => match kd.nk with
      | some nk => if ds.length < szMax then .nx (env.set i (some (true, .dic (putD ds kd nk d)))) S else .bad
      | none => .bad
    | _ => .bad
  | .exp e, env, S => let env := freezeE env (esc e); (evE T call e env S).keep env fun _ _ S => .nx env S
  | .ret e, env, S => match e with
    | .var i => match env[i]? with
      | some (some (true, d)) => .rt .fr d S
      | some (some (false, d)) => .rt .fz d S
      | _ => .bad
    | e => let env := freezeE env (esc e); (evE T call e env S).keep env fun m d S => .rt m d S
  | .retN, _, S => .rt .fz .non S
  | .ite c a b, env, S => let env := freezeE env (escR c); match evE T call c env S with
    | .ok _ (.bl true) S => exL a env S
    | .ok _ (.bl false) S => exL b env S
    | .exc x S => .ex x env S
    | _ => .bad
  | .for_ tg it b, env, S => let env := freezeE env (escF it); match evI T call it env S with
    | .ok false ds S => forL (fun d env S => match tgD tg d env with
      | some env => exL b env S
      | none => .bad) ds env S
    | .exc x S => .ex x env S
    | _ => .bad
  | .whl c b, env, S => whlL (fun env S => evE T call c env S) (fun env S => exL b env S) T.wh env S
  | .raise c, env, S => .ex (.exc c []) env S
  | .tryAs b c i j, env, S => if T.isc c = true then match exL b env S with
    | .ex (.exc n fs) env S => if T.sub n c = true then .nx ((env.set j (some (false, .exc n fs))).set i none) S else .ex (.exc n fs) env S
    | r => r else .bad
  | .tryRN b c, env, S => if T.isc c = true then match exL b env S with
    | .ex (.exc n fs) env S => if T.sub n c = true then .rt .fz .non S else .ex (.exc n fs) env S
    | r => r else .bad
  | .pass, env, S => .nx env S
  | .brk, env, S => .bk env S
  | .cnt, env, S => .ct env S
def exL : List St → Env → Sr → Ro
  | [], env, S => .nx env S
  | s :: r, env, S => (exS s env S).seq fun env S => exL r env S
end
end

/-- a def -/
structure Df where
  ps : Nat
  sl : Nat
  body : List St
def startE (nn : Nat) (ds : List D) : Env := ds.map (fun d => some (false, d)) ++ List.replicate (nn - ds.length) none
def endR : Ro → R
  | .nx _ S => .ok .fz .non S
  | .rt m d S => if m = .br then .bad else .ok m d S
  | .ex x _ S => .exc x S
  | _ => .bad

/-! ### looks -/
/-- the value is kept within the comprehension's own frame -/
def swapB (sc : Scope) (value : Expr) (t : Str) (tp : Pos) : Bool :=
  match value with
  | .ListComp _ _ s vp => decide (sc.names.lookup t = some .local) && (tp.line == vp.line) && !(s.names.any fun (n, k) => n == t && (k == .local || k == .cell))
  | _ => false
def noComps : Expr → Bool
  | .ListComp _ _ _ _ => false
  | .SetComp _ _ _ _ => false
  | .DictComp _ _ _ _ _ => false
  | _ => true
def noSD : Expr → Bool
  | .SetComp _ _ _ _ => false
  | .DictComp _ _ _ _ _ => false
  | _ => true
def noTup : Expr → Bool
  | .Tuple _ _ _ => false
  | _ => true
theorem swaps_eq {X : Cx} (hk : X.env.scope.kind = .function) {value : Expr} {t : Str} {tp : Pos} {line : Nat} (h : noSD value = true) : swapsWith value (some (.Name t tp)) line X.env = pure (swapB X.env.scope value t tp) := by
  have hb : X.env.blockKind = .function := by unfold Env.blockKind; rw [hk]; rfl
  have hbb : (X.env.blockKind == .function) = true := by rw [hb]; rfl
  cases value <;> first
    | rfl
    | cases h
    | skip
  unfold swapsWith swapB
  simp only [hb, Expr.pos]
  show pure _ = pure _
  congr 1
  show ((ScopeKind.function == ScopeKind.function) && (X.env.scope.names.lookup t == some NameKind.local) && _ && _) = _
  have e : (X.env.scope.names.lookup t == some NameKind.local) = decide (X.env.scope.names.lookup t = some NameKind.local) := by
    cases hq : X.env.scope.names.lookup t with
    | none => rfl
    | some k => cases k <;> rfl
  rw [e]
  rfl
end Mp
set_option Elab.async false
set_option maxRecDepth 100000
set_option maxHeartbeats 4000000
/-! Mp17: statements: judgements, state. -/
namespace Mp
open PySem L2 Evl

def WSt (X : Cx) (x : Stmt) : TS := fun D σ H => ∀ pins s, Inv X pins σ H s → wpAny (model X.prog X.w) X.A (exec x X.env) (SP X pins D) X.xe s
def WSs (X : Cx) (x : List Stmt) : TS := fun D σ H => ∀ pins s, Inv X pins σ H s → wpAny (model X.prog X.w) X.A (execs x X.env) (SP X pins D) X.xe s
section
variable {X : Cx} {x : Stmt} {xs : List Stmt}
theorem wst : PS X x (WSt X x) := ⟨fun pins s _ _ _ I h => h pins s I⟩
theorem wss : PSs X xs (WSs X xs) := ⟨fun pins s _ _ _ I h => h pins s I⟩
theorem WSt.of {t : TS} {D : Ends} {σ : L2.St} {H : Hp} (p : PS X x t) (h : t D σ H) : WSt X x D σ H := fun pins s I => p.run pins s σ H D I h
theorem WSs.of {t : TS} {D : Ends} {σ : L2.St} {H : Hp} (p : PSs X xs t) (h : t D σ H) : WSs X xs D σ H := fun pins s I => p.run pins s σ H D I h
end

/-- what may be owned -/
def OwnO (o : HO) : Prop := (∃ xs, o = .lst xs) ∨ o = .dK [] ∨ ∃ φ, o = .ext φ
/-- the state within a body: Fe, He at its entry -/
structure Stt (K : PySem.W.Frag) (sa : Sa) (Fe He F H : Hp) (S : Sr) (env : Env) (σ : L2.St) : Prop where
  gr : Gr sa Fe He F H
  src : SrcR sa F H S
  sr : SR K sa F H env σ
  own : ∀ (i : Nat) (d : D), env[i]? = some (some (true, d)) → ∀ p : Addr, σ[i]? = some (some (V.ref p)) → He p = none
  apart : ∀ (i j : Nat) (d d' : D) (p : Addr), i ≠ j → env[i]? = some (some (true, d)) → env[j]? = some (some (true, d')) → σ[i]? = some (some (V.ref p)) → σ[j]? ≠ some (some (V.ref p))

structure CnS (X : Cx) (n : Nat) (G : Gd) (W : WX) : Prop where
  cn : Cx.calm X = true ∧ Cn X n G (fnOk none) W
  st : X.stack = X.env :: X.outer
  fr : X.env.frame = some X.env.locals
  ex : X.ex = []
  ps : PassesOwn (model X.prog X.w) X.A X.env X.xe

/-- what is wanted behind a statement -/
def PostS (K : PySem.W.Frag) (G : Gd) (Fe He : Hp) (r : Ro) (D : Ends) (W : WX) : Prop :=
  match r with
  | .nx env S => ∀ F H σ, Stt K G.sa Fe He F H S env σ → D.nx σ H
  | .bk env S => ∀ F H σ, Stt K G.sa Fe He F H S env σ → D.bk σ H
  | .ct env S => ∀ F H σ, Stt K G.sa Fe He F H S env σ → D.ct σ H
  | .rt m d S => m ≠ .br ∧ ∀ v F H, Gr G.sa Fe He F H → SrcR G.sa F H S → VR K G.sa m He F H v d → D.rt v H
  | .ex x env S => ∀ F H σ c dx, Stt K G.sa Fe He F H S env σ → XR G.cls x c dx H → W c dx σ H
  | .bad => False

section
variable {K : PySem.W.Frag} {sa : Sa} {Fe He F H F' H' : Hp} {S S' : Sr} {env : Env} {σ : L2.St}
theorem Stt.ex (t : Stt K sa Fe He F H S env σ) : Evl.Ex F H := t.gr.fh
/-- behind an evaluation -/
theorem Stt.step (t : Stt K sa Fe He F H S env σ) (g : Gr sa F H F' H') (s : SrcR sa F' H' S') : Stt K sa Fe He F' H' S' env σ :=
  ⟨t.gr.trans g, s, t.sr.mono g, t.own, t.apart⟩
/-- an owned list, in full -/
theorem Stt.owned (t : Stt K sa Fe He F H S env σ) {i : Nat} {d : D} (e : env[i]? = some (some (true, d))) : ∃ p, σ[i]? = some (some (V.ref p)) ∧ He p = none ∧ F p = none ∧ p ≠ sa.s1 ∧ p ≠ sa.s2 ∧ OR K sa F H p d := by
  obtain ⟨v, h1, h2⟩ := t.sr.2 i true d e
  obtain ⟨p, rfl, f, n1, n2, o⟩ := (show VR K sa .br H F H v d from h2)
  exact ⟨p, h1, t.own i d e p h1, f, n1, n2, o⟩
theorem Stt.freeze1 (t : Stt K sa Fe He F H S env σ) {i : Nat} {d : D} (e : env[i]? = some (some (true, d))) :
    ∃ F', Stt K sa Fe He F' H S (env.set i (some (false, d))) σ ∧ Evl.Ex F F' ∧ (∀ a o, F' a = some o → F a = some o ∨ OwnO o) := by
  obtain ⟨p, h1, hn, f, n1, n2, o⟩ := t.owned e
  obtain ⟨u, hu⟩ := o.there
  have hi : i < env.length := (List.getElem?_eq_some_iff.mp e).1
  have ex := Ex.new (o := u) f
  have hu2 : OwnO u := by
    cases d with
    | lst ds =>
      obtain ⟨xs, h, r⟩ := o
      rw [hu] at h
      cases h
      exact .inl ⟨_, rfl⟩
    | dct kvs =>
      obtain ⟨rfl, h⟩ := o
      rw [hu] at h
      cases h
      exact .inr (.inl rfl)
    | dic ds =>
      obtain ⟨ob, kvs, h, r⟩ := o
      rw [hu] at h
      cases h
      exact .inr (.inr dicO_ext)
    | _ => exact o.elim
  have dr : DR K sa (upd F p u) (.ref p) d := by
    cases d with
    | lst ds =>
      obtain ⟨xs, h, r⟩ := o
      rw [hu] at h
      cases h
      exact .lst upd_same (r.mono ex)
    | dct kvs =>
      obtain ⟨rfl, h⟩ := o
      rw [hu] at h
      cases h
      exact .dct0 upd_same
    | dic ds =>
      obtain ⟨ob, kvs, h, r⟩ := o
      rw [hu] at h
      cases h
      exact .dic upd_same (r.mono ex)
    | _ => exact o.elim
  refine ⟨upd F p u, ⟨t.gr.freeze hn f hu, t.src.fz n1 n2, ⟨by rw [List.length_set]; exact t.sr.1, fun j m c ej => ?_⟩, fun j c ej => ?_, fun j k c c' q hjk ej ek => ?_⟩, ex, fun a o ha => by
    by_cases hap : a = p
    · rw [hap, upd_same] at ha
      cases ha
      exact .inr hu2
    · rw [upd_ne hap] at ha
      exact .inl ha⟩
  · by_cases hj : i = j
    · subst hj
      rw [List.getElem?_set_self hi] at ej
      cases ej
      exact ⟨_, h1, dr⟩
    · rw [List.getElem?_set_ne hj] at ej
      obtain ⟨v, k1, k2⟩ := t.sr.2 j m c ej
      refine ⟨v, k1, ?_⟩
      cases m with
      | false => exact DR.mono ex k2
      | true =>
        obtain ⟨q, rfl, fq, q1, q2, oq⟩ := (show VR K sa .br H F H v c from k2)
        have hqp : q ≠ p := fun z => t.apart i j d c p hj e ej h1 (by rw [← z]; exact k1)
        exact ⟨q, rfl, by rw [upd_ne hqp]; exact fq, q1, q2, oq.mono ex fun o h => h⟩
  · by_cases hj : i = j
    · subst hj
      rw [List.getElem?_set_self hi] at ej
      cases ej
    · rw [List.getElem?_set_ne hj] at ej
      exact t.own j c ej
  · by_cases hj : i = j
    · subst hj
      rw [List.getElem?_set_self hi] at ej
      cases ej
    · by_cases hk : i = k
      · subst hk
        rw [List.getElem?_set_self hi] at ek
        cases ek
      · rw [List.getElem?_set_ne hj] at ej
        rw [List.getElem?_set_ne hk] at ek
        exact t.apart j k c c' q hjk ej ek
theorem Stt.freezeT (t : Stt K sa Fe He F H S env σ) : ∀ is : List Nat, ∃ F', Stt K sa Fe He F' H S (freezeE env is) σ ∧ Evl.Ex F F' ∧ (∀ a o, F' a = some o → F a = some o ∨ OwnO o)
  | [] => ⟨F, t, Ex.refl _, fun _ _ h => .inl h⟩
  | i :: is => by
    obtain ⟨F1, t1, e1, k1⟩ := Stt.freezeT t is
    rw [freezeE]
    split
    · rename_i d hd
      obtain ⟨F2, t2, e2, k2⟩ := t1.freeze1 hd
      refine ⟨F2, t2, e1.trans e2, fun a o h => ?_⟩
      rcases k2 a o h with h | h
      · exact k1 a o h
      · exact .inr h
    · exact ⟨F1, t1, e1, k1⟩
theorem Stt.freeze (t : Stt K sa Fe He F H S env σ) (is : List Nat) : ∃ F', Stt K sa Fe He F' H S (freezeE env is) σ ∧ Evl.Ex F F' := by
  obtain ⟨F', h1, h2, _⟩ := t.freezeT is
  exact ⟨F', h1, h2⟩
/-- what was frozen for a while, no more -/
def thaw (F F1 F2 : Hp) : Hp := fun a => match F a, F1 a with
  | none, some _ => none
  | _, _ => F2 a
theorem thaw_old {F F1 F2 : Hp} {a : Addr} {o : HO} (h : F a = some o) : thaw F F1 F2 a = F2 a := by
  unfold thaw
  rw [h]
theorem thaw_new {F F1 F2 : Hp} {a : Addr} (h : F1 a = none) : thaw F F1 F2 a = F2 a := by
  unfold thaw
  rw [h]
  cases F a <;> rfl
theorem thaw_some {F F1 F2 : Hp} {a : Addr} {o : HO} (h : thaw F F1 F2 a = some o) : F2 a = some o ∧ (F a ≠ none ∨ F1 a = none) := by
  cases e : F a with
  | some u => exact ⟨by rw [← h, thaw_old e], .inl fun z => nomatch z⟩
  | none =>
    cases e1 : F1 a with
    | none => exact ⟨by rw [← h, thaw_new e1], .inr rfl⟩
    | some u =>
      unfold thaw at h
      rw [e, e1] at h
      cases h
theorem thaw_at {F F1 F2 : Hp} (ex : Evl.Ex F1 F2) (k : ∀ a o, F1 a = some o → F a = some o ∨ OwnO o) {a : Addr} {o : HO} (h : F2 a = some o) (h1 : ∀ xs, o ≠ .lst xs) (h2 : o ≠ .dK []) (h3 : ∀ φ, o ≠ .ext φ) : thaw F F1 F2 a = some o := by
  cases e1 : F1 a with
  | none => rw [thaw_new e1, h]
  | some w =>
    have q0 := ex a w e1
    rw [h] at q0
    have q1 : o = w := Option.some.inj q0
    rcases k a w e1 with q | ⟨xs, q⟩ | q | ⟨φ, q⟩
    · rw [thaw_old q, h]
    · exact absurd (q1.trans q) (h1 xs)
    · exact absurd (q1.trans q) h2
    · exact absurd (q1.trans q) (h3 φ)
theorem thaw_t {F F1 F2 : Hp} (ex : Evl.Ex F1 F2) (k : ∀ a o, F1 a = some o → F a = some o ∨ OwnO o) {a : Addr} {xs : List V} (h : SqT K F2 a xs) : SqT K (thaw F F1 F2) a xs := by
  rcases h with (h | ⟨o, h⟩) | h
  · exact .inl (.inl (thaw_at ex k h (fun _ z => nomatch z) (fun z => nomatch z) fun _ z => nomatch z))
  · exact .inl (.inr ⟨o, thaw_at ex k h (fun _ z => nomatch z) (fun z => nomatch z) fun _ z => nomatch z⟩)
  · exact .inr h
mutual
theorem thaw_dr {F F1 F2 : Hp} (ex : Evl.Ex F1 F2) (k : ∀ a o, F1 a = some o → F a = some o ∨ OwnO o) : ∀ {v : V} {d : D}, DR K sa F2 v d → d.hard = true → DR K sa (thaw F F1 F2) v d
  | _, _, .non, _ => .non
  | _, _, .bl b, _ => .bl b
  | _, _, .int i, _ => .int i
  | _, _, .str x, _ => .str x
  | _, _, .lst h r, q => by simp [D.hard] at q
  | _, _, .tup h r, q => .tup (thaw_t ex k h) (thaw_drs ex k r (by simpa [D.hard] using q))
  | _, _, .row h c d r, q => by simp [D.hard] at q
  | _, _, .kt _ _ h, q => by simp [D.hard] at q
  | _, _, .map h _, q => by simp [D.hard] at q
  | _, _, .dic h _, q => by simp [D.hard] at q
  | _, _, .ts h _ _, q => by simp [D.hard] at q
  | _, _, .dct0 h, q => by simp [D.hard] at q
  | _, _, .src, q => by simp [D.hard] at q
  | _, _, .exc h r, q => by simp [D.hard] at q
  | _, _, .exf _ _ _ _ _, q => by simp [D.hard] at q
theorem thaw_drs {F F1 F2 : Hp} (ex : Evl.Ex F1 F2) (k : ∀ a o, F1 a = some o → F a = some o ∨ OwnO o) : ∀ {vs : List V} {ds : List D}, DRs K sa F2 vs ds → D.hards ds = true → DRs K sa (thaw F F1 F2) vs ds
  | _, _, .nil, _ => .nil
  | _, _, .cons h r, q => by
    rw [D.hards, Bool.and_eq_true] at q
    exact .cons (thaw_dr ex k h q.1) (thaw_drs ex k r q.2)
end
theorem thaw_gr {F F1 F2 : Hp} (e1 : Evl.Ex F F1) (g : Gr sa F1 H F2 H') : Gr sa F H (thaw F F1 F2) H' :=
  ⟨fun a o h => by rw [thaw_old h]; exact g.ff a o (e1 a o h), fun a o h => g.fh a o (thaw_some h).1, g.hh, fun a o h => by
    obtain ⟨q1, q2⟩ := thaw_some h
    rcases g.nw a o q1 with q | q
    · rcases q2 with q2 | q2
      · cases e : F a with
        | none => exact absurd e q2
        | some u =>
          have := e1 a u e
          rw [q] at this
          exact .inl this.symm
      · rw [q] at q2
        cases q2
    · exact .inr q, g.s1, g.s2⟩
theorem thaw_src {F F1 F2 : Hp} (s : SrcR sa F2 H' S') : SrcR sa (thaw F F1 F2) H' S' := by
  have k : ∀ a, F2 a = none → thaw F F1 F2 a = none := fun a h => by
    cases e : thaw F F1 F2 a with
    | none => rfl
    | some o => rw [(thaw_some e).1] at h; cases h
  exact ⟨k _ s.f1, k _ s.f2, s.ne, s.h1, s.h2⟩
/-- a slot takes a frozen value -/
theorem Stt.setF (t : Stt K sa Fe He F H S env σ) {i : Nat} {v : V} {d : D} (r : DR K sa F v d) : Stt K sa Fe He F H S (env.set i (some (false, d))) (σ.set i (some v)) := by
  refine ⟨t.gr, t.src, t.sr.set r, fun j c ej p hp => ?_, fun j k c c' p hjk ej ek hp => ?_⟩
  · by_cases hj : i = j
    · subst hj
      by_cases hi : i < env.length
      · rw [List.getElem?_set_self hi] at ej
        cases ej
      · rw [List.getElem?_eq_none (by rw [List.length_set]; omega)] at ej
        cases ej
    · rw [List.getElem?_set_ne hj] at ej hp
      exact t.own j c ej p hp
  · have no : ∀ {j : Nat} {c : D}, (env.set i (some (false, d)))[j]? = some (some (true, c)) → i ≠ j := fun {j c} ej hj => by
      subst hj
      by_cases hi : i < env.length
      · rw [List.getElem?_set_self hi] at ej
        cases ej
      · rw [List.getElem?_eq_none (by rw [List.length_set]; omega)] at ej
        cases ej
    have hj := no ej
    have hk := no ek
    rw [List.getElem?_set_ne hj] at ej hp
    rw [List.getElem?_set_ne hk] at ek ⊢
    exact t.apart j k c c' p hjk ej ek hp
theorem Stt.unset (t : Stt K sa Fe He F H S env σ) {i : Nat} {o : Option V} : Stt K sa Fe He F H S (env.set i none) (σ.set i o) := by
  have no : ∀ {j : Nat} {c : D}, (env.set i none)[j]? = some (some (true, c)) → i ≠ j := fun {j c} ej hj => by
    subst hj
    by_cases hi : i < env.length
    · rw [List.getElem?_set_self hi] at ej
      cases ej
    · rw [List.getElem?_eq_none (by rw [List.length_set]; omega)] at ej
      cases ej
  refine ⟨t.gr, t.src, t.sr.unset, fun j c ej p hp => ?_, fun j k c c' p hjk ej ek hp => ?_⟩
  · have hj := no ej
    rw [List.getElem?_set_ne hj] at ej hp
    exact t.own j c ej p hp
  · have hj := no ej
    have hk := no ek
    rw [List.getElem?_set_ne hj] at ej hp
    rw [List.getElem?_set_ne hk] at ek ⊢
    exact t.apart j k c c' p hjk ej ek hp
/-- a slot takes a new list that stays its own -/
theorem Stt.setN (t : Stt K sa Fe He F H S env σ) (g : Gr sa F H F' H') (s : SrcR sa F' H' S') {i : Nat} {p : Addr} {d : D} (hn : H p = none) (f : F' p = none) (n1 : p ≠ sa.s1) (n2 : p ≠ sa.s2) (o : OR K sa F' H' p d) :
    Stt K sa Fe He F' H' S' (env.set i (some (true, d))) (σ.set i (some (V.ref p))) := by
  have t' := t.step g s
  have far : ∀ {j : Nat} {c : D}, env[j]? = some (some (true, c)) → σ[j]? ≠ some (some (V.ref p)) := fun {j c} ej hp => by
    obtain ⟨q, k1, _, _, _, _, k2⟩ := t.owned ej
    rw [k1] at hp
    cases hp
    obtain ⟨u, hu⟩ := k2.there
    rw [hn] at hu
    cases hu
  refine ⟨t'.gr, s, ⟨by rw [List.length_set, List.length_set]; exact t'.sr.1, fun j m c ej => ?_⟩, fun j c ej q hq => ?_, fun j k c c' q hjk ej ek hq => ?_⟩
  · by_cases hj : i = j
    · subst hj
      by_cases hi : i < env.length
      · rw [List.getElem?_set_self hi] at ej
        cases ej
        exact ⟨.ref p, List.getElem?_set_self (by rw [← t.sr.1]; exact hi), p, rfl, f, n1, n2, o⟩
      · rw [List.getElem?_eq_none (by rw [List.length_set]; omega)] at ej
        cases ej
    · rw [List.getElem?_set_ne hj] at ej
      obtain ⟨v, k1, k2⟩ := t'.sr.2 j m c ej
      exact ⟨v, by rw [List.getElem?_set_ne hj]; exact k1, k2⟩
  · by_cases hj : i = j
    · subst hj
      by_cases hi : i < σ.length
      · rw [List.getElem?_set_self hi] at hq
        cases hq
        exact t.gr.back hn
      · rw [List.getElem?_eq_none (by rw [List.length_set]; omega)] at hq
        cases hq
    · rw [List.getElem?_set_ne hj] at ej hq
      exact t.own j c ej q hq
  · by_cases hj : i = j
    · subst hj
      by_cases hi : i < σ.length
      · rw [List.getElem?_set_self hi] at hq
        cases hq
        rw [List.getElem?_set_ne hjk] at ek ⊢
        exact far ek
      · rw [List.getElem?_eq_none (by rw [List.length_set]; omega)] at hq
        cases hq
    · rw [List.getElem?_set_ne hj] at ej hq
      by_cases hk : i = k
      · subst hk
        intro hz
        by_cases hi : i < σ.length
        · rw [List.getElem?_set_self hi] at hz
          cases hz
          exact far ej hq
        · rw [List.getElem?_eq_none (by rw [List.length_set]; omega)] at hz
          cases hz
      · rw [List.getElem?_set_ne hk] at ek ⊢
        exact t.apart j k c c' q hjk ej ek hq
/-- an owned thing is changed -/
theorem Stt.wr (t : Stt K sa Fe He F H S env σ) {i : Nat} {p : Addr} {d d' : D} {u : HO} (e : env[i]? = some (some (true, d))) (hp : σ[i]? = some (some (V.ref p))) (r : OR K sa F (upd H p u) p d') :
    Stt K sa Fe He F (upd H p u) S (env.set i (some (true, d'))) σ := by
  obtain ⟨q, h1, hn, f, n1, n2, ob⟩ := t.owned e
  rw [hp] at h1
  cases h1
  have hi : i < env.length := (List.getElem?_eq_some_iff.mp e).1
  refine ⟨t.gr.mut hn f, t.src.mut n1 n2, ⟨by rw [List.length_set]; exact t.sr.1, fun j m c ej => ?_⟩, fun j c ej q hq => ?_, fun j k c c' q hjk ej ek hq => ?_⟩
  · by_cases hj : i = j
    · subst hj
      rw [List.getElem?_set_self hi] at ej
      cases ej
      exact ⟨_, hp, p, rfl, f, n1, n2, r⟩
    · rw [List.getElem?_set_ne hj] at ej
      obtain ⟨w, k1, k2⟩ := t.sr.2 j m c ej
      refine ⟨w, k1, ?_⟩
      cases m with
      | false => exact k2
      | true =>
        obtain ⟨q, rfl, fq, q1, q2, oq⟩ := (show VR K sa .br H F H w c from k2)
        have hqp : q ≠ p := fun z => t.apart i j _ c p hj e ej hp (by rw [← z]; exact k1)
        exact ⟨q, rfl, fq, q1, q2, oq.mono (Ex.refl _) fun o h => by rw [upd_ne hqp]; exact h⟩
  · by_cases hj : i = j
    · subst hj
      rw [hp] at hq
      cases hq
      exact hn
    · rw [List.getElem?_set_ne hj] at ej
      exact t.own j c ej q hq
  · have back : ∀ {j : Nat} {c : D}, (env.set i (some (true, d')))[j]? = some (some (true, c)) → ∃ c', env[j]? = some (some (true, c')) := fun {j c} ej => by
      by_cases hj : i = j
      · subst hj
        exact ⟨_, e⟩
      · rw [List.getElem?_set_ne hj] at ej
        exact ⟨c, ej⟩
    obtain ⟨_, e1⟩ := back ej
    obtain ⟨_, e2⟩ := back ek
    exact t.apart j k _ _ q hjk e1 e2 hq
/-- an item is put behind an owned list -/
theorem Stt.app (t : Stt K sa Fe He F H S env σ) {i : Nat} {p : Addr} {ds : List D} {xs : List V} {v : V} {d : D} (e : env[i]? = some (some (true, .lst ds))) (hp : σ[i]? = some (some (V.ref p))) (hx : H p = some (.lst xs)) (r : DR K sa F v d) :
    Stt K sa Fe He F (upd H p (.lst (xs ++ [v]))) S (env.set i (some (true, .lst (ds ++ [d])))) σ := by
  obtain ⟨q, h1, hn, f, n1, n2, ys, h2, r2⟩ := t.owned e
  rw [hp] at h1
  cases h1
  rw [hx] at h2
  cases h2
  have hi : i < env.length := (List.getElem?_eq_some_iff.mp e).1
  refine ⟨t.gr.mut hn f, t.src.mut n1 n2, ⟨by rw [List.length_set]; exact t.sr.1, fun j m c ej => ?_⟩, fun j c ej q hq => ?_, fun j k c c' q hjk ej ek hq => ?_⟩
  · by_cases hj : i = j
    · subst hj
      rw [List.getElem?_set_self hi] at ej
      cases ej
      exact ⟨_, hp, p, rfl, f, n1, n2, _, upd_same, r2.append (.cons r .nil)⟩
    · rw [List.getElem?_set_ne hj] at ej
      obtain ⟨u, k1, k2⟩ := t.sr.2 j m c ej
      refine ⟨u, k1, ?_⟩
      cases m with
      | false => exact k2
      | true =>
        obtain ⟨q, rfl, fq, q1, q2, oq⟩ := (show VR K sa .br H F H u c from k2)
        have hqp : q ≠ p := fun z => t.apart i j _ c p hj e ej hp (by rw [← z]; exact k1)
        exact ⟨q, rfl, fq, q1, q2, oq.mono (Ex.refl _) fun o h => by rw [upd_ne hqp]; exact h⟩
  · by_cases hj : i = j
    · subst hj
      rw [hp] at hq
      cases hq
      exact hn
    · rw [List.getElem?_set_ne hj] at ej
      exact t.own j c ej q hq
  · have back : ∀ {j : Nat} {c : D}, (env.set i (some (true, .lst (ds ++ [d]))))[j]? = some (some (true, c)) → ∃ c', env[j]? = some (some (true, c')) := fun {j c} ej => by
      by_cases hj : i = j
      · subst hj
        exact ⟨_, e⟩
      · rw [List.getElem?_set_ne hj] at ej
        exact ⟨c, ej⟩
    obtain ⟨_, e1⟩ := back ej
    obtain ⟨_, e2⟩ := back ek
    exact t.apart j k _ _ q hjk e1 e2 hq
end

section
variable {K : PySem.W.Frag} {G : Gd} {Fe He F H : Hp} {D : Ends} {W : WX} {S : Sr} {env : Env} {σ : L2.St}
theorem keep_post {r : R} {k : Md → Mp.D → Sr → Ro} (t : Stt K G.sa Fe He F H S env σ) (p : PostS K G Fe He (r.keep env k) D W) :
    Post K G (fun c d H' => W c d σ H') F H r (fun v H' => ∃ m d S' F', m ≠ .br ∧ Gr G.sa F H F' H' ∧ SrcR G.sa F' H' S' ∧ VR K G.sa m H F' H' v d ∧ PostS K G Fe He (k m d S') D W) := by
  cases r with
  | ok m d S1 =>
    intro v F' H' g s w
    have p' : PostS K G Fe He (if m = .br then .bad else k m d S1) D W := p
    split at p'
    · exact p'.elim
    · rename_i hm
      exact ⟨m, d, S1, F', hm, g, s, w, p'⟩
  | exc x S1 => exact fun c dx F' H' g s z => p F' H' σ c dx (t.step g s) z
  | bad => exact p
/-- a later frozen part may be the loop's own start -/
theorem PostS.later {r : Ro} (p : PostS K G Fe He r D W) {F0 : Hp} (e : Evl.Ex Fe F0) (nw : ∀ a o, F0 a = some o → Fe a = some o ∨ He a = none) : PostS K G F0 He r D W := by
  have g : ∀ {F H}, Gr G.sa F0 He F H → Gr G.sa Fe He F H := fun {F H} g => ⟨e.trans g.ff, g.fh, g.hh, fun a o h => by
    rcases g.nw a o h with q | q
    · exact nw a o q
    · exact .inr q, g.s1, g.s2⟩
  have st : ∀ {F H S env σ}, Stt K G.sa F0 He F H S env σ → Stt K G.sa Fe He F H S env σ := fun {F H S env σ} t => ⟨g t.gr, t.src, t.sr, t.own, t.apart⟩
  cases r with
  | nx env S => exact fun F H σ t => p F H σ (st t)
  | bk env S => exact fun F H σ t => p F H σ (st t)
  | ct env S => exact fun F H σ t => p F H σ (st t)
  | rt m d S => exact ⟨p.1, fun v F H gr s w => p.2 v F H (g gr) s w⟩
  | ex x env S => exact fun F H σ c dx t z => p F H σ c dx (st t) z
  | bad => exact p
theorem Stt.later (t : Stt K G.sa Fe He F H S env σ) : Stt K G.sa F He F H S env σ :=
  ⟨⟨Ex.refl _, t.gr.fh, t.gr.hh, fun a o h => .inl h, t.gr.s1, t.gr.s2⟩, t.src, t.sr, t.own, t.apart⟩
end
end Mp
set_option Elab.async false
set_option maxRecDepth 100000
set_option maxHeartbeats 4000000
/-! MpT: a caught exception is kept in a variable. -/
namespace Mp
open PySem L2 Evl

/-- an object that stands, unknown so far, becomes known -/
theorem track {X : Cx} {pins : List (Addr × Obj)} {σ : L2.St} {H : Hp} {s : Shared} {a : Addr} {o : HO} (I : Inv X pins σ H s) (hn : H a = none) (h0 : X.s_0.heap.get? a = none) (hl : a ≠ X.env.locals)
    (hc : ∀ x c, X.env.cells.lookup x = some c → c ≠ a) (hp : ∀ p ∈ X.pn ++ pins, p.1 ≠ a) (new : ObjOk X.prog X.w (upd H a o) s.heap a o) : Inv X pins σ (upd H a o) s where
  ok := I.ok
  os := I.os
  bare := I.bare
  base := {
    keep := I.base.keep
    slot := I.base.slot
    free := fun b u q n hx => by
      have hb : b ≠ a := fun z => by
        rw [z, h0] at q
        cases q
      rw [upd_ne hb]
      exact I.base.free b u q n hx
    there := I.base.there
    tups := fun b xs q => by
      have k := I.base.tups b xs q
      rw [upd_ne (ne_of_none k hn)]
      exact k
    frzs := fun b u xs q => by
      have k := I.base.frzs b u xs q
      rw [upd_ne (ne_of_none k hn)]
      exact k
    tbls := fun b ps q => by
      obtain ⟨m, k⟩ := I.base.tbls b ps q
      exact ⟨m, by rw [upd_ne (ne_of_none k hn)]; exact k⟩ }
  loc := I.loc
  cell := I.cell
  free := by rw [upd_ne hl.symm]; exact I.free
  freeC := fun x c e => by rw [upd_ne (hc x c e)]; exact I.freeC x c e
  pin := fun p hm => by
    obtain ⟨k1, k2, k3⟩ := I.pin p hm
    exact ⟨k1, by rw [upd_ne (hp p hm)]; exact k2, k3⟩
  hok := I.hok.laidN (fun _ _ z => z) hn new
  len := I.len

/-- what 'except x as n: y = n' asks of the body's exceptions -/
def wKeep (K : PySem.W.Frag) (c : Value) (i j : Nat) (Wout : WX) (D : Ends) : WX := fun cls d σ H =>
  ∃ b, PySem.W.exmOne K cls c = some b ∧ (b = true → ∀ a, H a = none → D.nx ((σ.set j (some (.ref a))).set i none) (upd H a (ExC cls d a))) ∧ (b = false → Wout cls d σ H)

theorem ps_keep {X : Cx} {x n y : Str} {c : Value} {i j : Nat} {body : List Stmt} {xp hp tp yp np sp : Pos} {tb : WX → TS} {Wout : WX} (hs : X.stack = X.env :: X.outer) (hf : X.env.frame = some X.env.locals) (hx : X.ex = []) (hN : X.N.Nodup) (hij : i ≠ j)
    (hi : X.N[i]? = some n) (hj : X.N[j]? = some y) (hln : X.env.scope.names.lookup n = some .local) (hly : X.env.scope.names.lookup y = some .local) (h29 : (n == ("__debug__" : Str)) = false) (hcn : (n == ("__classdict__" : Str)) = false) (hc : Names X x c) (tk : Takes X Wout)
    (hb : ∀ (W : WX) (pn : List (Addr × Obj)) (xe : Value → Shared → Prop), Takes (X.tr pn xe) W → PassesOwn (model X.prog X.w) X.A X.env xe → PSs (X.tr pn xe) body (tb W)) :
    PS X (.Try body [.ExceptHandler (some (.Name x xp)) (some n) [.Assign [.Name y yp] (.Name n np) sp] hp] [] [] tp) (fun D σ H => tb (wKeep X.K c i j Wout D) D σ H) := by
  refine ⟨fun pins s σ H D I h => ?_⟩
  have ok := I.ok
  have frames : X.A.frames = some (X.env :: X.outer) := ok.frames.trans (congrArg some hs)
  refine wpAny_Try_except (wpAny_mono ((hb (wKeep X.K c i j Wout D) (X.pn ++ pins) (fun ex t1 => wpAny (model X.prog X.w) X.A (noteFrame ex X.env) (fun _ t2 => wpAny (model X.prog X.w) X.A (setFlight ex none)
    (fun _ t3 => wpAny (model X.prog X.w) X.A (handleBy ex X.env [.ExceptHandler (some (.Name x xp)) (some n) [.Assign [.Name y yp] (.Name n np) sp] hp]) (SP X pins D) X.xe t3) X.xe t2) X.xe t1) ?_ PassesOwn.looking).run [] s σ H D (I.toTry _) h) ?_ fun _ _ z => z)
  · intro u t w
    obtain ⟨a, B, t0, pins1, σ1, H1, cls, d, hu, I1, low, up0, sky, none1, same, gens, b, match1, yes, no⟩ := w
    subst hu
    have I0 : Inv X pins σ1 H1 t0 := I1.ofTry ok
    have sky1 : Sky B (X.env :: X.outer) a (Zc cls d) X.env.locals t.heap := hs ▸ sky
    show wpAny (model X.prog X.w) X.A (noteFrame (.ref a) X.env) _ _ _
    refine Sky.land Zc.steady frames hf sky1 fun ha flA upA => ?_
    have IA : Inv X pins σ1 H1 { t with heap := ha } := I0.landed low flA.1 (up0.trans upA) same gens
    obtain ⟨oA, vA, getA, zA, dataA⟩ := flA.there
    have farF : a ∉ frs (X.env :: X.outer) := fun hm => by
      obtain ⟨_, q, getQ, noF⟩ := flA.2.2.1.mem hm
      have e := getA.symm.trans getQ
      cases e
      exact noF _ dataA
    have farL : a ≠ X.env.locals := fun z => farF (by
      rw [z]
      exact List.mem_filterMap.mpr ⟨X.env, List.mem_cons_self, hf⟩)
    have farO : a ∉ X.fs := fun hm => by
      obtain ⟨ev, hev, q⟩ := List.mem_filterMap.mp hm
      exact farF (List.mem_filterMap.mpr ⟨ev, List.mem_cons_of_mem _ hev, q⟩)
    -- what stood ahead of the exception isn't it
    have farB : ∀ b o, t0.heap.get? b = some o → b ∉ frs X.stack → b ≠ a := fun b o e nb z => by
      have q := low b o e nb
      rw [z, flA.2.1] at q
      cases q
    have far0 : X.s_0.heap.get? a = none := by
      cases e : X.s_0.heap.get? a with
      | none => rfl
      | some o =>
        obtain ⟨o2, e2⟩ := I0.base.there a o e (by rw [hx]; exact fun z => nomatch z)
        exact absurd rfl (farB a o2 e2 (by rw [hs]; exact farF))
    have farP : ∀ p ∈ X.pn ++ pins, p.1 ≠ a := fun p hm => by
      obtain ⟨k1, _, k3, k4, _⟩ := I0.pin p hm
      refine farB _ _ k1 fun z => ?_
      rcases List.mem_cons.mp (I0.stkSub _ z) with q | q
      · exact k3 q
      · exact k4 q
    have SA := IA.suite getA dataA none1 farL farO
    refine wpAny_handleBy_cons (codeAny_handlers_test ?_) (by intro q; cases q)
    have ofT : PySem.W.Looks (model X.prog X.w) ha (typeOf (.ref a)) cls := fun A' Q' E' s' k q =>
      wpAny_typeOf_ref (k _ _ getA) (by rw [zA.1]; exact q)
    have theTest : ∀ {Q : Value → Shared → Prop} {E : Value → Shared → Prop}, Q c { t with heap := ha } →
        wpAny (model X.prog X.w) (X.A.mark (some (.ref a))) (eval (.Name x xp) X.env) Q E { t with heap := ha } := by
      intro Q E q
      obtain ⟨gx, dx, m1 | ⟨m1, m2, m3⟩⟩ := hc
      · exact ld_glob (X := X.suite a ((a, oA) :: (X.pn ++ pins))) SA gx m1 q dx
      · exact ld_blt (X := X.suite a ((a, oA) :: (X.pn ++ pins))) SA gx m1 m2 q m3 dx
    refine theTest ((PySem.W.exm_one (M := model X.prog X.w) IA.kIn ofT match1).here ?_)
    cases b with
    | true =>
      refine codeAny_handlers_suite_as (HandSPX.lands_againZ flA fun hb2 flB upB => ?_)
      have IB : Inv X pins σ1 H1 { t with heap := hb2 } := I0.landed low flB.1 ((up0.trans upA).trans upB) same gens
      obtain ⟨oB, vB, getB, zB, dataB⟩ := flB.there
      refine store_ok (X := X.suite a ((a, oB) :: (X.pn ++ pins))) (v := .ref a) (IB.suite getB dataB none1 farL farO) hN hi (.inl hln) rfl (fun t5 S5 => ?_) (.inr hln)
      have rule := pss_one (ps_set (X := X.suite a ((a, oB) :: (X.pn ++ pins))) (i := j) (x := y) (e := .Name n np) (pos' := yp) (pos := sp) hN hj (.inl hly)
        (pe_var hi (.inl hln) h29 hcn) rfl (.inr hly))
      have ilt : i < σ1.length := by
        rw [I0.len]
        exact (List.getElem?_eq_some_iff.mp hi).1
      refine wpAny_mono (rule.run [] t5 _ H1 ⟨fun σ6 H6 => σ6 = (σ1.set i (some (.ref a))).set j (some (.ref a)) ∧ H6 = H1, fun _ _ => False, fun _ _ => False, fun _ _ => False⟩ S5
        ⟨.ref a, List.getElem?_set_self ilt, rfl, rfl⟩) ?_ (fun _ _ z => z.elim)
      intro f t6 end6
      cases f with
      | next =>
        obtain ⟨σ6, H6, S6, rfl, rfl⟩ := end6
        have get6 := (S6.pin (a, oB) List.mem_cons_self).1
        have I6 : Inv X pins _ H6 t6 := S6.unsuite ok
        have I7 := track (o := ExC cls d a) I6 none1 far0 farL (fun z k e q => by
          obtain ⟨v, o, g1, g2⟩ := I6.cell z k e
          rw [q, show t6.heap.get? a = some oB from get6] at g1
          cases g1
          rw [dataB] at g2
          cases g2) farP ⟨⟨oB, vB, get6, zB, dataB⟩, ⟨oB, get6⟩, fun _ _ ⟨o, v, q, r⟩ k => ⟨o, v, k o q, r⟩⟩
        refine gone_ok I7 hN hi hln fun t8 I8 => ⟨_, _, I8, ?_⟩
        have q := yes rfl a none1
        have e : ((σ1.set i (some (V.ref a))).set j (some (V.ref a))).set i none = (σ1.set j (some (V.ref a))).set i none := by
          rw [List.set_comm _ _ hij, List.set_set]
        rw [e]
        exact q
      | brk => obtain ⟨_, _, _, z⟩ := end6; exact z.elim
      | cont => obtain ⟨_, _, _, z⟩ := end6; exact z.elim
      | ret u => obtain ⟨_, _, _, _, _, z⟩ := end6; exact z.elim
    | false =>
      refine wpAny_handleBy_nil (s := { t with heap := ha }) ?_
      have flA2 := flA
      obtain ⟨_, _, _, o1, v1, T1, oT1, ts1, g1, z1, d1, p1, r1⟩ := flA2
      unfold PySem.passOn
      refine wpAny_bind (wpAny_field g1 d1 p1 ?_)
      rw [if_neg (by simp)]
      have out : wpAny (model X.prog X.w) X.A (setFlight (.ref a) X.env.frame) (fun _ t4 => wpAny (model X.prog X.w) X.A (throw (.ref a) : Sem Flow) (SP X pins D) X.xe t4) X.xe { t with heap := ha } := by
        rw [hf]
        refine HandSPX.setFlight_upZ flA fun hc2 heldC upC => wpAny_throw (tk _ _ ⟨a, B, t0, pins, σ1, H1, cls, d, rfl, I0, low, (up0.trans upA).trans upC, ?_, none1, same, gens, no rfl⟩)
        right
        right
        rw [hs]
        exact heldC
      first
        | exact wpAny_bind (wpAny_pure (wpAny_bind out))
        | exact wpAny_bind out
  · intro f t w
    cases f with
    | next =>
      obtain ⟨σ1, H1, I1, q⟩ := w
      exact wpAny_execs_nil ⟨σ1, H1, I1.ofTry ok, q⟩
    | brk =>
      obtain ⟨σ1, H1, I1, q⟩ := w
      exact ⟨σ1, H1, I1.ofTry ok, q⟩
    | cont =>
      obtain ⟨σ1, H1, I1, q⟩ := w
      exact ⟨σ1, H1, I1.ofTry ok, q⟩
    | ret v =>
      obtain ⟨x1, σ1, H1, I1, r, q⟩ := w
      exact ⟨x1, σ1, H1, I1.ofTry ok, r, q⟩
end Mp
set_option Elab.async false
set_option maxRecDepth 100000
set_option maxHeartbeats 4000000
/-! Mp18: looks of statements; simple statements. -/
namespace Mp
open PySem L2 Evl

/-- which names a display's items are stored under, in its place -/
def stB (sc : Scope) (ts vs : List Expr) : Option (Option (List Str)) :=
  if (!(ts.length == 2 || ts.length == 3) || vs.length != ts.length) = true then some none
  else if (vs.any fun | .Starred .. => true | _ => false) = true then some none
  else
    let line := (ts.head?.map (·.pos.line)).getD 0
    let names := ts.filterMap fun
      | .Name id pos => if sc.names.lookup id == some .local && pos.line == line then some id else none
      | _ => none
    if (names.length != ts.length || names.eraseDups.length != names.length) = true then some none
    else if (vs.all (foldedForSure 8)) = true then some none
    else if (vs.all (constantsAlone 8)) = true then none
    else some (some names)
theorem st_eq {X : Cx} (hk : X.env.scope.kind = .function) {ts vs : List Expr} {k k2 : Nat} {p p2 : Pos} {r : Option (List Str)} (h : stB X.env.scope ts vs = some r) : swappedStores [.Tuple ts k p] (.Tuple vs k2 p2) X.env = pure r := by
  have hb : (X.env.blockKind != .function) = false := by
    have : X.env.blockKind = .function := by unfold Env.blockKind; rw [hk]; rfl
    rw [this]; rfl
  unfold stB at h
  unfold swappedStores
  dsimp only
  rw [hb, Bool.or_false]
  split at h
  · rename_i c
    cases h
    exact if_pos c
  · rename_i c
    refine (if_neg c).trans ?_
    split at h
    · rename_i c1
      cases h
      exact if_pos c1
    · rename_i c1
      refine (if_neg c1).trans ?_
      dsimp only at h
      split at h
      · rename_i c2
        cases h
        exact if_pos c2
      · rename_i c2
        refine (if_neg c2).trans ?_
        split at h
        · rename_i c3
          cases h
          exact if_pos c3
        · rename_i c3
          refine (if_neg c3).trans ?_
          split at h
          · cases h
          · rename_i c4
            cases h
            exact if_neg c4

def locNm (N : List Str) (sc : Scope) (i : Nat) (x : Str) : Bool := decide (N[i]? = some x) && locOk sc x
/-! the forms of statements, told at once -/
def fAsg : Stmt → Option (Str × Pos × Expr × Pos)
  | .Assign [.Name x px] e p => some (x, px, e, p)
  | _ => none
def fAsgT : Stmt → Option (Expr × Expr × Pos)
  | .Assign [t] e p => some (t, e, p)
  | _ => none
def fApp : Stmt → Option (Str × Pos × Str × Pos × Expr × Pos × Pos)
  | .Expr (.Call (.Attribute (.Name x px) nm apos) [e] [] cpos) p => some (x, px, nm, apos, e, cpos, p)
  | _ => none
def fNil2 : Stmt → Option (List Expr × Nat × Pos × Pos × Pos × Nat × Pos × Pos)
  | .Assign [.Tuple ts kt pt] (.Tuple [.List [] p1, .List [] p2] kv pv) p => some (ts, kt, pt, p1, p2, kv, pv, p)
  | _ => none
theorem fNil2_eq {s : Stmt} {ts kt pt p1 p2 kv pv p} (h : fNil2 s = some (ts, kt, pt, p1, p2, kv, pv, p)) : s = .Assign [.Tuple ts kt pt] (.Tuple [.List [] p1, .List [] p2] kv pv) p := by
  unfold fNil2 at h; split at h <;> cases h; rfl
def fPut : Stmt → Option (Str × Pos × Expr × Pos × Expr × Pos)
  | .Assign [.Subscript (.Name x px) k p] e q => some (x, px, k, p, e, q)
  | _ => none
theorem fPut_eq {s : Stmt} {x px k p e q} (h : fPut s = some (x, px, k, p, e, q)) : s = .Assign [.Subscript (.Name x px) k p] e q := by
  unfold fPut at h; split at h <;> cases h; rfl
def fExp : Stmt → Option (Expr × Pos)
  | .Expr e p => some (e, p)
  | _ => none
def fRet : Stmt → Option (Expr × Pos)
  | .Return (some e) p => some (e, p)
  | _ => none
def fRetN : Stmt → Option Pos
  | .Return none p => some p
  | _ => none
def fIf : Stmt → Option (Expr × List Stmt × List Stmt × Pos)
  | .If c a b p => some (c, a, b, p)
  | _ => none
def fFor : Stmt → Option (Expr × Expr × List Stmt × Pos)
  | .For t i b [] p => some (t, i, b, p)
  | _ => none
def fWhl : Stmt → Option (Expr × List Stmt × Pos)
  | .While c b [] p => some (c, b, p)
  | _ => none
def fRaise : Stmt → Option (Str × Pos × Pos × Pos)
  | .Raise (some (.Call (.Name x px) [] [] cp)) none p => some (x, px, cp, p)
  | _ => none
def fPass : Stmt → Option Pos
  | .Pass p => some p
  | _ => none
def fBrk : Stmt → Option Pos
  | .Break p => some p
  | _ => none
def fCnt : Stmt → Option Pos
  | .Continue p => some p
  | _ => none
theorem fAsg_eq {s : Stmt} {x px e p} (h : fAsg s = some (x, px, e, p)) : s = .Assign [.Name x px] e p := by
  unfold fAsg at h; split at h <;> cases h; rfl
theorem fAsgT_eq {s : Stmt} {t e p} (h : fAsgT s = some (t, e, p)) : s = .Assign [t] e p := by
  unfold fAsgT at h; split at h <;> cases h; rfl
theorem fApp_eq {s : Stmt} {x px nm apos e cpos p} (h : fApp s = some (x, px, nm, apos, e, cpos, p)) : s = .Expr (.Call (.Attribute (.Name x px) nm apos) [e] [] cpos) p := by
  unfold fApp at h; split at h <;> cases h; rfl
theorem fExp_eq {s : Stmt} {e p} (h : fExp s = some (e, p)) : s = .Expr e p := by
  unfold fExp at h; split at h <;> cases h; rfl
theorem fRet_eq {s : Stmt} {e p} (h : fRet s = some (e, p)) : s = .Return (some e) p := by
  unfold fRet at h; split at h <;> cases h; rfl
theorem fRetN_eq {s : Stmt} {p} (h : fRetN s = some p) : s = .Return none p := by
  unfold fRetN at h; split at h <;> cases h; rfl
theorem fIf_eq {s : Stmt} {c a b p} (h : fIf s = some (c, a, b, p)) : s = .If c a b p := by
  unfold fIf at h; split at h <;> cases h; rfl
theorem fFor_eq {s : Stmt} {t i b p} (h : fFor s = some (t, i, b, p)) : s = .For t i b [] p := by
  unfold fFor at h; split at h <;> cases h; rfl
theorem fWhl_eq {s : Stmt} {c b p} (h : fWhl s = some (c, b, p)) : s = .While c b [] p := by
  unfold fWhl at h; split at h <;> cases h; rfl
theorem fRaise_eq {s : Stmt} {x px cp p} (h : fRaise s = some (x, px, cp, p)) : s = .Raise (some (.Call (.Name x px) [] [] cp)) none p := by
  unfold fRaise at h; split at h <;> cases h; rfl
theorem fPass_eq {s : Stmt} {p} (h : fPass s = some p) : s = .Pass p := by
  unfold fPass at h; split at h <;> cases h; rfl
theorem fBrk_eq {s : Stmt} {p} (h : fBrk s = some p) : s = .Break p := by
  unfold fBrk at h; split at h <;> cases h; rfl
theorem fCnt_eq {s : Stmt} {p} (h : fCnt s = some p) : s = .Continue p := by
  unfold fCnt at h; split at h <;> cases h; rfl
structure TryF where
  body : List Stmt
  x : Str
  xp : Pos
  n : Str
  hp : Pos
  y : Str
  yp : Pos
  np : Pos
  sp : Pos
  tp : Pos
def fTryAs : Stmt → Option TryF
  | .Try body [.ExceptHandler (some (.Name x xp)) (some n) [.Assign [.Name y yp] (.Name m np) sp] hp] [] [] tp => if m = n then some ⟨body, x, xp, n, hp, y, yp, np, sp, tp⟩ else none
  | _ => none
def isNone : Option Expr → Bool
  | none => true
  | some (.Constant .none _ _) => true
  | _ => false
def fTryRN : Stmt → Option (List Stmt × Str × Pos × Option Expr × Pos × Pos × Pos)
  | .Try body [.ExceptHandler (some (.Name x xp)) none [.Return v rp] hp] [] [] tp => some (body, x, xp, v, rp, hp, tp)
  | _ => none
theorem fTryAs_eq {s : Stmt} {t : TryF} (h : fTryAs s = some t) : s = .Try t.body [.ExceptHandler (some (.Name t.x t.xp)) (some t.n) [.Assign [.Name t.y t.yp] (.Name t.n t.np) t.sp] t.hp] [] [] t.tp := by
  unfold fTryAs at h
  split at h
  · split at h
    · rename_i e
      cases h
      rw [e]
    · cases h
  · cases h
theorem fTryRN_eq {s : Stmt} {body x xp v rp hp tp} (h : fTryRN s = some (body, x, xp, v, rp, hp, tp)) : s = .Try body [.ExceptHandler (some (.Name x xp)) none [.Return v rp] hp] [] [] tp := by
  unfold fTryRN at h; split at h <;> cases h; rfl
def isComp : Xp → Bool
  | .comp _ _ _ _ _ => true
  | .comp2 _ _ _ _ _ _ _ _ _ => true
  | _ => false
def fTup : Expr → Option (List Expr × Nat × Pos)
  | .Tuple ts k p => some (ts, k, p)
  | _ => none
def fPair : List Expr → Option (Str × Pos × Str × Pos)
  | [.Name x px, .Name y py] => some (x, px, y, py)
  | _ => none
def fTwo : List Expr → Option (Expr × Expr)
  | [a, b] => some (a, b)
  | _ => none
def fTri : List Expr → Option (Str × Pos × Str × Pos × Str × Pos)
  | [.Name x px, .Name y py, .Name z pz] => some (x, px, y, py, z, pz)
  | _ => none
def fThree : List Expr → Option (Expr × Expr × Expr)
  | [a, b, c] => some (a, b, c)
  | _ => none
def fIJ : Tg → Option (Nat × Nat)
  | .tp [i, j] => some (i, j)
  | _ => none
def fXp2 : Xp → Option (Xp × Xp)
  | .tup [a, b] => some (a, b)
  | _ => none
theorem fTup_eq {e : Expr} {ts k p} (h : fTup e = some (ts, k, p)) : e = .Tuple ts k p := by
  unfold fTup at h; split at h <;> cases h; rfl
theorem fTup_no {e : Expr} (h : fTup e = none) : ∀ ts k p, e ≠ .Tuple ts k p := by
  rintro ts k p rfl
  cases h
theorem fPair_eq {e : List Expr} {x px y py} (h : fPair e = some (x, px, y, py)) : e = [.Name x px, .Name y py] := by
  unfold fPair at h; split at h <;> cases h; rfl
theorem fTwo_eq {e : List Expr} {a b} (h : fTwo e = some (a, b)) : e = [a, b] := by
  unfold fTwo at h; split at h <;> cases h; rfl
theorem fTri_eq {e : List Expr} {x px y py z pz} (h : fTri e = some (x, px, y, py, z, pz)) : e = [.Name x px, .Name y py, .Name z pz] := by
  unfold fTri at h; split at h <;> cases h; rfl
theorem fThree_eq {e : List Expr} {a b c} (h : fThree e = some (a, b, c)) : e = [a, b, c] := by
  unfold fThree at h; split at h <;> cases h; rfl
theorem fIJ_eq {e : Tg} {a b} (h : fIJ e = some (a, b)) : e = .tp [a, b] := by
  unfold fIJ at h; split at h <;> cases h; rfl
theorem fXp2_eq {e : Xp} {a b} (h : fXp2 e = some (a, b)) : e = .tup [a, b] := by
  unfold fXp2 at h; split at h <;> cases h; rfl
section
variable (np : Str → Option Nat) (cs : Str → Bool) (N : List Str) (sc : Scope)
def chkTgt (tg : Tg) (e : Xp) (t v : Expr) : Bool :=
  match fTup t with
  | none => false
  | some (ts, _, _) => match fTup v with
    | none => true
    | some (vs, _, _) => match stB sc ts vs with
      | none => false
      | some none => true
      | some (some names) => match fIJ tg, fPair ts, fTwo vs, fXp2 e with
        | some (i, j), some (x, _, y, _), some _, some _ => decide (i ≠ j) && decide (N[i]? = some x) && decide (N[j]? = some y) && decide (names = [x, y]) && decide (sc.names.lookup x = some .local) && decide (sc.names.lookup y = some .local)
        | _, _, _, _ => false
mutual
def chkS : St → Stmt → Bool
  | .asg i e, s => match fAsg s with
    | some (x, px, e', _) => locNm N sc i x && noSD e' && chkE np N e sc e' && (!swapB sc e' x px || isComp e)
    | none => false
  | .asgT tg e, s => match fAsgT s with
    | some (t, e', _) => chkTg none N sc tg t && chkE np N e sc e' && chkTgt N sc tg e t e'
    | none => false
  | .asgN i e j, s => match fAsgT s with
    | some (t, v, _) => match fTup t, fTup v with
      | some (ts, _, _), some (vs, _, _) => match fPair ts, fTwo vs with
        | some (x, _, y, _), some (a, b) => decide (i ≠ j) && decide (N[i]? = some x) && decide (N[j]? = some y) && decide (stB sc ts vs = some (some [x, y])) && decide (sc.names.lookup x = some .local) && decide (sc.names.lookup y = some .local) && noStar a && noStar b && chkE np N e sc a && chkE np N (.lst []) sc b
        | _, _ => false
      | _, _ => false
    | none => false
  | .asgB i e j l bb, s => match fAsgT s with
    | some (t, v, _) => match fTup t, fTup v with
      | some (ts, _, _), some (vs, _, _) => match fTri ts, fThree vs with
        | some (x, _, y, _, z, _), some (a, b, c) => decide (i ≠ j) && decide (i ≠ l) && decide (j ≠ l) && decide (N[i]? = some x) && decide (N[j]? = some y) && decide (N[l]? = some z) && decide (stB sc ts vs = some (some [x, y, z])) && decide (sc.names.lookup x = some .local) && decide (sc.names.lookup y = some .local) && decide (sc.names.lookup z = some .local) && noStar a && noStar b && noStar c && chkE np N e sc a && chkE np N (.lst []) sc b && chkE np N (.lit (.tr bb)) sc c
        | _, _ => false
      | _, _ => false
    | none => false
  | .asg3 i j l es, s => match fAsgT s with
    | some (t, v, _) => match fTup t, fTup v with
      | some (ts, _, _), some (vs, _, _) => match fTri ts, fThree vs with
        | some (x, _, y, _, z, _), some (a, b, c) => decide (i ≠ j) && decide (i ≠ l) && decide (j ≠ l) && decide (N[i]? = some x) && decide (N[j]? = some y) && decide (N[l]? = some z) && decide (stB sc ts vs = some (some [x, y, z])) && decide (sc.names.lookup x = some .local) && decide (sc.names.lookup y = some .local) && decide (sc.names.lookup z = some .local) && chkEs np N es sc [a, b, c]
        | _, _ => false
      | _, _ => false
    | none => false
  | .app i e, s => match fApp s with
    | some (x, _, nm, apos, e', cpos, _) => nmOk N sc i x && decide (nm = ("append" : Str)) && (apos.endLine == cpos.line) && noStar e' && chkE np N e sc e'
    | none => false
  | .appT i e, s => match fApp s with
    | some (x, _, nm, apos, e', cpos, _) => nmOk N sc i x && decide (nm = ("append" : Str)) && (apos.endLine == cpos.line) && noStar e' && chkE np N e sc e'
    | none => false
  | .nil2 i j, s => match fNil2 s with
    | some (ts, kt, pt, p1, p2, _, _, _) => chkTg none N sc (.tp [i, j]) (.Tuple ts kt pt) && (match stB sc ts [.List [] p1, .List [] p2] with | some none => true | _ => false)
    | none => false
  | .put i k e, s => match fPut s with
    | some (x, _, k', _, e', _) => nmOk N sc i x && noSlice k' && noComps e' && chkE np N k sc k' && chkE np N e sc e'
    | none => false
  | .exp e, s => match fExp s with
    | some (e', _) => noComps e' && chkE np N e sc e'
    | none => false
  | .ret e, s => match fRet s with
    | some (e', _) => chkE np N e sc e'
    | none => false
  | .retN, s => (fRetN s).isSome
  | .ite c a b, s => match fIf s with
    | some (c', a', b', _) => chkE np N c sc c' && chkL a a' && chkL b b'
    | none => false
  | .for_ tg it b, s => match fFor s with
    | some (tg', it', b', _) => noSet it' && chkI np N it sc it' tg' && chkTg none N sc tg tg' && chkL b b'
    | none => false
  | .whl c b, s => match fWhl s with
    | some (c', b', _) => chkE np N c sc c' && chkL b b'
    | none => false
  | .raise c, s => match fRaise s with
    | some (x, _, _, _) => decide (c = x) && glOk sc x && cs c
    | none => false
  | .tryAs b c i j, s => match fTryAs s with
    | some t => decide (c = t.x) && glOk sc t.x && decide (i ≠ j) && decide (N[i]? = some t.n) && decide (N[j]? = some t.y) && decide (sc.names.lookup t.n = some .local) && decide (sc.names.lookup t.y = some .local)
      && !(t.n == ("__debug__" : Str)) && !(t.n == ("__classdict__" : Str)) && chkL b t.body
    | none => false
  | .tryRN b c, s => match fTryRN s with
    | some (body, x, _, v, _, _, _) => decide (c = x) && glOk sc x && isNone v && chkL b body
    | none => false
  | .pass, s => (fPass s).isSome
  | .brk, s => (fBrk s).isSome
  | .cnt, s => (fCnt s).isSome
def chkL : List St → List Stmt → Bool
  | [], xs => xs.isEmpty
  | s :: ss, xs => match xs with
    | x :: xs => chkS s x && chkL ss xs
    | [] => false
end
end

theorem pmk0 {X : Cx} {C : Addr} {x : Str} {p pos : Pos} (E : ExcF X x C) (ei : PySem.W.excIn X.K C [.type "ValueError", .type "Exception", .type "BaseException", .type "object"] "ValueError.__new__" = true) (hg : Gl X x) (hdb : (x == ("__debug__" : Str)) = false) : PMk X (.Call (.Name x p) [] [] pos) (fun _ H Q => Q (.ref C) none H) := by
  intro pins s σ H Q I h
  refine wpAny_Call_Name_kw (ld_glob I hg E.mg ?_ hdb)
  refine PySem.W.callWith_K0 I.kIn E.kp ?_
  obtain ⟨bm, M, nm, qn, bs, hdct, sn, sub, ab, col, dd, k0, k1, k2, k3, k5, mN, hC, hN, hni, T⟩ := exc_obj I.kIn ei
  exact wpAny_call_exc_subT PySem.F.excBase_ValueError T hC hN hni (fun h' e hm => mk_of I hm (raises_own E.bs E.ty) h (I.hok.gone hm.new)) (Nat.zero_le _)
end Mp
set_option Elab.async false
set_option maxRecDepth 100000
set_option maxHeartbeats 4000000
/-! Mp19: statements come to what their evaluation says. -/
namespace Mp
open PySem L2 Evl
section
variable (n : Nat) (G : Gd) (cs : Str → Bool)
def SS (st : St) : Prop := ∀ (X : Cx) (W : WX) (x : Stmt), CnS X n G W → (∀ c, cs c = true → (G.cls c).isSome = true ∧ G.T.ini c = none) → chkS G.np cs X.N X.env.scope st x = true → ∀ Fe He σ H F env S D, Stt X.K G.sa Fe He F H S env σ →
  PostS X.K G Fe He (exS G.T G.cl st env S) D W → WSt X x D σ H
def SL (ss : List St) : Prop := ∀ (X : Cx) (W : WX) (xs : List Stmt), CnS X n G W → (∀ c, cs c = true → (G.cls c).isSome = true ∧ G.T.ini c = none) → chkL G.np cs X.N X.env.scope ss xs = true → ∀ Fe He σ H F env S D, Stt X.K G.sa Fe He F H S env σ →
  PostS X.K G Fe He (exL G.T G.cl ss env S) D W → WSs X xs D σ H
end
section
variable {n : Nat} {G : Gd} {cs : Str → Bool}
theorem sl_nil : SL n G cs [] := by
  intro X W xs C hcs h Fe He σ H F env S D t p
  cases xs with
  | cons => simp [chkL] at h
  | nil =>
    rw [exL] at p
    exact .of pss_nil (p F H σ t)
theorem sl_cons {s : St} {ss : List St} (h1 : SS n G cs s) (h2 : SL n G cs ss) : SL n G cs (s :: ss) := by
  intro X W xs C hcs h Fe He σ H F env S D t p
  cases xs with
  | nil => simp [chkL] at h
  | cons x xs =>
    rw [chkL, Bool.and_eq_true] at h
    rw [exL] at p
    refine .of (pss_cons wst wss) (h1 X W x C hcs h.1 Fe He σ H F env S _ t ?_)
    cases hr : exS G.T G.cl s env S with
    | nx env' S' =>
      rw [hr] at p
      exact fun F' H' σ' t' => h2 X W xs C hcs h.2 Fe He σ' H' F' env' S' D t' p
    | rt m d S' => rw [hr] at p; exact p
    | bk env' S' => rw [hr] at p; exact p
    | ct env' S' => rw [hr] at p; exact p
    | ex x env' S' => rw [hr] at p; exact p
    | bad => rw [hr] at p; exact p
/-- the evaluation of an expression within a statement -/
theorem run_e {X : Cx} {W : WX} {x : Expr} {e : Xp} {Fe He F H : Hp} {S : Sr} {env : Env} {σ : L2.St} {D : Ends} {k : Md → Mp.D → Sr → Ro} (C : CnS X n G W) (h : chkE G.np X.N e X.env.scope x = true) (t : Stt X.K G.sa Fe He F H S env σ)
    (p : PostS X.K G Fe He ((evE G.T G.cl e (freezeE env (esc e)) S).keep (freezeE env (esc e)) k) D W) {Q : VK}
    (hq : ∀ m d S' F1 F' v H', m ≠ .br → Stt X.K G.sa Fe He F1 H S (freezeE env (esc e)) σ → Gr G.sa F1 H F' H' → SrcR G.sa F' H' S' → VR X.K G.sa m H F' H' v d → PostS X.K G Fe He (k m d S') D W → Q v H') : WE X x σ H Q := by
  obtain ⟨F1, t1, e1⟩ := t.freeze (esc e)
  refine (allE (n := n) (G := G) e).1 X W none x C.cn.2 h σ H F1 _ S Q t1.sr t1.ex t1.src ((keep_post t1 p).mono ?_ fun _ _ _ z => z)
  rintro v H' ⟨m, d, S', F', hm, g, s, w, p'⟩
  exact hq m d S' F1 F' v H' hm t1 g s w p'
theorem fn_def {X : Cx} {W : WX} (C : CnS X n G W) (x : Str) : X.fn x = true ∨ X.env.scope.names.lookup x = some .local := C.cn.2.fn x rfl
theorem ss_asg {i : Nat} {e : Xp} : SS n G cs (.asg i e) := by
  intro X W x C hcs h Fe He σ H F env S D t p
  rw [chkS] at h
  cases hf : fAsg x with
  | none => rw [hf] at h; cases h
  | some q =>
  obtain ⟨y, py, e', pos⟩ := q
  rw [hf] at h
  have hx := fAsg_eq hf
  subst hx
  dsimp only at h
  simp only [Bool.and_eq_true] at h
  obtain ⟨⟨⟨h1, h2⟩, h3⟩, h4⟩ := h
  unfold locNm at h1
  rw [Bool.and_eq_true] at h1
  have hy := of_decide_eq_true h1.1
  have p' : PostS X.K G Fe He ((evE G.T G.cl e (freezeE env (esc e)) S).keep (freezeE env (esc e)) fun m d S => .nx ((freezeE env (esc e)).set i (some (decide (m = .fr), d))) S) D W := by
    rw [exS] at p
    exact p
  have key : ∀ m d S' F1 F' v H', m ≠ .br → Stt X.K G.sa Fe He F1 H S (freezeE env (esc e)) σ → Gr G.sa F1 H F' H' → SrcR G.sa F' H' S' → VR X.K G.sa m H F' H' v d →
      PostS X.K G Fe He (.nx ((freezeE env (esc e)).set i (some (decide (m = .fr), d))) S') D W → gName i v σ H' D.nx := by
    intro m d S' F1 F' v H' hm t1 g s w p2
    cases m with
    | br => exact absurd rfl hm
    | fz => exact p2 F' H' _ ((t1.step g s).setF w)
    | fr =>
      obtain ⟨q, rfl, hn, f, n1, n2, o⟩ := w
      exact p2 F' H' _ (t1.setN g s hn f n1 n2 o)
  intro pins s0 I
  have hk := I.ok.kind
  cases hsw : swapB X.env.scope e' y py with
  | false =>
    have rule := ps_set (X := X) (i := i) (x := y) (e := e') (pos' := py) (pos := pos) C.cn.2.nd hy (loc_of h1.2) we (by rw [swaps_eq hk h2, hsw]) (fn_def C y)
    exact rule.run pins s0 σ H D I (run_e C h3 t p' key)
  | true =>
    rw [hsw] at h4
    have he : (∃ own tg it ifs e2, e = .comp own tg it ifs e2) ∨ ∃ own vs tg it ifs tg1 it1 ifs1 e2, e = .comp2 own vs tg it ifs tg1 it1 ifs1 e2 := by
      cases e <;> first | (cases h4; done) | exact .inl ⟨_, _, _, _, _, rfl⟩ | exact .inr ⟨_, _, _, _, _, _, _, _, _, rfl⟩
    rcases he with ⟨own, tg, it, ifs, e2, rfl⟩ | ⟨own, vs, tg, it, ifs, tg1, it1, ifs1, e2, rfl⟩
    · obtain ⟨e3, tg', it', ifs', scope, vp, rfl, k1, k2, k3, k4, k5, kl, k6, k7⟩ := chk_comp h3
      have hl' : ifs'.length ≤ 1 := by rw [chkEs_len k6]; exact kl
      have hloc : X.env.scope.names.lookup y = some .local := by
        unfold swapB at hsw
        simp only [Bool.and_eq_true] at hsw
        exact of_decide_eq_true hsw.1.1
      have rule := ps_setLc (X := X) (i := i) (y := y) (py := py) (elt := e3) (tg := tg') (iter := it') (ifs := ifs') (scope := scope) (own := ownOf X.N own) (pos := vp) (spos := pos) (wi := WI X tg' it') (g := gOf X.K tg) (tt := bT X scope ifs') (te := bE X scope e3) C.cn.2.calm C.cn.2.nd hy hloc
        (by rw [swaps_eq hk h2, hsw]) wi (blkOk_by k1)
        (fun s0 H0 A cl fp => pg_of (cn_blk C.cn.2 s0 H0 scope cl A fp) k4) (fun s0 H0 A cl fp => pts_of hl' s0 H0 A cl fp) (fun s0 H0 A cl fp => ⟨fun pins s1 σ1 H1 Q1 I hw => hw s0 H0 A cl fp pins s1 I⟩) (fun x => folded_of k2 _ x)
      rw [own_map] at rule
      refine rule.run pins s0 σ H D I ?_
      obtain ⟨F1, t1, e1⟩ := t.freeze (esc (.comp own tg it ifs e2))
      refine comp_read C.cn.2 (allI it) (allT ifs) (allE e2).1 k3 k5 kl k6 k7 t1.sr t1.ex t1.src ((keep_post t1 p').mono ?_ fun _ _ _ z => z)
      rintro v H' ⟨m, d, S', F', hm, g, s, w, p2⟩
      exact key m d S' F1 F' v H' hm t1 g s w p2
    · obtain ⟨e3, tg', it', ifs', tg1', it1', ifs1', scope, vp, rfl, k1, k2, k3, k4, k5, kl, k6, q2, q3, q4, q5, qv, ql, q6, k7⟩ := chk_comp2 h3
      have hl' : ifs'.length ≤ 1 := by rw [chkEs_len k6]; exact kl
      have ql' : ifs1'.length ≤ 1 := by rw [chkEs_len q6]; exact ql
      have hloc : X.env.scope.names.lookup y = some .local := by
        unfold swapB at hsw
        simp only [Bool.and_eq_true] at hsw
        exact of_decide_eq_true hsw.1.1
      have rule := ps_setLc2 (X := X) (i := i) (y := y) (py := py) (elt := e3) (tg := tg') (iter := it') (tg1 := tg1') (iter1 := it1') (ifs := ifs') (ifs1 := ifs1') (scope := scope) (own := ownOf X.N own) (vs1 := vs) (pos := vp) (spos := pos) (wi := WI X tg' it') (wi1 := bI X scope tg1' it1') (g := gOf X.K tg) (g1 := gOf X.K tg1) (tt := bT X scope ifs') (tt1 := bT X scope ifs1') (te := bE X scope e3) C.cn.2.calm C.cn.2.nd hy hloc
        (by rw [swaps_eq hk h2, hsw]) wi (blkOk_by k1) (fun i hi' => by rw [own_map]; simpa using List.all_eq_true.mp qv i hi')
        (fun s0 H0 A cl fp => pg_of (cn_blk C.cn.2 s0 H0 scope cl A fp) k4) (fun s0 H0 A cl fp => pts_of hl' s0 H0 A cl fp)
        (fun s0 H0 A cl fp => ⟨fun pins s1 σ1 H1 Q1 I hw => hw s0 H0 A cl fp pins s1 I⟩)
        (fun s0 H0 A cl fp => pg_of (cn_blk C.cn.2 s0 H0 scope cl A fp) q4) (fun s0 H0 A cl fp => pts_of ql' s0 H0 A cl fp)
        (fun s0 H0 A cl fp => ⟨fun pins s1 σ1 H1 Q1 I hw => hw s0 H0 A cl fp pins s1 I⟩) (fun x => folded_of k2 _ x) (fun env x => folded_of q2 env x)
      rw [own_map] at rule
      refine rule.run pins s0 σ H D I ?_
      obtain ⟨F1, t1, e1⟩ := t.freeze (esc (.comp2 own vs tg it ifs tg1 it1 ifs1 e2))
      refine comp2_read C.cn.2 (allI it) (allT ifs) (allI it1) (allT ifs1) (allE e2).1 k3 k5 kl k6 q3 q5 ql q6 k7 t1.sr t1.ex t1.src ((keep_post t1 p').mono ?_ fun _ _ _ z => z)
      rintro v H' ⟨m, d, S', F', hm, g, s, w, p2⟩
      exact key m d S' F1 F' v H' hm t1 g s w p2
theorem ss_exp {e : Xp} : SS n G cs (.exp e) := by
  intro X W x C hcs h Fe He σ H F env S D t p
  rw [chkS] at h
  cases hf : fExp x with
  | none => rw [hf] at h; cases h
  | some q =>
  obtain ⟨e', pos⟩ := q
  rw [hf] at h
  have hx := fExp_eq hf
  subst hx
  dsimp only at h
  rw [Bool.and_eq_true] at h
  have hs : swapsWith e' none pos.line X.env = pure false := by
    have := h.1
    cases e' <;> first | rfl | cases this
  rw [exS] at p
  refine .of (ps_expr we hs) (run_e C h.2 t p ?_)
  intro m d S' F1 F' v H' hm t1 g s w p2
  exact p2 F' H' σ (t1.step g s)
theorem we_var {X : Cx} {x : Expr} {i : Nat} {v : V} {σ : L2.St} {H : Hp} {Q : VK} (h : chkE G.np X.N (.var i) X.env.scope x = true) (e : σ[i]? = some (some v)) (q : Q v H) : WE X x σ H Q := by
  cases x <;> (try simp only [chkE, Bool.false_eq_true] at h)
  rename_i x pos
  unfold nmOk at h
  simp only [Bool.and_eq_true, decide_eq_true_eq, Bool.not_eq_true', Bool.not_eq_eq_eq_not, Bool.not_true] at h
  obtain ⟨⟨⟨h1, h2⟩, h3⟩, h4⟩ := h
  exact .of (pe_var h1 (vis_of h2) h3 h4) ⟨v, e, q⟩
theorem ss_ret {e : Xp} : SS n G cs (.ret e) := by
  intro X W x C hcs h Fe He σ H F env S D t p
  rw [chkS] at h
  cases hf : fRet x with
  | none => rw [hf] at h; cases h
  | some q =>
    obtain ⟨e', pos⟩ := q
    rw [hf] at h
    have hx := fRet_eq hf
    subst hx
    dsimp only at h
    have gen : PostS X.K G Fe He ((evE G.T G.cl e (freezeE env (esc e)) S).keep (freezeE env (esc e)) fun m d S => .rt m d S) D W → WSt X (.Return (some e') pos) D σ H := fun p' => by
      refine .of (ps_ret we) (run_e C h t p' ?_)
      intro m d S' F1 F' v H' hm t1 g s w p2
      exact p2.2 v F' H' (t1.gr.trans g) s (w.base fun q hq => t1.gr.back hq)
    by_cases hv : ∃ i, e = .var i
    · obtain ⟨i, rfl⟩ := hv
      rw [exS] at p
      split at p
      · rename_i d hd
        obtain ⟨q, h1, hn, f, n1, n2, o⟩ := t.owned hd
        exact .of (ps_ret we) (we_var h h1 (p.2 _ F H t.gr t.src ⟨q, rfl, hn, f, n1, n2, o⟩))
      · rename_i d hd
        obtain ⟨v, h1, w⟩ := t.sr.2 i false d hd
        exact .of (ps_ret we) (we_var h h1 (p.2 _ F H t.gr t.src w))
      · exact p.elim
    · refine gen ?_
      rw [exS] at p
      · exact p
      · intro i hi
        exact hv ⟨i, hi⟩
theorem ss_retN : SS n G cs .retN := by
  intro X W x C hcs h Fe He σ H F env S D t p
  rw [chkS] at h
  obtain ⟨pos, hf⟩ := Option.isSome_iff_exists.mp h
  have hx := fRetN_eq hf
  subst hx
  rw [exS] at p
  exact .of ps_retN (p.2 _ F H t.gr t.src DR.non)
theorem ss_pass : SS n G cs .pass := by
  intro X W x C hcs h Fe He σ H F env S D t p
  rw [chkS] at h
  obtain ⟨pos, hf⟩ := Option.isSome_iff_exists.mp h
  have hx := fPass_eq hf
  subst hx
  rw [exS] at p
  exact .of ps_pass (p F H σ t)
theorem ss_brk : SS n G cs .brk := by
  intro X W x C hcs h Fe He σ H F env S D t p
  rw [chkS] at h
  obtain ⟨pos, hf⟩ := Option.isSome_iff_exists.mp h
  have hx := fBrk_eq hf
  subst hx
  rw [exS] at p
  exact .of ps_break (p F H σ t)
theorem ss_cnt : SS n G cs .cnt := by
  intro X W x C hcs h Fe He σ H F env S D t p
  rw [chkS] at h
  obtain ⟨pos, hf⟩ := Option.isSome_iff_exists.mp h
  have hx := fCnt_eq hf
  subst hx
  rw [exS] at p
  exact .of ps_continue (p F H σ t)
theorem ss_raise {c : Str} : SS n G cs (.raise c) := by
  intro X W x C hcs h Fe He σ H F env S D t p
  rw [chkS] at h
  cases hf : fRaise x with
  | none => rw [hf] at h; cases h
  | some q =>
  obtain ⟨y, py, cp, pos⟩ := q
  rw [hf] at h
  have hx := fRaise_eq hf
  subst hx
  dsimp only at h
  simp only [Bool.and_eq_true] at h
  obtain ⟨⟨h1, h2⟩, h3⟩ := h
  have h1 := of_decide_eq_true h1
  subst h1
  obtain ⟨A, hA⟩ := Option.isSome_iff_exists.mp (hcs c h3).1
  obtain ⟨g1, g2⟩ := gl_of (X := X) h2
  rw [exS] at p
  exact .of (ps_raise C.cn.1 C.cn.2.takes (pmk0 (C.cn.2.exc c A hA) (C.cn.2.exn c A hA (hcs c h3).2) g1 g2)) (p F H σ _ _ t ⟨A, hA, rfl, rfl, rfl⟩)
/-- a test's branches -/
theorem cond_post {K : PySem.W.Frag} {r : R} {Fe He F H : Hp} {S : Sr} {env : Env} {σ : L2.St} {D : Ends} {W : WX} {a b : Sr → Ro} {o : Ro} (t : Stt K G.sa Fe He F H S env σ) (p : PostS K G Fe He o D W)
    (ho : o = match r with | .ok _ (.bl true) S => a S | .ok _ (.bl false) S => b S | .exc x S => .ex x env S | _ => .bad) :
    Post K G (fun c d H' => W c d σ H') F H r (fun v H' => ∃ k S' F', v = .bl k ∧ Stt K G.sa Fe He F' H' S' env σ ∧ PostS K G Fe He (if k = true then a S' else b S') D W) := by
  subst ho
  cases r with
  | ok m d S1 =>
    intro v F' H' g s w
    cases d with
    | bl k =>
      obtain ⟨rfl, _⟩ := w.bl
      refine ⟨k, S1, F', rfl, t.step g s, ?_⟩
      cases k with
      | true => exact p
      | false => exact p
    | _ => exact p.elim
  | exc x S1 => exact fun c dx F' H' g s z => p F' H' σ c dx (t.step g s) z
  | bad => exact p
theorem ss_ite {c : Xp} {a b : List St} (ha : SL n G cs a) (hb : SL n G cs b) : SS n G cs (.ite c a b) := by
  intro X W x C hcs h Fe He σ H F env S D t p
  rw [chkS] at h
  cases hf : fIf x with
  | none => rw [hf] at h; cases h
  | some q =>
  obtain ⟨c', a', b', pos⟩ := q
  rw [hf] at h
  have hx := fIf_eq hf
  subst hx
  dsimp only at h
  simp only [Bool.and_eq_true] at h
  obtain ⟨⟨h1, h2⟩, h3⟩ := h
  rw [exS] at p
  obtain ⟨F1, t1, e1⟩ := t.freeze (escR c)
  have p' := cond_post (r := evE G.T G.cl c (freezeE env (escR c)) S) (a := fun S => exL G.T G.cl a (freezeE env (escR c)) S) (b := fun S => exL G.T G.cl b (freezeE env (escR c)) S) t1 p (by
    cases evE G.T G.cl c (freezeE env (escR c)) S with
    | ok m d S1 => cases d with
      | bl k => cases k <;> rfl
      | _ => rfl
    | exc => rfl
    | bad => rfl)
  refine .of (ps_if wt wss wss) ((allE (n := n) (G := G) c).2 X W none c' C.cn.2 h1 σ H F1 _ S _ t1.sr t1.ex t1.src (p'.mono ?_ fun _ _ _ z => z))
  rintro v H' ⟨k, S', F', rfl, t2, p2⟩
  refine ⟨k, rfl, ?_⟩
  cases k with
  | true => exact ha X W a' C hcs h2 Fe He σ H' F' _ S' D t2 p2
  | false => exact hb X W b' C hcs h3 Fe He σ H' F' _ S' D t2 p2
theorem ss_whl {c : Xp} {b : List St} (hb : SL n G cs b) : SS n G cs (.whl c b) := by
  intro X W x C hcs h Fe He σ H F env S D t p
  rw [chkS] at h
  cases hf : fWhl x with
  | none => rw [hf] at h; cases h
  | some q =>
  obtain ⟨c', b', pos⟩ := q
  rw [hf] at h
  have hx := fWhl_eq hf
  subst hx
  dsimp only at h
  simp only [Bool.and_eq_true] at h
  obtain ⟨h1, h2⟩ := h
  rw [exS] at p
  refine .of (ps_while C.ps wt wss) ⟨fun m σ H => ∃ F env S, Stt X.K G.sa Fe He F H S env σ ∧ PostS X.K G Fe He (whlL (fun env S => evE G.T G.cl c env S) (fun env S => exL G.T G.cl b env S) m env S) D W, ⟨_, F, env, S, t, p⟩, ?_⟩
  rintro m σ H ⟨F, env, S, t, p⟩
  cases m with
  | zero => exact p.elim
  | succ m =>
    rw [whlL] at p
    have p' := cond_post (r := evE G.T G.cl c env S) (a := fun S => match exL G.T G.cl b env S with
      | .nx env S => whlL (fun env S => evE G.T G.cl c env S) (fun env S => exL G.T G.cl b env S) m env S
      | .ct env S => whlL (fun env S => evE G.T G.cl c env S) (fun env S => exL G.T G.cl b env S) m env S
      | .bk env S => .nx env S
      | o => o) (b := fun S => .nx env S) t p (by
      cases evE G.T G.cl c env S with
      | ok m d S1 => cases d with
        | bl k => cases k <;> rfl
        | _ => rfl
      | exc => rfl
      | bad => rfl)
    refine (allE (n := n) (G := G) c).2 X W none c' C.cn.2 h1 σ H F _ S _ t.sr t.ex t.src (p'.mono ?_ fun _ _ _ z => z)
    rintro v H' ⟨k, S', F', rfl, t2, p2⟩
    refine ⟨k, rfl, ?_⟩
    cases k with
    | false => exact p2 F' H' σ t2
    | true =>
      rw [if_pos rfl]
      rw [if_pos rfl] at p2
      refine ⟨fun σ H => ∃ F env S, Stt X.K G.sa Fe He F H S env σ ∧ PostS X.K G Fe He (whlL (fun env S => evE G.T G.cl c env S) (fun env S => exL G.T G.cl b env S) m env S) D W, fun σ' H' ⟨F, env, S, z⟩ => ⟨m, Nat.lt_succ_self m, F, env, S, z⟩, ?_⟩
      refine hb X W b' C hcs h2 Fe He σ H' F' _ S' _ t2 ?_
      cases hr : exL G.T G.cl b env S' with
      | nx env2 S2 => rw [hr] at p2; exact fun F H σ t3 => ⟨F, env2, S2, t3, p2⟩
      | ct env2 S2 => rw [hr] at p2; exact fun F H σ t3 => ⟨F, env2, S2, t3, p2⟩
      | bk env2 S2 => rw [hr] at p2; exact p2
      | rt m d S2 => rw [hr] at p2; exact p2
      | ex x env2 S2 => rw [hr] at p2; exact p2
      | bad => rw [hr] at p2; exact p2
theorem ss_app {i : Nat} {e : Xp} : SS n G cs (.app i e) := by
  intro X W x C hcs h Fe He σ H F env S D t p
  rw [chkS] at h
  cases hf : fApp x with
  | none => rw [hf] at h; cases h
  | some q =>
  obtain ⟨y, py, nm, apos, e', cpos, pos⟩ := q
  rw [hf] at h
  have hx := fApp_eq hf
  subst hx
  dsimp only at h
  simp only [Bool.and_eq_true] at h
  obtain ⟨⟨⟨⟨h1, h2⟩, h3⟩, h4⟩, h5⟩ := h
  have h2 := of_decide_eq_true h2
  subst h2
  have hv : chkE G.np X.N (.var i) X.env.scope (.Name y py) = true := h1
  rw [exS] at p
  have rule := ps_expr (pos := pos) (pe_bm (X := X) (name := ("append" : Str)) (o := .Name y py) (e := e') (es := []) (apos := apos) (cpos := cpos) PySem.F.plainAttrs_list PySem.F.slot_list_append PySem.F.type_list_append mt_append we wa rfl (by
      rw [star_cons h4]
      rfl) h3 (star_cons h4 _ _) rfl) rfl
  obtain ⟨F1, t1, e1⟩ := t.freeze (esc e)
  generalize hE : freezeE env (esc e) = env1 at p t1
  split at p
  · rename_i xs hi
    obtain ⟨q, k1, hn, f, n1, n2, us, k2, r2⟩ := t1.owned hi
    refine .of rule (we_var hv k1 ⟨.inl ⟨rfl, us, SqL.of k2⟩, ?_⟩)
    refine .of (pa_cons we pa_nil (star_cons h4 _ _)) ?_
    refine (allE (n := n) (G := G) e).1 X W none _ C.cn.2 h5 σ H F1 _ S _ t1.sr t1.ex t1.src ((keep_post t1 p).mono ?_ fun _ _ _ z => z)
    rintro v H' ⟨m, d, S', F', hm, g, s, w, p2⟩
    obtain ⟨F2, g2, e2, s2, r⟩ := w.frozen hm g s
    have t2 := t1.step g2 s2
    have k3 := g2.hh q _ k2 n1 n2
    split at p2
    · rename_i hl
      refine ⟨q, us, v, rfl, rfl, k3, Nat.lt_of_lt_of_le (by rw [r2.length]; exact hl) (szMax_le (Nat.le_refl _)), ?_⟩
      exact p2 _ _ _ (t2.app hi k1 k3 r)
    · exact p2.elim
  · exact p.elim
theorem ss_appT {i : Nat} {e : Xp} : SS n G cs (.appT i e) := by
  intro X W x C hcs h Fe He σ H F env S D t p
  rw [chkS] at h
  cases hf : fApp x with
  | none => rw [hf] at h; cases h
  | some q =>
  obtain ⟨y, py, nm, apos, e', cpos, pos⟩ := q
  rw [hf] at h
  have hx := fApp_eq hf
  subst hx
  dsimp only at h
  simp only [Bool.and_eq_true] at h
  obtain ⟨⟨⟨⟨h1, h2⟩, h3⟩, h4⟩, h5⟩ := h
  have h2 := of_decide_eq_true h2
  subst h2
  have hv : chkE G.np X.N (.var i) X.env.scope (.Name y py) = true := h1
  rw [exS] at p
  have rule := ps_expr (pos := pos) (pe_bm (X := X) (name := ("append" : Str)) (o := .Name y py) (e := e') (es := []) (apos := apos) (cpos := cpos) PySem.F.plainAttrs_list PySem.F.slot_list_append PySem.F.type_list_append mt_append we wa rfl (by
      rw [star_cons h4]
      rfl) h3 (star_cons h4 _ _) rfl) rfl
  split at p
  · rename_i xs hi
    obtain ⟨q, k1, hn, f, n1, n2, us, k2, r2⟩ := t.owned hi
    obtain ⟨F1, t1, e1, kk⟩ := t.freezeT (esc e)
    refine .of rule (we_var hv k1 ⟨.inl ⟨rfl, us, SqL.of k2⟩, ?_⟩)
    refine .of (pa_cons we pa_nil (star_cons h4 _ _)) ?_
    refine (allE (n := n) (G := G) e).1 X W none _ C.cn.2 h5 σ H F1 _ S _ t1.sr t1.ex t1.src ?_
    cases hr : evE G.T G.cl e (freezeE env (esc e)) S with
    | exc x S' => rw [hr] at p; exact p.elim
    | bad => rw [hr] at p; exact p.elim
    | ok m d S' =>
      rw [hr] at p
      dsimp only at p
      split at p
      · rename_i hc
        obtain ⟨hm, hh, hl⟩ := hc
        intro v F' H' g s w
        obtain ⟨F2, g2, e2, s2, r⟩ := w.frozen hm g s
        have r3 := thaw_dr (F := F) g2.ff kk r hh
        have t2 := t.step (thaw_gr e1 g2) (thaw_src s2)
        have k3 := g2.hh q _ k2 n1 n2
        refine ⟨q, us, v, rfl, rfl, k3, Nat.lt_of_lt_of_le (by rw [r2.length]; exact hl) (szMax_le (Nat.le_refl _)), ?_⟩
        exact p _ _ _ (t2.app hi k1 k3 r3)
      · exact p.elim
  · exact p.elim
theorem ss_put {i : Nat} {k e : Xp} : SS n G cs (.put i k e) := by
  intro X W x C hcs h Fe He σ H F env S D t p
  rw [chkS] at h
  cases hf : fPut x with
  | none => rw [hf] at h; cases h
  | some q =>
  obtain ⟨y, py, k', pk, e', pos⟩ := q
  rw [hf] at h
  have hx := fPut_eq hf
  subst hx
  dsimp only at h
  simp only [Bool.and_eq_true] at h
  obtain ⟨⟨⟨⟨h1, h2⟩, h3⟩, h4⟩, h5⟩ := h
  have hv : chkE G.np X.N (.var i) X.env.scope (.Name y py) = true := h1
  have hu := C.cn.2.units
  have ha : ∀ v, assign (.Subscript (.Name y py) k' pk) X.env v = (do
      let ov ← holding [v] (eval (.Name y py) X.env)
      let iv ← holding [v, ov] (eval k' X.env)
      standAt pk
      holding [v, ov, iv] (setItem ov iv v)
      release [v, ov, iv] []) := by
    intro v
    cases k' <;> first | rfl | cases h2
  have hs : swapsWithSole [.Subscript (.Name y py) k' pk] e' pos.line X.env = pure false := by
    cases e' <;> first | rfl | cases h3
  have rule := ps_asg (pos := pos) (we (X := X) (e := e')) (pg_sub (pos := pk) (we (e := .Name y py)) (we (e := k')) (set_dicN (X := X) (by omega)) ha) hs (by first | rfl | (cases e' <;> rfl)) (by rfl)
  rw [exS] at p
  obtain ⟨F1, t1, e1⟩ := t.freeze (esc e ++ escR k)
  generalize hE : freezeE env (esc e ++ escR k) = env1 at p t1
  refine .of rule ?_
  refine (allE (n := n) (G := G) e).1 X W none _ C.cn.2 h5 σ H F1 _ S _ t1.sr t1.ex t1.src ((keep_post t1 p).mono ?_ fun _ _ _ z => z)
  rintro v H' ⟨m, d, S', F', hm, g, s, w, p2⟩
  obtain ⟨F2, g2, e2, s2, r⟩ := w.frozen hm g s
  have t2 := t1.step g2 s2
  split at p2
  · rename_i ds hi
    obtain ⟨q, k1, hn, f, n1, n2, ob, kvs, ho, r2⟩ := t2.owned hi
    refine we_var hv k1 ?_
    refine (allE (n := n) (G := G) k).1 X W none _ C.cn.2 h4 σ H' F2 _ S' _ t2.sr t2.ex t2.src ((keep_post t2 p2).mono ?_ fun _ _ _ z => z)
    rintro v2 H2 ⟨m2, kd, S2, F3, hm2, g3, s3, w3, p3⟩
    have t3 := t2.step g3 s3
    cases hk : kd.nk with
    | none => rw [hk] at p3; exact p3.elim
    | some nk =>
      rw [hk] at p3
      dsimp only at p3
      split at p3
      · rename_i hl
        have w4 : DR X.K G.sa F3 v2 kd := by
          obtain ⟨⟨ts, rfl⟩, _⟩ := nk_of hk
          obtain ⟨b, us, rfl, z1, z2⟩ := w3.tup
          exact .tup z1 z2
        obtain ⟨b, rfl, kin⟩ := w3.keyIn g3.fh hk
        have r3 := r2.mono g3.ff
        have ho3 := g3.hh q _ ho n1 n2
        have ho4 : H2 q = some (dicO X.prog X.w q ob kvs) := by rw [dicPW C.cn.2.pw]; exact ho3
        refine ⟨q, b, ob, kvs, nk, rfl, rfl, ho4, r3.keysIn g3.fh, kin, ?_, fun o' => ?_⟩
        · rw [r3.length]
          exact Nat.lt_of_lt_of_le hl (szMax_le (Nat.le_refl _))
        · refine p3 _ _ _ (t3.wr hi k1 ⟨o', _, by rw [upd_same, dicPW C.cn.2.pw], r3.put w4 hk (r.mono g3.ff)⟩)
      · exact p3.elim
  · exact p2.elim
theorem ss_nil2 {i j : Nat} : SS n G cs (.nil2 i j) := by
  intro X W x C hcs h Fe He σ H F env S D t p
  rw [chkS] at h
  cases hf : fNil2 x with
  | none => rw [hf] at h; cases h
  | some q =>
  obtain ⟨ts, kt, pt, p1, p2, kv, pv, pos⟩ := q
  rw [hf] at h
  have hx := fNil2_eq hf
  subst hx
  dsimp only at h
  rw [Bool.and_eq_true] at h
  obtain ⟨h1, h2⟩ := h
  have h3 : stB X.env.scope ts [.List [] p1, .List [] p2] = some none := by
    split at h2
    · assumption
    · cases h2
  have hsw : swapsWithSole [.Tuple ts kt pt] (.Tuple [.List [] p1, .List [] p2] kv pv) pos.line X.env = pure false := rfl
  rw [exS] at p
  intro pins s0 I
  have hk := I.ok.kind
  refine WSt.of (ps_asg (pe_tup (x1 := kv) (pos := pv) (pa_cons (pe_lst (pos := p1) pa_nil) (pa_cons (pe_lst (pos := p2) pa_nil) pa_nil rfl) rfl)) (pg_of C.cn.2 h1) hsw (st_eq hk h3)) ?_ pins s0 I
  refine ⟨Nat.zero_le _, fun a na => ⟨Nat.zero_le _, fun b nb => ⟨show 2 ≤ sizeLine by decide, fun c nc => ?_⟩⟩⟩
  have fresh : ∀ {H2 : Hp} {d : Addr} (e2 : Evl.Ex F H2), H2 d = none → F d = none := fun e2 hd => fresh_back e2 hd
  have t1 := t.setN (i := i) (p := a) (d := .lst []) (Gr.new t.ex na) (t.src.new na) na (fresh t.ex na) (fun z => t.src.n1 (by rw [← z]; exact na)) (fun z => t.src.n2 (by rw [← z]; exact na)) ⟨[], upd_same, .nil⟩
  have t2 := t1.setN (i := j) (p := b) (d := .lst []) (Gr.new t1.ex nb) (t1.src.new nb) nb (fresh t1.ex nb) (fun z => t1.src.n1 (by rw [← z]; exact nb)) (fun z => t1.src.n2 (by rw [← z]; exact nb)) ⟨[], upd_same, .nil⟩
  have t3 := t2.step (Gr.new (o := .tup [.ref a, .ref b]) t2.ex nc) (t2.src.new nc)
  exact ⟨c, [.ref a, .ref b], rfl, SqT.of upd_same, rfl, .ref a, [.ref b], rfl, .ref b, [], rfl, rfl, p _ _ _ t3⟩
/-- targets, in a body's state -/
theorem gOfs_runS {K : PySem.W.Frag} {sa : Sa} {Fe He F H : Hp} {S : Sr} {C : L2.St → Hp → Prop} : ∀ {is : List Nat} {vs : List V} {ds : List Mp.D} {env : Env} {σ : L2.St}, DRs K sa F vs ds → is.length = ds.length → Stt K sa Fe He F H S env σ →
    (∀ σ2, Stt K sa Fe He F H S ((is.zip ds).foldl (fun e p => e.set p.1 (some (false, p.2))) env) σ2 → C σ2 H) → gOfs is vs σ H C
  | [], _, _, env, σ, .nil, _, t, k => ⟨rfl, k σ t⟩
  | [], _, _, env, σ, .cons _ _, h, _, _ => by simp at h
  | i :: is, _, _, env, σ, .nil, h, _, _ => by simp at h
  | i :: is, _, _, env, σ, .cons (v := v) (d := d) r rs, h, t, k => by
    refine ⟨v, _, rfl, ?_⟩
    show gOfs is _ (σ.set i (some v)) H C
    exact gOfs_runS rs (by simpa using h) (t.setF r) k
theorem gOf_runS {K : PySem.W.Frag} {sa : Sa} {Fe He F H : Hp} {S : Sr} {C : L2.St → Hp → Prop} {tg : Tg} {v : V} {d : Mp.D} {env env' : Env} {σ : L2.St} (r : DR K sa F v d) (ht : tgD tg d env = some env') (t : Stt K sa Fe He F H S env σ)
    (k : ∀ σ2, Stt K sa Fe He F H S env' σ2 → C σ2 H) : gOf K tg v σ H C := by
  cases tg with
  | nm i =>
    cases ht
    exact k _ (t.setF r)
  | tp is =>
    unfold tgD at ht
    cases d with
    | tup ds =>
      have ht' : (if is.length = ds.length then some ((is.zip ds).foldl (fun e p => e.set p.1 (some (false, p.2))) env) else none) = some env' := ht
      split at ht'
      · rename_i hl
        cases ht'
        cases r with
        | tup h rs => exact ⟨_, _, rfl, ex_t t.ex h, by rw [rs.length, hl], gOfs_runS rs hl t k⟩
      · cases ht'
    | _ => cases ht
theorem ss_for {tg : Tg} {it : It} {b : List St} (hb : SL n G cs b) : SS n G cs (.for_ tg it b) := by
  intro X W x C hcs h Fe He σ H F env S D t p
  rw [chkS] at h
  cases hf : fFor x with
  | none => rw [hf] at h; cases h
  | some q =>
  obtain ⟨tg', it', b', pos⟩ := q
  rw [hf] at h
  have hx := fFor_eq hf
  subst hx
  dsimp only at h
  simp only [Bool.and_eq_true] at h
  obtain ⟨⟨⟨h1, h2⟩, h3⟩, h4⟩ := h
  rw [exS] at p
  obtain ⟨F1, t1, e1⟩ := t.freeze (escF it)
  refine .of (ps_for C.ps C.cn.1 wi (pg_of C.cn.2 h3) wss (folded_of h1 _)) ?_
  refine (allI (n := n) (G := G) it) X W none it' tg' C.cn.2 h2 σ H F1 _ S _ t1.sr t1.ex t1.src ?_
  generalize hE : freezeE env (escF it) = env1 at p t1 ⊢
  cases hI : evI G.T G.cl it env1 S with
  | bad => rw [hI] at p; exact p
  | exc y S1 =>
    rw [hI] at p
    exact fun c dx F' H' g s z => p F' H' σ c dx (t1.step g s) z
  | ok br ds S1 =>
    rw [hI] at p
    cases br with
    | true => exact p.elim
    | false =>
    intro J F0 H0 g0 hz s0 wd
    obtain ⟨GG, Y, hW, _, hG2, hY⟩ := wd.ex
    have t2 := t1.step g0 s0
    have p2 : PostS X.K G F0 He (forL (fun d env S => match tgD tg d env with
      | some env => exL G.T G.cl b env S
      | none => .bad) ds env1 S1) D W := PostS.later p t2.gr.ff t2.gr.nw
    generalize hff : (fun (d : Mp.D) (env : Env) (S : Sr) => (match tgD tg d env with
      | some env => exL G.T G.cl b env S
      | none => Ro.bad : Ro)) = ff at p2
    refine for_it hW (fun i σ H => ∃ F env S, Stt X.K G.sa F0 He F H S env σ ∧ PostS X.K G F0 He (forL ff (ds.drop i) env S) D W) ⟨F0, env1, S1, t2.later, p2⟩ ?_ ?_ ?_
    · rintro i σ H _ ⟨F, env, S, t3, _⟩
      exact hG2 rfl F H t3.gr.ff t3.ex
    · rintro i x σ H H' hi ⟨F, env, S, t3, p3⟩ hy
      obtain ⟨d, F', hdi, g2, s2, rx⟩ := hY i F H x H' t3.gr.ff t3.ex (hG2 rfl F H t3.gr.ff t3.ex) hy
      rw [drop_cons hdi, forL] at p3
      have t4 := t3.step g2 (s2 S t3.src)
      cases hT : tgD tg d env with
      | none =>
        have : ff d env S = .bad := by rw [← hff]; dsimp only; rw [hT]
        rw [this] at p3
        exact p3.elim
      | some env' =>
        have e2 : ff d env S = exL G.T G.cl b env' S := by rw [← hff]; dsimp only; rw [hT]
        rw [e2] at p3
        refine gOf_runS rx hT t4 fun σ2 t5 => ?_
        refine hb X W b' C hcs h4 F0 He σ2 H' F' env' S _ t5 ?_
        cases hr : exL G.T G.cl b env' S with
        | nx env2 S2 => rw [hr] at p3; exact fun F H σ t3 => ⟨F, env2, S2, t3, p3⟩
        | ct env2 S2 => rw [hr] at p3; exact fun F H σ t3 => ⟨F, env2, S2, t3, p3⟩
        | bk env2 S2 => rw [hr] at p3; exact p3
        | rt m d S2 => rw [hr] at p3; exact p3
        | ex x env2 S2 => rw [hr] at p3; exact p3
        | bad => rw [hr] at p3; exact p3
    · rintro σ H ⟨F, env, S, t3, p3⟩
      rw [List.drop_length, forL] at p3
      exact p3 F H σ t3
theorem ss_asgT {tg : Tg} {e : Xp} : SS n G cs (.asgT tg e) := by
  intro X W x C hcs h Fe He σ H F env S D t p
  rw [chkS] at h
  cases hf : fAsgT x with
  | none => rw [hf] at h; cases h
  | some q =>
  obtain ⟨t', e', pos⟩ := q
  rw [hf] at h
  have hx := fAsgT_eq hf
  subst hx
  dsimp only at h
  simp only [Bool.and_eq_true] at h
  obtain ⟨⟨h1, h2⟩, h3⟩ := h
  have p' : PostS X.K G Fe He ((evE G.T G.cl e (freezeE env (esc e)) S).keep (freezeE env (esc e)) fun m d S => match tgD tg d (freezeE env (esc e)) with
    | some env => .nx env S
    | none => .bad) D W := by
    rw [exS] at p
    exact p
  unfold chkTgt at h3
  cases ht : fTup t' with
  | none => rw [ht] at h3; cases h3
  | some q =>
  obtain ⟨ts, kt, pt⟩ := q
  rw [ht] at h3
  have hx := fTup_eq ht
  subst hx
  have htp : ∃ is, tg = .tp is := by
    cases tg with
    | nm i => simp [chkTg] at h1
    | tp is => exact ⟨is, rfl⟩
  obtain ⟨is, rfl⟩ := htp
  have hsw : swapsWithSole [.Tuple ts kt pt] e' pos.line X.env = pure false := by
    cases e' <;> rfl
  have frm : ∀ (ds : List Mp.D) m d S' F1 F' v H', m ≠ .br → Stt X.K G.sa Fe He F1 H S (freezeE env (esc e)) σ → Gr G.sa F1 H F' H' → SrcR G.sa F' H' S' → VR X.K G.sa m H F' H' v d →
      PostS X.K G Fe He (match tgD (.tp is) d (freezeE env (esc e)) with | some env => .nx env S' | none => .bad) D W → gOf X.K (.tp is) v σ H' D.nx := by
    intro _ m d S' F1 F' v H' hm t1 g s w p2
    cases hT : tgD (.tp is) d (freezeE env (esc e)) with
    | none => rw [hT] at p2; exact p2.elim
    | some env' =>
      rw [hT] at p2
      have hd : ∃ ds, d = .tup ds := by
        unfold tgD at hT
        cases d <;> first | exact ⟨_, rfl⟩ | cases hT
      obtain ⟨ds, rfl⟩ := hd
      cases m with
      | br => exact absurd rfl hm
      | fr => obtain ⟨_, _, _, _, _, _, o⟩ := w; exact o.elim
      | fz => exact gOf_runS w hT (t1.step g s) fun σ2 t2 => p2 _ _ _ t2
  intro pins s0 I
  have hk := I.ok.kind
  have gen : swappedStores [.Tuple ts kt pt] e' X.env = pure none → WSt X (.Assign [.Tuple ts kt pt] e' pos) D σ H := fun hw =>
    .of (ps_asg we (pg_of C.cn.2 h1) hsw hw) (run_e C h2 t p' (frm []))
  cases hv : fTup e' with
  | none =>
    refine gen ?_ pins s0 I
    unfold swappedStores
    cases e' <;> first | rfl | cases hv
  | some q =>
    obtain ⟨vs, kv, pv⟩ := q
    rw [hv] at h3
    have hx := fTup_eq hv
    subst hx
    dsimp only at h3
    cases hs : stB X.env.scope ts vs with
    | none => rw [hs] at h3; cases h3
    | some r =>
      rw [hs] at h3
      cases r with
      | none => exact gen (st_eq hk hs) pins s0 I
      | some names =>
        dsimp only at h3
        cases k1 : fIJ (.tp is) with
        | none => rw [k1] at h3; cases h3
        | some ij =>
        cases k2 : fPair ts with
        | none => rw [k1, k2] at h3; cases h3
        | some xy =>
        cases k3 : fTwo vs with
        | none => rw [k1, k2, k3] at h3; cases h3
        | some ab =>
        cases k4 : fXp2 e with
        | none => rw [k1, k2, k3, k4] at h3; cases h3
        | some ee =>
        rw [k1, k2, k3, k4] at h3
        obtain ⟨i, j⟩ := ij
        obtain ⟨x, px, y, py⟩ := xy
        obtain ⟨a, b⟩ := ab
        obtain ⟨ea, eb⟩ := ee
        have q1 := fIJ_eq k1
        cases q1
        have q2 := fPair_eq k2
        subst q2
        have q3 := fTwo_eq k3
        subst q3
        have q4 := fXp2_eq k4
        subst q4
        simp only [Bool.and_eq_true, decide_eq_true_eq] at h3
        obtain ⟨⟨⟨⟨⟨m1, m2⟩, m3⟩, m4⟩, m5⟩, m6⟩ := h3
        subst m4
        have rule := ps_par (X := X) (pos := pos) (kt := kt) (k2 := kv) (pt := pt) (pt2 := pv) (px := px) (py := py) C.cn.1 C.cn.2.nd m2 m3 m1 m5 m6 wa (st_eq (k := kt) (p := pt) (k2 := kv) (p2 := pv) hk hs) hsw
        refine rule.run pins s0 σ H D I ?_
        have h2' : chkEs G.np X.N [ea, eb] X.env.scope [a, b] = true := by
          rw [chkE, Bool.and_eq_true] at h2
          exact h2.2
        obtain ⟨F1, t1, e1⟩ := t.freeze (esc (.tup [ea, eb]))
        refine (allA (n := n) (G := G) [ea, eb]) X W none [a, b] C.cn.2 h2' σ H F1 _ S _ t1.sr t1.ex t1.src ?_
        have ee : evE G.T G.cl (.tup [ea, eb]) (freezeE env (esc (.tup [ea, eb]))) S = (evEs G.T G.cl [ea, eb] (freezeE env (esc (.tup [ea, eb]))) S).b fun ds S => .ok .fz (.tup ds) S := by rw [evE]
        rw [ee] at p'
        cases hr : evEs G.T G.cl [ea, eb] (freezeE env (esc (.tup [ea, eb]))) S with
        | bad => rw [hr] at p'; exact p'.elim
        | exc y S2 =>
          rw [hr] at p'
          exact fun c dx F' H' g s z => p' F' H' σ c dx (t1.step g s) z
        | ok ds S2 =>
          rw [hr] at p'
          intro ws F' H' g s r
          have p2 : PostS X.K G Fe He (match tgD (.tp [i, j]) (.tup ds) (freezeE env (esc (.tup [ea, eb]))) with | some env => .nx env S2 | none => .bad) D W := p'
          rcases ds with _ | ⟨d1, _ | ⟨d2, _ | _⟩⟩
          · exact p2.elim
          · exact p2.elim
          · cases r with
            | cons r1 r' =>
            cases r' with
            | cons r2 r' =>
            cases r'
            have p3 : PostS X.K G Fe He (.nx (((freezeE env (esc (.tup [ea, eb]))).set i (some (false, d1))).set j (some (false, d2))) S2) D W := p2
            exact ⟨_, _, rfl, p3 F' H' _ (((t1.step g s).setF r1).setF r2)⟩
          · rename_i d3 d4
            have : tgD (.tp [i, j]) (.tup (d1 :: d2 :: d3 :: d4)) (freezeE env (esc (.tup [ea, eb]))) = none := by
              unfold tgD
              exact if_neg (by simp)
            rw [this] at p2
            exact p2.elim
theorem ss_asgN {i : Nat} {e : Xp} {j : Nat} : SS n G cs (.asgN i e j) := by
  intro X W x C hcs h Fe He σ H F env S D t p
  rw [chkS] at h
  cases hf : fAsgT x with
  | none => rw [hf] at h; cases h
  | some q =>
  obtain ⟨t', v', pos⟩ := q
  rw [hf] at h
  have hx := fAsgT_eq hf
  subst hx
  dsimp only at h
  cases ht : fTup t' with
  | none => rw [ht] at h; cases h
  | some q =>
  obtain ⟨ts, kt, pt⟩ := q
  have hx := fTup_eq ht
  subst hx
  cases hv : fTup v' with
  | none => rw [ht, hv] at h; cases h
  | some q =>
  obtain ⟨vs, kv, pv⟩ := q
  have hx := fTup_eq hv
  subst hx
  rw [ht, hv] at h
  dsimp only at h
  cases k2 : fPair ts with
  | none => rw [k2] at h; cases h
  | some xy =>
  cases k3 : fTwo vs with
  | none => rw [k2, k3] at h; cases h
  | some ab =>
  rw [k2, k3] at h
  obtain ⟨x, px, y, py⟩ := xy
  obtain ⟨a, b⟩ := ab
  have q2 := fPair_eq k2
  subst q2
  have q3 := fTwo_eq k3
  subst q3
  simp only [Bool.and_eq_true, decide_eq_true_eq] at h
  obtain ⟨⟨⟨⟨⟨⟨⟨⟨⟨m1, m2⟩, m3⟩, m4⟩, m5⟩, m6⟩, m7⟩, m8⟩, m9⟩, m10⟩ := h
  have p' : PostS X.K G Fe He ((evE G.T G.cl e (freezeE env (esc e)) S).keep (freezeE env (esc e)) fun _ d S => .nx (((freezeE env (esc e)).set i (some (false, d))).set j (some (true, .lst []))) S) D W := by
    rw [exS] at p
    exact p
  intro pins s0 I
  have hk := I.ok.kind
  have hsw : swapsWithSole [.Tuple [.Name x px, .Name y py] kt pt] (.Tuple [a, b] kv pv) pos.line X.env = pure false := rfl
  have rule := ps_par (X := X) (pos := pos) (kt := kt) (k2 := kv) (pt := pt) (pt2 := pv) (px := px) (py := py) C.cn.1 C.cn.2.nd m2 m3 m1 m5 m6 (pa_cons (we (e := a)) (pa_cons (we (e := b)) pa_nil (star_cons m8 _ _)) (star_cons m7 _ _)) (st_eq (k := kt) (p := pt) (k2 := kv) (p2 := pv) hk m4) hsw
  refine rule.run pins s0 σ H D I ?_
  refine run_e C m9 t p' ?_
  intro m d S' F1 F' v H' hm t1 g s w p2
  obtain ⟨F2, g2, e2, s2, r⟩ := w.frozen hm g s
  have t2 := (t1.step g2 s2).setF (i := i) r
  refine (allE (n := n) (G := G) (.lst [])).1 X W none b C.cn.2 m10 σ H' F2 _ S' _ (t1.step g2 s2).sr g2.fh s2 ?_
  rw [evE, evEs]
  intro v2 F3 H3 g3 s3 w3
  obtain ⟨q, rfl, hn, f, n1, n2, o⟩ := w3
  exact ⟨_, _, rfl, p2 F3 H3 _ (t2.setN g3 s3 hn f n1 n2 o)⟩
theorem ss_asgB {i : Nat} {e : Xp} {j l : Nat} {bb : Bool} : SS n G cs (.asgB i e j l bb) := by
  intro X W x C hcs h Fe He σ H F env S D t p
  rw [chkS] at h
  cases hf : fAsgT x with
  | none => rw [hf] at h; cases h
  | some q =>
  obtain ⟨t', v', pos⟩ := q
  rw [hf] at h
  have hx := fAsgT_eq hf
  subst hx
  dsimp only at h
  cases ht : fTup t' with
  | none => rw [ht] at h; cases h
  | some q =>
  obtain ⟨ts, kt, pt⟩ := q
  have hx := fTup_eq ht
  subst hx
  cases hv : fTup v' with
  | none => rw [ht, hv] at h; cases h
  | some q =>
  obtain ⟨vs, kv, pv⟩ := q
  have hx := fTup_eq hv
  subst hx
  rw [ht, hv] at h
  dsimp only at h
  cases k2 : fTri ts with
  | none => rw [k2] at h; cases h
  | some xy =>
  cases k3 : fThree vs with
  | none => rw [k2, k3] at h; cases h
  | some ab =>
  rw [k2, k3] at h
  obtain ⟨x, px, y, py, z, pz⟩ := xy
  obtain ⟨a, b, c⟩ := ab
  have q2 := fTri_eq k2
  subst q2
  have q3 := fThree_eq k3
  subst q3
  simp only [Bool.and_eq_true, decide_eq_true_eq] at h
  obtain ⟨⟨⟨⟨⟨⟨⟨⟨⟨⟨⟨⟨⟨⟨⟨m1, m1b⟩, m1c⟩, m2⟩, m3⟩, m3b⟩, m4⟩, m5⟩, m6⟩, m6b⟩, m7⟩, m8⟩, m8b⟩, m9⟩, m10⟩, m11⟩ := h
  obtain ⟨kc, pc, rfl⟩ : ∃ kc pc, c = .Constant (.bool bb) kc pc := by
    cases c <;> (try simp only [chkE, Bool.false_eq_true] at m11)
    rename_i c k pos
    cases c <;> (try simp only [chkE, Bool.false_eq_true] at m11)
    have := eq_of_beq m11
    subst this
    exact ⟨_, _, rfl⟩
  have p' : PostS X.K G Fe He ((evE G.T G.cl e (freezeE env (esc e)) S).keep (freezeE env (esc e)) fun _ d S => .nx ((((freezeE env (esc e)).set i (some (false, d))).set j (some (true, .lst []))).set l (some (false, .bl bb))) S) D W := by
    rw [exS] at p
    exact p
  intro pins s0 I
  have hk := I.ok.kind
  have hsw : swapsWithSole [.Tuple [.Name x px, .Name y py, .Name z pz] kt pt] (.Tuple [a, b, .Constant (.bool bb) kc pc] kv pv) pos.line X.env = pure false := rfl
  have rule := ps_par3 (X := X) (pos := pos) (kt := kt) (k2 := kv) (pt := pt) (pt2 := pv) (px := px) (py := py) (pz := pz) C.cn.1 C.cn.2.nd m2 m3 m3b m1 m1b m1c m5 m6 m6b (pa_cons (we (e := a)) (pa_cons (we (e := b)) (pa_cons (pe_bl (b := bb)) pa_nil (star_cons m8b _ _)) (star_cons m8 _ _)) (star_cons m7 _ _)) (st_eq (k := kt) (p := pt) (k2 := kv) (p2 := pv) hk m4) hsw
  refine rule.run pins s0 σ H D I ?_
  refine run_e C m9 t p' ?_
  intro m d S' F1 F' v H' hm t1 g s w p2
  obtain ⟨F2, g2, e2, s2, r⟩ := w.frozen hm g s
  have t2 := (t1.step g2 s2).setF (i := i) r
  refine (allE (n := n) (G := G) (.lst [])).1 X W none b C.cn.2 m10 σ H' F2 _ S' _ (t1.step g2 s2).sr g2.fh s2 ?_
  rw [evE, evEs]
  intro v2 F3 H3 g3 s3 w3
  obtain ⟨q, rfl, hn, f, n1, n2, o⟩ := w3
  exact ⟨_, _, _, rfl, p2 F3 H3 _ ((t2.setN g3 s3 hn f n1 n2 o).setF (i := l) (.bl bb))⟩
theorem ss_asg3 {i j l : Nat} {es : List Xp} : SS n G cs (.asg3 i j l es) := by
  intro X W x C hcs h Fe He σ H F env S D t p
  rw [chkS] at h
  cases hf : fAsgT x with
  | none => rw [hf] at h; cases h
  | some q =>
  obtain ⟨t', v', pos⟩ := q
  rw [hf] at h
  have hx := fAsgT_eq hf
  subst hx
  dsimp only at h
  cases ht : fTup t' with
  | none => rw [ht] at h; cases h
  | some q =>
  obtain ⟨ts, kt, pt⟩ := q
  have hx := fTup_eq ht
  subst hx
  cases hv : fTup v' with
  | none => rw [ht, hv] at h; cases h
  | some q =>
  obtain ⟨vs, kv, pv⟩ := q
  have hx := fTup_eq hv
  subst hx
  rw [ht, hv] at h
  dsimp only at h
  cases k2 : fTri ts with
  | none => rw [k2] at h; cases h
  | some xy =>
  cases k3 : fThree vs with
  | none => rw [k2, k3] at h; cases h
  | some ab =>
  rw [k2, k3] at h
  obtain ⟨x, px, y, py, z, pz⟩ := xy
  obtain ⟨a, b, c⟩ := ab
  have q2 := fTri_eq k2
  subst q2
  have q3 := fThree_eq k3
  subst q3
  simp only [Bool.and_eq_true, decide_eq_true_eq] at h
  obtain ⟨⟨⟨⟨⟨⟨⟨⟨⟨⟨m1, m1b⟩, m1c⟩, m2⟩, m3⟩, m3b⟩, m4⟩, m5⟩, m6⟩, m6b⟩, m7⟩ := h
  intro pins s0 I
  have hk := I.ok.kind
  have hsw : swapsWithSole [.Tuple [.Name x px, .Name y py, .Name z pz] kt pt] (.Tuple [a, b, c] kv pv) pos.line X.env = pure false := rfl
  have rule := ps_par3 (X := X) (pos := pos) (kt := kt) (k2 := kv) (pt := pt) (pt2 := pv) (px := px) (py := py) (pz := pz) C.cn.1 C.cn.2.nd m2 m3 m3b m1 m1b m1c m5 m6 m6b wa (st_eq (k := kt) (p := pt) (k2 := kv) (p2 := pv) hk m4) hsw
  refine rule.run pins s0 σ H D I ?_
  obtain ⟨F1, t1, e1⟩ := t.freeze (escs es)
  refine (allA (n := n) (G := G) es) X W none [a, b, c] C.cn.2 m7 σ H F1 _ S _ t1.sr t1.ex t1.src ?_
  rw [exS] at p
  cases hr : evEs G.T G.cl es (freezeE env (escs es)) S with
  | bad => rw [hr] at p; exact p.elim
  | exc y S2 =>
    rw [hr] at p
    exact fun c dx F' H' g s z => p F' H' σ c dx (t1.step g s) z
  | ok ds S2 =>
    rw [hr] at p
    intro ws F' H' g s r
    rcases ds with _ | ⟨d1, _ | ⟨d2, _ | ⟨d3, _ | _⟩⟩⟩
    · exact p.elim
    · exact p.elim
    · exact p.elim
    · cases r with
      | cons r1 r' =>
      cases r' with
      | cons r2 r' =>
      cases r' with
      | cons r3 r' =>
      cases r'
      exact ⟨_, _, _, rfl, p F' H' _ ((((t1.step g s).setF r1).setF r2).setF r3)⟩
    · exact p.elim
theorem cns_tr {X : Cx} {W W' : WX} {pn : List (Addr × Obj)} {xe : Value → Shared → Prop} (C : CnS X n G W) (tk : Takes (X.tr pn xe) W') (po : PassesOwn (model X.prog X.w) X.A X.env xe) : CnS (X.tr pn xe) n G W' where
  cn := ⟨C.cn.1, {
    room := C.cn.2.room
    calm := C.cn.2.calm
    nd := C.cn.2.nd
    fns := C.cn.2.fns
    con := C.cn.2.con
    blt := C.cn.2.blt
    exc := fun c D h => ⟨(C.cn.2.exc c D h).mg, (C.cn.2.exc c D h).kp, (C.cn.2.exc c D h).bs, (C.cn.2.exc c D h).ty, (C.cn.2.exc c D h).ec⟩
    exn := C.cn.2.exn
    ini := C.cn.2.ini
    cls := C.cn.2.cls
    sub := C.cn.2.sub
    fn := C.cn.2.fn
    takes := tk
    pw := C.cn.2.pw }⟩
  st := C.st
  fr := C.fr
  ex := C.ex
  ps := po
theorem ss_tryAs {b : List St} {c : Str} {i j : Nat} (hb : SL n G cs b) : SS n G cs (.tryAs b c i j) := by
  intro X W x C hcs h Fe He σ H F env S D t p
  rw [chkS] at h
  cases hf : fTryAs x with
  | none => rw [hf] at h; cases h
  | some q =>
  rw [hf] at h
  have hx := fTryAs_eq hf
  subst hx
  dsimp only at h
  simp only [Bool.and_eq_true, decide_eq_true_eq, Bool.not_eq_true'] at h
  obtain ⟨⟨⟨⟨⟨⟨⟨⟨⟨h1, h2⟩, h3⟩, h4⟩, h5⟩, h6⟩, h7⟩, h8⟩, h9⟩, h10⟩ := h
  rw [exS] at p
  split at p
  · rename_i hc
    obtain ⟨cv, v, rv, kv, nv, kn, ks⟩ := C.cn.2.sub _ hc
    obtain ⟨g1, g2⟩ := gl_of (X := X) h2
    have rule := ps_keep (X := X) (c := cv) (i := i) (j := j) (body := q.body) (xp := q.xp) (hp := q.hp) (tp := q.tp) (yp := q.yp) (np := q.np) (sp := q.sp) (Wout := W)
      (tb := fun W' D σ H => ∀ pn xe, Takes (X.tr pn xe) W' → PassesOwn (model X.prog X.w) X.A X.env xe → WSs (X.tr pn xe) q.body D σ H) C.st C.fr C.ex C.cn.2.nd h3 h4 h5 h6 h7 h8 h9 ⟨g1, g2, by rw [← h1]; exact nv⟩ C.cn.2.takes
      (fun W' pn xe tk po => ⟨fun pins s σ H D I hw => hw pn xe tk po pins s I⟩)
    refine .of rule fun pn xe tk po => hb (X.tr pn xe) _ q.body (cns_tr C tk po) hcs h10 Fe He σ H F env S D t ?_
    cases hr : exL G.T G.cl b env S with
    | nx env2 S2 => rw [hr] at p; exact p
    | ct env2 S2 => rw [hr] at p; exact p
    | bk env2 S2 => rw [hr] at p; exact p
    | rt m d S2 => rw [hr] at p; exact p
    | bad => rw [hr] at p; exact p
    | ex y env2 S2 =>
      rw [hr] at p
      intro F2 H2 σ2 cv2 dx t2 xr
      cases y with
      | exc nm fs =>
        obtain ⟨A, hA, rfl, rfl, rfl⟩ := xr
        refine ⟨G.T.sub nm c, (ks nm A hA).1, fun hb a ha => ?_, fun hb => ?_⟩
        · have p2 : PostS X.K G Fe He (if G.T.sub nm c = true then .nx ((env2.set j (some (false, .exc nm []))).set i none) S2 else .ex (.exc nm []) env2 S2) D W := p
          rw [if_pos hb] at p2
          have a1 : a ≠ G.sa.s1 := fun z => t2.src.n1 (by rw [← z]; exact ha)
          have a2 : a ≠ G.sa.s2 := fun z => t2.src.n2 (by rw [← z]; exact ha)
          exact p2 _ _ _ (((t2.step (Gr.newF t2.ex ha) ((t2.src.new ha).fz a1 a2)).setF (DR.exc hA upd_same)).unset)
        · have p2 : PostS X.K G Fe He (if G.T.sub nm c = true then .nx ((env2.set j (some (false, .exc nm []))).set i none) S2 else .ex (.exc nm []) env2 S2) D W := p
          rw [if_neg (by rw [hb]; decide)] at p2
          exact p2 F2 H2 σ2 _ _ t2 ⟨A, hA, rfl, rfl, rfl⟩
      | _ => exact xr.elim
  · exact p.elim
theorem ss_tryRN {b : List St} {c : Str} (hb : SL n G cs b) : SS n G cs (.tryRN b c) := by
  intro X W x C hcs h Fe He σ H F env S D t p
  rw [chkS] at h
  cases hf : fTryRN x with
  | none => rw [hf] at h; cases h
  | some q =>
  obtain ⟨body, x, xp, v, rp, hp, tp⟩ := q
  rw [hf] at h
  have hx := fTryRN_eq hf
  subst hx
  dsimp only at h
  simp only [Bool.and_eq_true, decide_eq_true_eq] at h
  obtain ⟨⟨⟨h1, h2⟩, h3⟩, h4⟩ := h
  rw [exS] at p
  split at p
  · rename_i hc
    obtain ⟨cv, v', rv, kv, nv, kn, ks⟩ := C.cn.2.sub _ hc
    obtain ⟨g1, g2⟩ := gl_of (X := X) h2
    have rule := ps_try_only (X := X) (c := cv) (body := body) (b₀ := .Return v rp) (suite := []) (np := xp) (pos' := hp) (pos := tp) (Wout := W)
      (tb := fun W' D σ H => ∀ pn xe, Takes (X.tr pn xe) W' → PassesOwn (model X.prog X.w) X.A X.env xe → WSs (X.tr pn xe) body D σ H) (ts := fun _ _ _ D _ H => D.rt .non H) C.st C.fr ⟨g1, g2, by rw [← h1]; exact nv⟩ C.cn.2.takes
      (fun W' pn xe tk po => ⟨fun pins s σ H D I hw => hw pn xe tk po pins s I⟩) (fun a oe cls d pn _ _ => by
        unfold isNone at h3
        split at h3
        · exact pss_one ps_retN
        · exact pss_one (ps_ret pe_non)
        · cases h3)
    refine .of rule fun pn xe tk po => hb (X.tr pn xe) _ body (cns_tr C tk po) hcs h4 Fe He σ H F env S D t ?_
    cases hr : exL G.T G.cl b env S with
    | nx env2 S2 => rw [hr] at p; exact p
    | ct env2 S2 => rw [hr] at p; exact p
    | bk env2 S2 => rw [hr] at p; exact p
    | rt m d S2 => rw [hr] at p; exact p
    | bad => rw [hr] at p; exact p
    | ex y env2 S2 =>
      rw [hr] at p
      intro F2 H2 σ2 cv2 dx t2 xr
      cases y with
      | exc nm fs =>
        obtain ⟨A, hA, rfl, rfl, rfl⟩ := xr
        have p2 : PostS X.K G Fe He (if G.T.sub nm c = true then .rt .fz .non S2 else .ex (.exc nm []) env2 S2) D W := p
        refine ⟨G.T.sub nm c, (ks nm A hA).1, fun hb a ha => ?_, fun hb => ?_⟩
        · rw [if_pos hb] at p2
          exact p2.2 _ F2 H2 t2.gr t2.src DR.non
        · rw [if_neg (by rw [hb]; decide)] at p2
          exact p2 F2 H2 σ2 _ _ t2 ⟨A, hA, rfl, rfl, rfl⟩
      | _ => exact xr.elim
  · exact p.elim
/-- not carried -/
theorem ss_bad {s : St} (h : ∀ N sc x, chkS G.np cs N sc s x = false) : SS n G cs s := fun X W x C hcs hx => by
  rw [h] at hx
  exact absurd hx (by decide)
mutual
theorem allS : ∀ s : St, SS n G cs s
  | .asg i e => ss_asg
  | .asgT t e => ss_asgT
  | .asgN i e j => ss_asgN
  | .asgB i e j l b => ss_asgB
  | .asg3 i j l es => ss_asg3
  | .app i e => ss_app
  | .appT i e => ss_appT
  | .nil2 i j => ss_nil2
  | .put i k e => ss_put
  | .exp e => ss_exp
  | .ret e => ss_ret
  | .retN => ss_retN
  | .ite c a b => ss_ite (allL a) (allL b)
  | .for_ t i b => ss_for (allL b)
  | .whl c b => ss_whl (allL b)
  | .raise c => ss_raise
  | .tryAs b c i j => ss_tryAs (allL b)
  | .tryRN b c => ss_tryRN (allL b)
  | .pass => ss_pass
  | .brk => ss_brk
  | .cnt => ss_cnt
theorem allL : ∀ ss : List St, SL n G cs ss
  | [] => sl_nil
  | s :: ss => sl_cons (allS s) (allL ss)
end
end
end Mp
set_option Elab.async false
set_option maxRecDepth 100000
set_option maxHeartbeats 4000000
/-! Mp20: defs, a table of them, and what a call comes to. -/
namespace Mp
open PySem L2 Evl

/-- a def: its name, its row, its slots' names, its parameters, its body as written for the evaluation -/
structure Fd where
  name : Str
  st : Stmt
  N : List Str
  ps : List Str
  body : List St
structure Pg where
  fns : List Fd
  prim : List (Str × Nat × (List D → Sr → R))
  T : Tab
def Pg.find (P : Pg) (f : Str) : Option Fd := P.fns.find? fun d => decide (d.name = f)
def Pg.primOf (P : Pg) (f : Str) : Option (Nat × (List D → Sr → R)) := P.prim.lookup f
def Pg.np (P : Pg) (f : Str) : Option Nat :=
  match P.primOf f with
  | some p => some p.1
  | none => (P.find f).map (·.ps.length)
def Pg.run (P : Pg) : Nat → Str → List D → Sr → R
  | 0, _, _, _ => .bad
  | n + 1, f, ds, S => match P.primOf f with
    | some p => p.2 ds S
    | none => match P.find f with
      | some d => if ds.length = d.ps.length then endR (exL P.T (P.run n) d.body (startE d.N.length ds) S) else .bad
      | none => .bad
def Pg.gd (P : Pg) (sa : Sa) (n : Nat) : Gd := ⟨sa, P.T, P.run n, P.np⟩

section
variable {K : PySem.W.Frag} {sa : Sa} {F H : Hp}
theorem sr_start {N : List Str} {vs : List V} {ds : List D} (r : DRs K sa F vs ds) : SR K sa F H (startE N.length ds) (L2.start N vs) := by
  have hl := r.length
  refine ⟨by unfold startE L2.start; simp [hl], fun i m d e => ?_⟩
  unfold startE at e
  unfold L2.start
  by_cases hi : i < ds.length
  · rw [List.getElem?_append_left (by simpa using hi), List.getElem?_map] at e
    cases hd : ds[i]? with
    | none => rw [hd] at e; cases e
    | some d' =>
      rw [hd] at e
      cases e
      obtain ⟨v, h1, h2⟩ := r.get hd
      exact ⟨v, by rw [List.getElem?_append_left (by simpa [hl] using hi), List.getElem?_map, h1]; rfl, h2⟩
  · rw [List.getElem?_append_right (by simpa using Nat.not_lt.mp hi)] at e
    have e' := List.mem_of_getElem? e
    rw [List.mem_replicate] at e'
    cases e'.2
theorem stt_start {N : List Str} {vs : List V} {ds : List D} {S : Sr} (e : Ex F H) (s : SrcR sa F H S) (r : DRs K sa F vs ds) : Stt K sa F H F H S (startE N.length ds) (L2.start N vs) := by
  have no : ∀ {i : Nat} {d : D}, (startE N.length ds)[i]? ≠ some (some (true, d)) := fun {i d} q => by
    unfold startE at q
    by_cases hi : i < ds.length
    · rw [List.getElem?_append_left (by simpa using hi), List.getElem?_map] at q
      cases hd : ds[i]? with
      | none => rw [hd] at q; cases q
      | some d' => rw [hd] at q; cases q
    · rw [List.getElem?_append_right (by simpa using Nat.not_lt.mp hi)] at q
      have q' := List.mem_of_getElem? q
      rw [List.mem_replicate] at q'
      cases q'.2
  exact ⟨Gr.refl e, s, sr_start r, fun i d q => absurd q no, fun i j d d' p _ q _ => absurd q no⟩
theorem end_post {G : Gd} {E : XK} {Q : VK} {r : Ro} (p : Post K G E F H (endR r) Q) : PostS K G F H r { nx := fun _ H' => Q .non H', rt := Q } (fun c d _ H' => E c d H') := by
  cases r with
  | nx env S => exact fun F' H' σ t => p .non F' H' t.gr t.src DR.non
  | rt m d S =>
    have p' : Post K G E F H (if m = .br then .bad else .ok m d S) Q := p
    split at p'
    · exact p'.elim
    · rename_i hm
      exact ⟨hm, fun v F' H' g s w => p' v F' H' g s w⟩
  | bk env S => exact p.elim
  | ct env S => exact p.elim
  | ex x env S => exact fun F' H' σ c dx t z => p c dx F' H' t.gr t.src z
  | bad => exact p.elim
end
/-! ### the written defs -/
def clsOf (P : Pg) (c : Str) : Bool := P.T.isc c && decide (c ≠ "ValueError") && (P.T.ini c).isNone
theorem clsOf_ini {P : Pg} {c : Str} (h : clsOf P c = true) : P.T.ini c = none := by
  unfold clsOf at h
  rw [Bool.and_eq_true] at h
  exact Option.isNone_iff_eq_none.mp h.2
def Fd.ok (P : Pg) (d : Fd) : Bool := chkL P.np (clsOf P) d.N (defScope d.st) d.body (defBody d.st)
/-- what the top has written of a def -/
structure FF (K : PySem.W.Frag) (mg : Str → Option Value) (P : Pg) (d : Fd) : Prop where
  ex : ∃ fa fd, Fun K d.name d.name d.st fa fd ∧ mg d.name = some (.ref fa) ∧ Binds K fd d.ps []
  sc : FnScope d.N d.ps (defScope d.st)
  ck : d.ok P = true
/-- what the top has written of a primitive: it keeps its promise -/
def PF (Pr : Program) (w : World) (K : PySem.W.Frag) (mg : Str → Option Value) (base : Heap) (P : Pg) (sa : Sa) (f : Str) (n : Nat) (p : List D → Sr → R) : Prop :=
  ∃ fa fd ps, ps.length = n ∧ mg f = some (.ref fa) ∧ PySem.W.keepIn K (.ref fa) = true ∧ Binds K fd ps [] ∧
    ∀ G : Gd, G.sa = sa → G.cl f = p → FnOk Pr w K mg base (L2.CX Pr w) 1 fa fd ps (spCall K G f n)
/-- the names: constants, built-ins, classes -/
structure NF (K : PySem.W.Frag) (mg : Str → Option Value) (P : Pg) (sa : Sa) : Prop where
  con : ∀ x d, P.T.con x = some d → ∃ v u, mg x = some u ∧ RelV v u ∧ ∀ F, DR K sa F v d
  blt : ∀ x ∈ bltNames, mg x = none
  exc : ∀ c C, sa.cls c = some C → mg c = some (.ref C) ∧ PySem.W.keepIn K (.ref C) = true ∧
    PySem.W.subIn K (.ref C) (.type "BaseException") = some true ∧ PySem.W.typeIn K (.ref C) = some (.type "type") ∧ ExcC K C
  exn : ∀ c C, sa.cls c = some C → P.T.ini c = none → PySem.W.excIn K C [.type "ValueError", .type "Exception", .type "BaseException", .type "object"] "ValueError.__new__" = true
  ini : ∀ c fs, P.T.ini c = some fs → fs ≠ [] ∧ fs.length ≤ 900 ∧ ∃ C sl as, sa.cls c = some C ∧ as.map (·.1) = fs ∧ IniC sa.prog K C sl as
  sub : ∀ c', P.T.isc c' = true → ∃ cv v, RelV v cv ∧ ClsV v cv ∧ (mg c' = some cv ∨ (mg c' = none ∧ bootBuiltins c' = some cv ∧ c' ≠ "__name__")) ∧ PySem.W.kitOne K (.type "NoneType") cv = some false ∧
    ∀ c C, sa.cls c = some C → PySem.W.exmOne K (.ref C) cv = some (P.T.sub c c') ∧ PySem.W.kitOne K (.ref C) cv = some (P.T.sub c c')
  cls : ∀ c, P.T.isc c = true → c ≠ "ValueError" → (sa.cls c).isSome = true
section
variable {Pr : Program} {w : World} {K : PySem.W.Frag} {mg : Str → Option Value} {base : Heap} {P : Pg} {sa : Sa}
theorem NF.excF {X : Cx} (hN : NF X.K X.mg P sa) : ∀ c C, sa.cls c = some C → ExcF X c C := fun c C q => by
  obtain ⟨a1, a3, a4, a5, a6⟩ := hN.exc c C q
  exact ⟨a1, a3, a4, a5, a6⟩
theorem find_mem {f : Str} {d : Fd} (h : P.find f = some d) : d ∈ P.fns ∧ d.name = f := by
  unfold Pg.find at h
  exact ⟨List.mem_of_find?_eq_some h, by simpa using List.find?_some h⟩
/-- every def keeps its promise, at every level -/
theorem all_fns (hpw : sa.prog = Pr ∧ sa.w = w) (hN : NF K mg P sa) (hF : ∀ d ∈ P.fns, FF K mg P d) (hP : ∀ f p, P.primOf f = some p → PF Pr w K mg base P sa f p.1 p.2) (hc : ∀ c, clsOf P c = true → (sa.cls c).isSome = true) :
    ∀ n f np, P.np f = some np → ∃ fa fd ps, ps.length = np ∧ mg f = some (.ref fa) ∧ PySem.W.keepIn K (.ref fa) = true ∧ Binds K fd ps [] ∧
      FnOk Pr w K mg base (L2.CX Pr w) n fa fd ps (spCall K (P.gd sa n) f np) := by
  intro n
  induction n with
  | zero =>
    intro f np h
    have none0 : ∀ {fa : Addr} {fd : FuncData} {ps : List Str}, ps.length = np → FnOk Pr w K mg base (L2.CX Pr w) 0 fa fd ps (spCall K (P.gd sa 0) f np) := fun hp =>
      ⟨fun vs H Q E ⟨q, _⟩ => q.trans hp.symm, fun A outer s H args us vs Q E _ _ _ _ ⟨_, F, ds, S, _, _, _, p⟩ => p.elim⟩
    unfold Pg.np at h
    cases hp : P.primOf f with
    | some p =>
      rw [hp] at h
      cases h
      obtain ⟨fa, fd, ps, h1, h2, h3, h4, _⟩ := hP f p hp
      exact ⟨fa, fd, ps, h1, h2, h3, h4, none0 h1⟩
    | none =>
      rw [hp] at h
      cases hd : P.find f with
      | none => rw [hd] at h; cases h
      | some d =>
        rw [hd] at h
        cases h
        obtain ⟨hm, rfl⟩ := find_mem hd
        obtain ⟨fa, fd, h1, h2, h3⟩ := (hF d hm).ex
        exact ⟨fa, fd, d.ps, rfl, h2, h1.kp, h3, none0 rfl⟩
  | succ n ih =>
    intro f np h
    unfold Pg.np at h
    cases hp : P.primOf f with
    | some p =>
      rw [hp] at h
      cases h
      obtain ⟨fa, fd, ps, h1, h2, h3, h4, h5⟩ := hP f p hp
      exact ⟨fa, fd, ps, h1, h2, h3, h4, (h5 (P.gd sa (n + 1)) rfl (by
        funext ds S
        show P.run (n + 1) f ds S = p.2 ds S
        rw [Pg.run, hp])).mono (Nat.succ_le_succ (Nat.zero_le n))⟩
    | none =>
      rw [hp] at h
      cases hd : P.find f with
      | none => rw [hd] at h; cases h
      | some d =>
        rw [hd] at h
        cases h
        obtain ⟨hm, rfl⟩ := find_mem hd
        obtain ⟨fa, fd, h1, h2, h3⟩ := (hF d hm).ex
        refine ⟨fa, fd, d.ps, rfl, h2, h1.kp, h3, h1.okX (hF d hm).sc (fun vs H Q E z => z.1) fun cdv A outer s H vs Q E hr hsp => ?_⟩
        obtain ⟨hl, F, ds, S, ex, src, rs, p⟩ := hsp
        refine ⟨_, wss, ?_⟩
        have hrun : (P.gd sa (n + 1)).cl d.name ds S = endR (exL P.T (P.run n) d.body (startE d.N.length ds) S) := by
          show P.run (n + 1) d.name ds S = _
          rw [Pg.run, hp, hd]
          exact if_pos (by rw [← rs.length]; exact hl)
        rw [hrun] at p
        have C : CnS (cxOf (L2.CX Pr w) Pr w K mg base d.N d.name (defScope d.st) fa cdv A outer s H E) n (P.gd sa n) (fun c dx _ H' => E c dx H') :=
          { cn := ⟨rfl, { room := hr, calm := rfl, nd := (hF d hm).sc.nd, fns := ih, con := hN.con, blt := hN.blt, exc := NF.excF (X := cxOf (L2.CX Pr w) Pr w K mg base d.N d.name (defScope d.st) fa cdv A outer s H E) hN, exn := hN.exn, ini := fun c fs q => by rw [← hpw.1]; exact hN.ini c fs q, cls := hN.cls, sub := hN.sub, fn := fun _ _ => .inl rfl, takes := takes_of rfl rfl rfl rfl, pw := hpw }⟩
            st := rfl
            fr := rfl
            ex := rfl
            ps := passes_of rfl }
        exact allL (n := n) (G := P.gd sa n) (cs := clsOf P) d.body _ _ (defBody d.st) C (fun c q => ⟨hc c q, clsOf_ini q⟩) (hF d hm).ck F H (L2.start d.N vs) H F (startE d.N.length ds) S _ (stt_start ex src rs) (end_post p)
end
end Mp
set_option Elab.async false
set_option maxRecDepth 100000
set_option maxHeartbeats 4000000
/-! Mp21: the law's numbers. -/
namespace Mp
open PySem L2 Evl
/-- what _law_draw asks -/
def DrawOk (S : Sr) (L : Int) : Prop := 0 < L ∧ L < 2 ^ 64 ∧ 0 < S.cells.length ∧ S.cells.length ≤ 1000 ∧ 0 ≤ S.turn ∧ S.turn < 2 ^ 64
instance (S : Sr) (L : Int) : Decidable (DrawOk S L) := inferInstanceAs (Decidable (_ ∧ _))
def drawPlace (S : Sr) : Nat := (S.turn % (S.cells.length : Int)).toNat
def drawCell (S : Sr) : Int := S.cells.getD (drawPlace S) 0
def drawSmall (c t : Int) : Int :=
  let n := (c % 2147483629 * 48271 + t * t * 69621 + 11) % 2147483647
  let n := n * n % 2147483629
  n * n % 2147483587
/-- the number that comes, and the source behind it -/
def drawV (S : Sr) (L : Int) : Int := if 10 ^ 18 ≤ drawCell S then drawCell S % L else drawSmall (drawCell S) S.turn % L
def drawS (S : Sr) (L : Int) : Sr := if 10 ^ 18 ≤ drawCell S then ⟨S.cells.set (drawPlace S) (drawCell S / L), S.turn + 1⟩ else ⟨S.cells, S.turn + 1⟩
def drawR : List D → Sr → R
  | [.src, .int L], S => if DrawOk S L then .ok .fz (.int (drawV S L)) (drawS S L) else .bad
  | _, _ => .bad
end Mp
set_option Elab.async false
set_option maxRecDepth 100000
set_option maxHeartbeats 4000000
/-! Mp22: what the top has written, fact by fact. -/
namespace Mp
open PySem L2 Evl

/-- a table -/
def mkTab (cons : List (Str × D)) (ancs : List (Str × List Str)) (inis : List (Str × List Str) := []) : Tab :=
  ⟨fun x => cons.lookup x, fun a b => b == "ValueError" || ((ancs.lookup a).getD []).contains b, fun c => c == "ValueError" || (ancs.lookup c).isSome, 1000000, fun c => inis.lookup c⟩
/-- a def is written -/
def FnFact (K : PySem.W.Frag) (x : Str) (st : Stmt) : Prop := ∃ (f : Addr) (oc : Value) (od : Option Addr) (kV doc pm : Value) (an : Option Addr) (cd ct : Value) (osl : Array (Option Value)),
  PySem.W.nsIn K mainGlobals x = some (some (.ref f)) ∧ K.lookup f = some ⟨oc, od, .func (PySem.W.fnOf x x (defArgs st) (defBody st) (defScope st) .none kV doc pm an cd ct), osl⟩ ∧ PySem.W.codeIn K cd x = true ∧ PySem.W.keepIn K (.ref f) = true
theorem FnFact.use {K : PySem.W.Frag} {x : Str} {st : Stmt} {h : Heap} {mg : Str → Option Value} (F : FnFact K x st) (X : K.In h) (G : h.Ns mainGlobals mg) {ps : List Str}
    (hb : ∀ (kV doc pm : Value) (an : Option Addr) (cdv ct : Value) (us : List Value), us.length = ps.length → bindArgs (PySem.W.fnOf x x (defArgs st) (defBody st) (defScope st) .none kV doc pm an cdv ct) ⟨us, []⟩ = pure (ps.zip us)) :
    ∃ fa fd, Fun K x x st fa fd ∧ mg x = some (.ref fa) ∧ Binds K fd ps [] := by
  obtain ⟨f, oc, od, kV, doc, pm, an, cd, ct, osl, h1, h2, h3, h4⟩ := F
  have g := fun_mk (st := st) h2 h3 h4
  exact ⟨f, _, g, PySem.W.mg_of X G h1, g.binds hb⟩
/-- an own exception class is written -/
structure ClsFact (K : PySem.W.Frag) (c : Str) (C : Addr) : Prop where
  a1 : PySem.W.nsIn K mainGlobals c = some (some (.ref C))
  a3 : PySem.W.keepIn K (.ref C) = true
  a4 : PySem.W.subIn K (.ref C) (.type "BaseException") = some true
  a5 : PySem.W.typeIn K (.ref C) = some (.type "type")
  a6 : PySem.W.findIn K (.ref C) "__getattribute__" = some (some (.builtin "BaseException.__getattribute__"))
  a7 : PySem.W.findIn K (.ref C) "__getattr__" = some none
  a8 : PySem.W.hasDictIn K C = true
  a9 : PySem.W.findIn K (.ref C) "__class__" = some (some (.builtin "object.__class__"))
  b1 : PySem.W.specialIn K (.builtin "object.__class__") "__get__" = some (some (.builtin "getset_descriptor.__get__"))
  b2 : PySem.W.takesIn K (.builtin "object.__class__") = some true
  b3 : PySem.W.mroIn K C (.type "object") = some true
  b4 : PySem.W.subIn K (.ref C) (.type "ValueError") = some true
/-- an own exception class without own __init__ is written -/
def ExnFact (K : PySem.W.Frag) (C : Addr) : Prop := PySem.W.excIn K C [.type "ValueError", .type "Exception", .type "BaseException", .type "object"] "ValueError.__new__" = true
def ExnAll (K : PySem.W.Frag) (inis : List (Str × List Str)) : List (Str × Addr) → Prop
  | [] => True
  | p :: r => (inis.lookup p.1 = none → ExnFact K p.2) ∧ ExnAll K inis r
/-- the classes with an own __init__ -/
def IniAll (P : Program) (K : PySem.W.Frag) (Cs : List (Str × Addr)) : List (Str × List Str) → Prop
  | [] => True
  | p :: r => (p.2 ≠ [] ∧ p.2.length ≤ 900 ∧ ∃ C sl as, Cs.lookup p.1 = some C ∧ as.map (·.1) = p.2 ∧ IniC P K C sl as) ∧ IniAll P K Cs r
theorem ExnAll.at {K : PySem.W.Frag} {inis : List (Str × List Str)} : ∀ {Cs : List (Str × Addr)}, ExnAll K inis Cs → ∀ c C, Cs.lookup c = some C → inis.lookup c = none → ExnFact K C
  | [], _, c, C, h, _ => by cases h
  | (d, D) :: r, ⟨h1, h2⟩, c, C, h, q => by
    rw [List.lookup_cons] at h
    cases e : c == d with
    | true =>
      rw [e] at h
      cases h
      have := eq_of_beq e
      subst this
      exact h1 q
    | false =>
      rw [e] at h
      exact ExnAll.at h2 c C h q
theorem IniAll.at {P : Program} {K : PySem.W.Frag} {Cs : List (Str × Addr)} : ∀ {inis : List (Str × List Str)}, IniAll P K Cs inis → ∀ c fs, inis.lookup c = some fs → fs ≠ [] ∧ fs.length ≤ 900 ∧ ∃ C sl as, Cs.lookup c = some C ∧ as.map (·.1) = fs ∧ IniC P K C sl as
  | [], _, c, C, h => by cases h
  | (d, D) :: r, ⟨h1, h2⟩, c, C, h => by
    rw [List.lookup_cons] at h
    cases e : c == d with
    | true =>
      rw [e] at h
      cases h
      have := eq_of_beq e
      subst this
      exact h1
    | false =>
      rw [e] at h
      exact IniAll.at h2 c C h
def ClsAll (K : PySem.W.Frag) : List (Str × Addr) → Prop
  | [] => True
  | p :: r => ClsFact K p.1 p.2 ∧ ClsAll K r
def SubRow (K : PySem.W.Frag) (T : Tab) (c : Str) (C : Addr) : List (Str × Addr) → Prop
  | [] => True
  | p :: r => (∃ b, PySem.W.subIn K (.ref C) (.ref p.2) = some b ∧ T.sub c p.1 = b) ∧ SubRow K T c C r
def SubAll (K : PySem.W.Frag) (T : Tab) (Cs : List (Str × Addr)) : List (Str × Addr) → Prop
  | [] => True
  | p :: r => SubRow K T p.1 p.2 Cs ∧ SubAll K T Cs r
def ConAll (K : PySem.W.Frag) : List (Str × D) → Prop
  | [] => True
  | p :: r => (∃ (i : Int) (t : Tok), p.2 = .int i ∧ PySem.W.nsIn K mainGlobals p.1 = some (some (.int i t))) ∧ ConAll K r
def BltAll (K : PySem.W.Frag) : List Str → Prop
  | [] => True
  | x :: r => PySem.W.nsIn K mainGlobals x = some none ∧ BltAll K r
section
variable {K : PySem.W.Frag} {T : Tab}
theorem ClsAll.at : ∀ {Cs : List (Str × Addr)}, ClsAll K Cs → ∀ c C, Cs.lookup c = some C → ClsFact K c C
  | [], _, c, C, h => by cases h
  | (d, D) :: r, ⟨h1, h2⟩, c, C, h => by
    rw [List.lookup_cons] at h
    cases e : c == d with
    | true =>
      rw [e] at h
      cases h
      have := eq_of_beq e
      subst this
      exact h1
    | false =>
      rw [e] at h
      exact ClsAll.at h2 c C h
theorem SubRow.at {c : Str} {C : Addr} : ∀ {Cs : List (Str × Addr)}, SubRow K T c C Cs → ∀ d D, Cs.lookup d = some D → PySem.W.subIn K (.ref C) (.ref D) = some (T.sub c d)
  | [], _, d, D, h => by cases h
  | (d', D') :: r, ⟨⟨b, h1, h1'⟩, h2⟩, d, D, h => by
    rw [List.lookup_cons] at h
    cases e : d == d' with
    | true =>
      rw [e] at h
      cases h
      have := eq_of_beq e
      subst this
      subst h1'
      exact h1
    | false =>
      rw [e] at h
      exact SubRow.at h2 d D h
theorem SubAll.at {Cs0 : List (Str × Addr)} : ∀ {Cs : List (Str × Addr)}, SubAll K T Cs0 Cs → ∀ c C, Cs.lookup c = some C → SubRow K T c C Cs0
  | [], _, c, C, h => by cases h
  | (d, D) :: r, ⟨h1, h2⟩, c, C, h => by
    rw [List.lookup_cons] at h
    cases e : c == d with
    | true =>
      rw [e] at h
      cases h
      have := eq_of_beq e
      subst this
      exact h1
    | false =>
      rw [e] at h
      exact SubAll.at h2 c C h
theorem ConAll.at : ∀ {cs : List (Str × D)}, ConAll K cs → ∀ x d, cs.lookup x = some d → ∃ i t, d = .int i ∧ PySem.W.nsIn K mainGlobals x = some (some (.int i t))
  | [], _, x, d, h => by cases h
  | (y, e) :: r, ⟨⟨i, t, h1, h2⟩, h3⟩, x, d, h => by
    rw [List.lookup_cons] at h
    cases q : x == y with
    | true =>
      rw [q] at h
      cases h
      have := eq_of_beq q
      subst this
      exact ⟨i, t, h1, h2⟩
    | false =>
      rw [q] at h
      exact ConAll.at h3 x d h
theorem BltAll.at : ∀ {xs : List Str}, BltAll K xs → ∀ x ∈ xs, PySem.W.nsIn K mainGlobals x = some none
  | _ :: _, ⟨h1, h2⟩, x, h => (List.mem_cons.mp h).elim (fun e => e ▸ h1) (fun q => BltAll.at h2 x q)
theorem kit_ref {C : Addr} {t : Value} {b : Bool} (f : ClsFact K c C) (hs : PySem.W.subIn K t (.ref C) = some b) : PySem.W.kitCls K t (.ref C) = some b := by
  obtain ⟨cd, hc, _⟩ := PySem.W.any_some f.a8
  show (if ((PySem.W.clsIn K C).isSome && PySem.W.typeIn K (.ref C) == some (.type "type")) = true then PySem.W.subIn K t (.ref C) else none) = some b
  rw [hc, f.a5]
  exact (if_pos rfl).trans hs
theorem none_sub (C : Addr) : PySem.W.subIn K (.type "NoneType") (.ref C) = some false := by
  have h : PySem.fastBuiltinMro "NoneType" = some [.type "NoneType", .type "object"] := by decide +kernel
  show (PySem.fastBuiltinMro "NoneType").map (·.contains (.ref C)) = some false
  rw [h]
  rfl
theorem nf_of {mg : Str → Option Value} {h : Heap} {P : Pg} {Cs : List (Str × Addr)} {cons : List (Str × D)} {ancs inis : List (Str × List Str)} (X : K.In h) (G : h.Ns mainGlobals mg) (hT : P.T = mkTab cons ancs inis) (hk : ∀ c, (ancs.lookup c).isSome = true → (Cs.lookup c).isSome = true)
    (hself : ∀ c, (Cs.lookup c).isSome = true → ((ancs.lookup c).getD []).contains c = true) (hc : ConAll K cons) (hb : BltAll K bltNames) (hC : ClsAll K Cs) (hS : SubAll K P.T Cs Cs) (Pr : Program) (wd : World) (hE : ExnAll K inis Cs) (hI : IniAll Pr K Cs inis) (s1 s2 : Addr) : NF K mg P ⟨s1, s2, fun c => Cs.lookup c, Pr, wd⟩ where
  con := fun x d q => by
    rw [hT] at q
    obtain ⟨i, t, rfl, e⟩ := hc.at x d q
    exact ⟨.int i, _, PySem.W.mg_of X G e, ⟨t, rfl⟩, fun F => .int i⟩
  blt := fun x q => PySem.W.mg_none_of X G (hb.at x q)
  exc := fun c C q => by
    have f := hC.at c C q
    exact ⟨PySem.W.mg_of X G f.a1, f.a3, f.a4, f.a5, ⟨f.a6, f.a7, f.a4, f.a8, f.a9, f.b1, f.b2, f.b3⟩⟩
  exn := fun c C q i => hE.at c C q (by rw [hT] at i; exact i)
  ini := fun c fs q => hI.at c fs (by rw [hT] at q; exact q)
  sub := fun c' q => by
    by_cases hv : c' = "ValueError"
    · subst hv
      refine ⟨.type "ValueError", .ty "ValueError", rfl, .ty _, .inr ⟨PySem.W.mg_none_of X G (hb.at _ (by decide +kernel)), by decide +kernel, by decide⟩, kit_ty (by decide +kernel), fun c C e => ?_⟩
      have f := hC.at c C e
      have hs : P.T.sub c "ValueError" = true := by rw [hT]; rfl
      rw [hs]
      have km : PySem.W.kitMeta "ValueError" = true := by decide +kernel
      have k : PySem.W.kitCls K (.ref C) (.type "ValueError") = some true := by
        show (if PySem.W.kitMeta "ValueError" = true then PySem.W.subIn K (.ref C) (.type "ValueError") else none) = some true
        rw [if_pos km]
        exact f.b4
      have hb0 : PySem.W.subIn K (.type "ValueError") (.type "BaseException") = some true := by
        show (PySem.fastBuiltinMro "ValueError").map (·.contains (.type "BaseException")) = some true
        decide +kernel
      refine ⟨?_, (if_neg (fun z => by cases eq_of_beq z)).trans k⟩
      unfold PySem.W.exmOne
      rw [hb0]
      exact (if_pos rfl).trans k
    · have hi : (ancs.lookup c').isSome = true := by
        rw [hT] at q
        have q' : (c' == ("ValueError" : Str) || (ancs.lookup c').isSome) = true := q
        rcases Bool.or_eq_true _ _ ▸ q' with e | e
        · exact absurd (eq_of_beq e) hv
        · exact e
      obtain ⟨C', hC'⟩ := Option.isSome_iff_exists.mp (hk c' hi)
      have f' := hC.at c' C' hC'
      refine ⟨.ref C', .ref C', rfl, .own _, .inl (PySem.W.mg_of X G f'.a1), (if_neg (fun z => by cases eq_of_beq z)).trans (kit_ref f' (none_sub C')), fun c C e => ?_⟩
      have hs := (hS.at c C e).at c' C' hC'
      have k := kit_ref f' hs
      constructor
      · unfold PySem.W.exmOne
        rw [f'.a4]
        exact (if_pos rfl).trans k
      · unfold PySem.W.kitOne
        split
        · rename_i z
          have z' := eq_of_beq z
          injection z' with z'
          subst z'
          have h2 := (hS.at c C e).at c C e
          rw [hs] at h2
          have h3 : P.T.sub c c = true := by
            rw [hT]
            show ((c == ("ValueError" : Str)) || ((ancs.lookup c).getD []).contains c) = true
            rw [hself c (Option.isSome_iff_exists.mpr ⟨C, e⟩), Bool.or_true]
          rw [h2, h3]
        · exact k
  cls := fun c q hv => by
    rw [hT] at q
    have q' : (c == ("ValueError" : Str) || (ancs.lookup c).isSome) = true := q
    rcases Bool.or_eq_true _ _ ▸ q' with e | e
    · exact absurd (eq_of_beq e) hv
    · exact hk c e
theorem look_same {A B : Type} : ∀ {l : List (Str × A)} {m : List (Str × B)}, l.map (·.1) = m.map (·.1) → ∀ c, (l.lookup c).isSome = (m.lookup c).isSome
  | [], [], _, _ => rfl
  | [], _ :: _, h, _ => by cases h
  | _ :: _, [], h, _ => by cases h
  | (x, a) :: l, (y, b) :: m, h, c => by
    rw [List.map_cons, List.map_cons] at h
    injection h with h1 h2
    have h1' : x = y := h1
    subst h1'
    rw [List.lookup_cons, List.lookup_cons]
    cases c == x with
    | true => rfl
    | false => exact look_same h2 c
theorem look_self : ∀ {l : List (Str × List Str)}, (l.all fun p => p.2.contains p.1) = true → ∀ c, (l.lookup c).isSome = true → ((l.lookup c).getD []).contains c = true
  | [], _, c, h => by cases h
  | (x, a) :: l, h, c, q => by
    rw [List.all_cons, Bool.and_eq_true] at h
    rw [List.lookup_cons] at q ⊢
    cases e : c == x with
    | true =>
      rw [eq_of_beq e]
      exact h.1
    | false =>
      rw [e] at q
      exact look_self h.2 c q
end
end Mp
set_option Elab.async false
set_option maxRecDepth 100000
set_option maxHeartbeats 4000000
/-! the defs of the row, as they are written for the evaluation (printed by mk.py) -/
namespace K28
open PySem L2 Mp
def top (i : Nat) : Stmt := PySem.Challenge.pw_graysieve_k28_fewest_sums.main.body.getD i (.Pass ⟨0, 0, 0, 0⟩)
def b_is_integer : List Mp.St := [
  .ret (.bool true [.isi (.var 0) .int, .not (.isi (.var 0) .bool)])]
def d_is_integer : Fd := ⟨"is_integer", top 7, ["value"], ["value"], b_is_integer⟩
def b_is_between : List Mp.St := [
  .ret (.bool true [.call "is_integer" [.var 0], .cmp2 .le .le (.var 1) (.var 0) (.var 2)])]
def d_is_between : Fd := ⟨"is_between", top 8, ["value", "least", "greatest"], ["value", "least", "greatest"], b_is_between⟩
def b_is_cell : List Mp.St := [
  .ite (.bool false [.not (.isi (.var 0) .tuple), .cmp .ne (.blt .len [.var 0]) (.lit (.int 2))]) [
    .ret (.lit (.tr false))] [],
  .ret (.bool true [.call "is_between" [.ix (.var 0) (.lit (.int 0)), .neg (.con "FARTHEST"), .con "FARTHEST"], .call "is_between" [.ix (.var 0) (.lit (.int 1)), .neg (.con "FARTHEST"), .con "FARTHEST"]])]
def d_is_cell : Fd := ⟨"is_cell", top 9, ["value"], ["value"], b_is_cell⟩
def b_is_shape : List Mp.St := [
  .ite (.bool false [.not (.isi (.var 0) .tuple), .not (.cmp2 .le .le (.lit (.int 1)) (.blt .len [.var 0]) (.con "MOST_CELLS"))]) [
    .ret (.lit (.tr false))] [],
  .ite (.not (.blt .all [.comp [1] (.nm 1) (.ov (.var 0)) [] (.call "is_cell" [.var 1])])) [
    .ret (.lit (.tr false))] [],
  .ret (.blt .all [.comp [2] (.nm 2) (.rg (.bin .sub (.blt .len [.var 0]) (.lit (.int 1)))) [] (.cmp .lt (.ix (.var 0) (.var 2)) (.ix (.var 0) (.bin .add (.var 2) (.lit (.int 1)))))])]
def d_is_shape : Fd := ⟨"is_shape", top 10, ["value", "cell", "at"], ["value"], b_is_shape⟩
def b_sum_of : List Mp.St := [
  .ret (.sset (.comp2 [2, 3, 4, 5] [4, 5] (.tp [2, 3]) (.ov (.var 0)) [] (.tp [4, 5]) (.ov (.var 1)) [] (.tup [.bin .add (.var 2) (.var 4), .bin .add (.var 3) (.var 5)])))]
def d_sum_of : Fd := ⟨"sum_of", top 11, ["one", "other", "x", "y", "more", "up"], ["one", "other"], b_sum_of⟩
def b_is_figure : List Mp.St := [
  .ite (.bool false [.not (.isi (.var 0) .tuple), .not (.cmp2 .le .le (.lit (.int 1)) (.blt .len [.var 0]) (.con "MOST_FIGURE"))]) [
    .ret (.lit (.tr false))] [],
  .for_ (.nm 1) (.ov (.var 0)) [
    .ite (.bool false [.not (.isi (.var 1) .tuple), .cmp .ne (.blt .len [.var 1]) (.lit (.int 2))]) [
      .ret (.lit (.tr false))] [],
    .ite (.not (.blt .all [.comp [2] (.nm 2) (.ov (.var 1)) [] (.call "is_between" [.var 2, .neg (.con "FARTHEST_FIGURE"), .con "FARTHEST_FIGURE"])])) [
      .ret (.lit (.tr false))] []],
  .ret (.blt .all [.comp [3] (.nm 3) (.rg (.bin .sub (.blt .len [.var 0]) (.lit (.int 1)))) [] (.cmp .lt (.ix (.var 0) (.var 3)) (.ix (.var 0) (.bin .add (.var 3) (.lit (.int 1)))))])]
def d_is_figure : Fd := ⟨"is_figure", top 16, ["value", "cell", "number", "at"], ["value"], b_is_figure⟩
def b_check_figure : List Mp.St := [
  .ite (.not (.call "is_figure" [.var 0])) [
    .raise "InvalidFigure"] []]
def d_check_figure : Fd := ⟨"check_figure", top 17, ["figure"], ["figure"], b_check_figure⟩
def b_check_stock : List Mp.St := [
  .ite (.bool false [.not (.isi (.var 0) .list), .not (.cmp2 .le .le (.lit (.int 1)) (.blt .len [.var 0]) (.con "MOST_STOCK"))]) [
    .raise "InvalidStock"] [],
  .ite (.not (.blt .all [.comp [1] (.nm 1) (.ov (.var 0)) [] (.call "is_shape" [.var 1])])) [
    .raise "InvalidStock"] []]
def d_check_stock : Fd := ⟨"check_stock", top 18, ["stock", "shape"], ["stock"], b_check_stock⟩
def b_at_corner : List Mp.St := [
  .asgT (.tp [1, 2]) (.tup [.blt .min [.comp [3, 4] (.tp [3, 4]) (.ov (.var 0)) [] (.var 3)], .blt .min [.comp [3, 4] (.tp [3, 4]) (.ov (.var 0)) [] (.var 4)]]),
  .ret (.blt .tuple [.blt .sorted [.comp [3, 4] (.tp [3, 4]) (.ov (.var 0)) [] (.tup [.bin .sub (.var 3) (.var 1), .bin .sub (.var 4) (.var 2)])]])]
def d_at_corner : Fd := ⟨"at_corner", top 19, ["cells", "left", "low", "x", "y"], ["cells"], b_at_corner⟩
def b_rest_of : List Mp.St := [
  .asg 2 (.mset (.var 0)),
  .asgT (.tp [3, 4]) (.ix (.var 1) (.lit (.int 0))),
  .asg 5 (.comp [6, 7] (.tp [6, 7]) (.ov (.var 0)) [] (.tup [.bin .sub (.var 6) (.var 3), .bin .sub (.var 7) (.var 4)])),
  .ret (.comp [8] (.nm 8) (.ov (.var 5)) [.blt .all [.comp [9, 10] (.tp [9, 10]) (.ov (.var 1)) [] (.cmp .in_ (.tup [.bin .add (.ix (.var 8) (.lit (.int 0))) (.var 9), .bin .add (.ix (.var 8) (.lit (.int 1))) (.var 10)]) (.var 2))]] (.var 8))]
def d_rest_of : Fd := ⟨"rest_of", top 20, ["figure", "part", "inside", "x", "y", "moves", "left", "low", "move", "more", "up"], ["figure", "part"], b_rest_of⟩
def b_is_summand : List Mp.St := [
  .asg 2 (.call "rest_of" [.var 0, .var 1]),
  .ret (.bool true [.cmp .gt (.blt .len [.var 2]) (.lit (.int 0)), .cmp .eq (.call "sum_of" [.var 1, .var 2]) (.blt .list [.var 0])])]
def d_is_summand : Fd := ⟨"is_summand", top 21, ["figure", "part", "rest"], ["figure", "part"], b_is_summand⟩
def b_fewest_sums : List Mp.St := [
  .exp (.call "check_figure" [.var 0]),
  .exp (.call "check_stock" [.var 1]),
  .asg 2 (.call "at_corner" [.var 0]),
  .asg 3 (.dic1 (.tup [.tup [.lit (.int 0), .lit (.int 0)]]) (.lst [])),
  .whl (.cmp .gt (.blt .len [.var 3]) (.lit (.int 0))) [
    .ite (.cmp .in_ (.var 2) (.var 3)) [
      .ret (.ix (.var 3) (.var 2))] [],
    .asg 4 .dic0,
    .for_ (.tp [5, 6]) (.items (.var 3)) [
      .for_ (.tp [7, 8]) (.enum (.var 1)) [
        .asg 9 (.call "at_corner" [.call "sum_of" [.var 5, .var 8]]),
        .asg 10 (.blt .sorted [.bin .add (.var 6) (.lst [.var 7])]),
        .ite (.bool true [.cmp .ne (.var 9) (.var 5), .call "is_summand" [.var 2, .var 9], .cmp .lt (.var 10) (.dget (.var 4) (.var 9) (.bin .add (.var 10) (.lst [.lit (.int 0)])))]) [
          .put 4 (.var 9) (.var 10)] []]],
    .asg 3 (.var 4)],
  .ret (.lit .non)]
def d_fewest_sums : Fd := ⟨"fewest_sums", top 22, ["figure", "stock", "wished", "found", "longer", "cells", "numbers", "number", "shape", "added", "more"], ["figure", "stock"], b_fewest_sums⟩
abbrev s__law_source : Stmt := top 24
abbrev s__law_draw : Stmt := top 25
def b__law_shape : List Mp.St := [
  .asg 3 (.lst []),
  .for_ (.nm 4) (.rg (.bin .add (.lit (.int 1)) (.call "_law_draw" [.var 0, .var 1]))) [
    .asg 5 (.tup [.bin .sub (.call "_law_draw" [.var 0, .bin .add (.bin .mul (.lit (.int 2)) (.var 2)) (.lit (.int 1))]) (.var 2), .bin .sub (.call "_law_draw" [.var 0, .bin .add (.bin .mul (.lit (.int 2)) (.var 2)) (.lit (.int 1))]) (.var 2)]),
    .ite (.cmp .nin (.var 5) (.var 3)) [
      .app 3 (.var 5)] []],
  .ret (.blt .tuple [.blt .sorted [.var 3]])]
def d__law_shape : Fd := ⟨"_law_shape", top 26, ["_law_source_here", "_law_most", "_law_far", "_law_found", "_law_k", "_law_cell"], ["_law_source_here", "_law_most", "_law_far"], b__law_shape⟩
def b__law_corner : List Mp.St := [
  .asgT (.tp [1, 2]) (.tup [.blt .min [.comp [3] (.nm 3) (.ov (.var 0)) [] (.ix (.var 3) (.lit (.int 0)))], .blt .min [.comp [3] (.nm 3) (.ov (.var 0)) [] (.ix (.var 3) (.lit (.int 1)))]]),
  .ret (.blt .tuple [.blt .sorted [.comp [4, 5] (.tp [4, 5]) (.ov (.var 0)) [] (.tup [.bin .sub (.var 4) (.var 1), .bin .sub (.var 5) (.var 2)])]])]
def d__law_corner : Fd := ⟨"_law_corner", top 27, ["_law_cells", "_law_left", "_law_low", "_law_cell", "_law_x", "_law_y"], ["_law_cells"], b__law_corner⟩
def b__law_sum : List Mp.St := [
  .asg 2 (.lst [.tup [.lit (.int 0), .lit (.int 0)]]),
  .for_ (.nm 3) (.ov (.var 1)) [
    .asg 4 (.lst []),
    .for_ (.tp [5, 6]) (.ov (.var 2)) [
      .asg 4 (.bin .add (.var 4) (.comp [7, 8] (.tp [7, 8]) (.ov (.ix (.var 0) (.var 3))) [] (.tup [.bin .add (.var 5) (.var 7), .bin .add (.var 6) (.var 8)])))],
    .asg 2 (.sset (.var 4))],
  .ret (.var 2)]
def d__law_sum : Fd := ⟨"_law_sum", top 28, ["_law_stock", "_law_numbers", "_law_found", "_law_number", "_law_more", "_law_x", "_law_y", "_law_left", "_law_up"], ["_law_stock", "_law_numbers"], b__law_sum⟩
def b__law_lists : List Mp.St := [
  .asg 2 (.lst [.lst []]),
  .for_ (.nm 3) (.rg (.var 1)) [
    .asg 4 (.lst []),
    .for_ (.nm 5) (.ov (.var 2)) [
      .asg 4 (.bin .add (.var 4) (.comp [6] (.nm 6) (.rg (.var 0)) [.bool false [.cmp .eq (.var 5) (.lst []), .cmp .ge (.var 6) (.ix (.var 5) (.neg (.lit (.int 1))))]] (.bin .add (.var 5) (.lst [.var 6]))))],
    .asg 2 (.var 4)],
  .ret (.var 2)]
def d__law_lists : Fd := ⟨"_law_lists", top 29, ["_law_many", "_law_size", "_law_found", "_law_k", "_law_longer", "_law_some", "_law_number"], ["_law_many", "_law_size"], b__law_lists⟩
def b__law_due : List Mp.St := [
  .for_ (.nm 2) (.rg (.lit (.int 5))) [
    .for_ (.nm 3) (.ov (.call "_law_lists" [.blt .len [.var 1], .var 2])) [
      .ite (.cmp .eq (.call "_law_corner" [.call "_law_sum" [.var 1, .var 3]]) (.call "_law_corner" [.var 0])) [
        .ret (.var 3)] []]],
  .ret (.lit .non)]
def d__law_due : Fd := ⟨"_law_due", top 30, ["_law_figure_here", "_law_stock", "_law_size", "_law_numbers"], ["_law_figure_here", "_law_stock"], b__law_due⟩
def b__law_figure : List Mp.St := [
  .asg 3 (.call "_law_sum" [.var 1, .var 2]),
  .asg 4 (.call "_law_draw" [.var 0, .lit (.int 5)]),
  .ite (.bool true [.cmp .eq (.var 4) (.lit (.int 0)), .cmp .gt (.blt .len [.var 3]) (.lit (.int 1))]) [
    .asg 5 (.call "_law_draw" [.var 0, .blt .len [.var 3]]),
    .asg 3 (.bin .add (.sl (.var 3) none (some (.var 5))) (.sl (.var 3) (some (.bin .add (.var 5) (.lit (.int 1)))) none))] [],
  .ite (.cmp .eq (.var 4) (.lit (.int 1))) [
    .asg 3 (.sset (.bin .add (.var 3) (.lst [.tup [.bin .sub (.call "_law_draw" [.var 0, .lit (.int 9)]) (.lit (.int 4)), .bin .sub (.call "_law_draw" [.var 0, .lit (.int 9)]) (.lit (.int 4))]])))] [],
  .ite (.cmp .eq (.var 4) (.lit (.int 2))) [
    .asg 3 (.blt .list [.call "_law_shape" [.var 0, .lit (.int 8), .lit (.int 2)]])] [],
  .asgT (.tp [6, 7]) (.tup [.bin .sub (.call "_law_draw" [.var 0, .lit (.int 21)]) (.lit (.int 10)), .bin .sub (.call "_law_draw" [.var 0, .lit (.int 21)]) (.lit (.int 10))]),
  .ret (.blt .tuple [.blt .sorted [.comp [8, 9] (.tp [8, 9]) (.ov (.var 3)) [] (.tup [.bin .add (.var 8) (.var 6), .bin .add (.var 9) (.var 7)])]])]
def d__law_figure : Fd := ⟨"_law_figure", top 31, ["_law_source_here", "_law_stock", "_law_numbers", "_law_cells", "_law_kind", "_law_at", "_law_x", "_law_y", "_law_left", "_law_up"], ["_law_source_here", "_law_stock", "_law_numbers"], b__law_figure⟩
def b__law_fits : List Mp.St := [
  .asg 3 (.call "fewest_sums" [.var 0, .var 1]),
  .asg 4 (.call "_law_due" [.var 0, .var 1]),
  .ite (.bool false [.cmp .isn (.var 4) (.lit .non), .cmp .is_ (.var 3) (.lit .non)]) [
    .ret (.bool true [.cmp .eq (.var 3) (.var 4), .bool false [.cmp .isn (.var 3) (.lit .non), .cmp .is_ (.var 2) (.lit .non)]])] [],
  .ite (.bool false [.cmp .ne (.var 3) (.blt .sorted [.var 3]), .cmp .lt (.blt .len [.var 3]) (.lit (.int 5)), .bool true [.cmp .isn (.var 2) (.lit .non), .cmp .gt (.blt .len [.var 3]) (.blt .len [.var 2])]]) [
    .ret (.lit (.tr false))] [],
  .ret (.cmp .eq (.call "_law_corner" [.call "_law_sum" [.var 1, .var 3]]) (.call "_law_corner" [.var 0]))]
def d__law_fits : Fd := ⟨"_law_fits", top 32, ["_law_figure_here", "_law_stock", "_law_known", "_law_found", "_law_due_here"], ["_law_figure_here", "_law_stock", "_law_known"], b__law_fits⟩
def b_law : List Mp.St := [
  .for_ (.nm 2) (.rg (.lit (.int 30))) [
    .asg 3 (.comp [4] (.nm 4) (.rg (.bin .add (.lit (.int 1)) (.call "_law_draw" [.var 1, .lit (.int 4)]))) [] (.call "_law_shape" [.var 1, .lit (.int 4), .lit (.int 2)])),
    .asg 5 (.blt .sorted [.comp [4] (.nm 4) (.rg (.call "_law_draw" [.var 1, .lit (.int 5)])) [] (.call "_law_draw" [.var 1, .blt .len [.var 3]])]),
    .asg 6 (.call "_law_figure" [.var 1, .var 3, .var 5]),
    .asg 7 (.lit .non),
    .ite (.cmp .eq (.call "_law_corner" [.call "_law_sum" [.var 3, .var 5]]) (.call "_law_corner" [.var 6])) [
      .asg 7 (.var 5)] [],
    .asg 8 (.blt .list [.var 3]),
    .ite (.cmp .le (.blt .len [.var 6]) (.lit (.int 30))) [
      .ite (.bool false [.not (.call "_law_fits" [.var 6, .var 3, .var 7]), .cmp .ne (.var 3) (.var 8)]) [
        .ret (.lit (.tr false))] [],
      .asg 9 (.callN "fewest_sums" [.var 6, .var 3]),
      .asg 10 (.comp [13] (.nm 13) (.ov (.var 3)) [] (.blt .tuple [.comp [11, 12] (.tp [11, 12]) (.ov (.var 13)) [] (.tup [.bin .add (.var 11) (.lit (.int 3)), .bin .sub (.var 12) (.lit (.int 2))])])),
      .ite (.bool false [.cmp .ne (.call "fewest_sums" [.var 6, .var 10]) (.var 9), .cmp .ne (.call "fewest_sums" [.call "_law_corner" [.var 6], .var 3]) (.var 9)]) [
        .ret (.lit (.tr false))] [],
      .ite (.cmp .isn (.var 9) (.lit .non)) [
        .app 9 (.lit .non),
        .ite (.cmp .ne (.call "fewest_sums" [.var 6, .var 3]) (.sl (.var 9) none (some (.neg (.lit (.int 1)))))) [
          .ret (.lit (.tr false))] []] []] []],
  .asg3 14 15 16 [.blt .tuple [.comp [4] (.nm 4) (.rg (.lit (.int 12))) [] (.tup [.var 4, .lit (.int 0)])], .tup [.tup [.lit (.int 0), .lit (.int 0)], .tup [.lit (.int 1), .lit (.int 0)]], .tup [.tup [.lit (.int 0), .lit (.int 0)], .tup [.lit (.int 2), .lit (.int 0)]]],
  .ite (.bool false [.cmp .ne (.call "fewest_sums" [.var 14, .lst [.var 15]]) (.bin .mul (.lst [.lit (.int 0)]) (.lit (.int 11))), .cmp .isn (.call "fewest_sums" [.var 14, .lst [.var 16]]) (.lit .non)]) [
    .ret (.lit (.tr false))] [],
  .ite (.cmp .ne (.call "fewest_sums" [.var 14, .lst [.var 15, .var 16, .blt .tuple [.comp [4] (.nm 4) (.rg (.lit (.int 4))) [] (.tup [.var 4, .lit (.int 0)])]]]) (.lst [.lit (.int 1), .lit (.int 2), .lit (.int 2), .lit (.int 2)])) [
    .ret (.lit (.tr false))] [],
  .ite (.cmp .isn (.call "fewest_sums" [.var 15, .lst [.tup [.tup [.lit (.int 5), .lit (.int 5)]]]]) (.lit .non)) [
    .ret (.lit (.tr false))] [],
  .ret (.bool true [.cmp .eq (.call "fewest_sums" [.tup [.tup [.lit (.int 7), .lit (.int 7)]], .lst [.var 15]]) (.lst []), .cmp .eq (.call "fewest_sums" [.var 15, .lst [.tup [.tup [.lit (.int 5), .lit (.int 5)]], .var 15]]) (.lst [.lit (.int 1)])])]
def N_law : List Str := ["_law_script", "_law_source_here", "_law_turn", "_law_stock", "_law_k", "_law_numbers", "_law_figure_here", "_law_known", "_law_kept", "_law_found", "_law_carried", "_law_x", "_law_y", "_law_shape_here", "_law_line", "_law_two", "_law_three"]
abbrev s_law : Stmt := top 33
def cons : List (Str × Mp.D) := [("MOST_CELLS", .int (12)), ("FARTHEST", .int (20)), ("MOST_FIGURE", .int (30)), ("FARTHEST_FIGURE", .int (60)), ("MOST_STOCK", .int (6))]
def ancs : List (Str × List Str) := [("SieveError", ["SieveError"]), ("InvalidFigure", ["InvalidFigure", "SieveError"]), ("InvalidStock", ["InvalidStock", "SieveError"])]
def inis : List (Str × List Str) := []
def tab : Tab := mkTab cons ancs inis
def fns : List Fd := [d_is_integer, d_is_between, d_is_cell, d_is_shape, d_sum_of, d_is_figure, d_check_figure, d_check_stock, d_at_corner, d_rest_of, d_is_summand, d_fewest_sums, d__law_shape, d__law_corner, d__law_sum, d__law_lists, d__law_due, d__law_figure, d__law_fits]
def pg : Pg := ⟨fns, [("_law_draw", 2, drawR)], tab⟩
theorem ck_is_integer : d_is_integer.ok pg = true := by decide +kernel
theorem ck_is_between : d_is_between.ok pg = true := by decide +kernel
theorem ck_is_cell : d_is_cell.ok pg = true := by decide +kernel
theorem ck_is_shape : d_is_shape.ok pg = true := by decide +kernel
theorem ck_sum_of : d_sum_of.ok pg = true := by decide +kernel
theorem ck_is_figure : d_is_figure.ok pg = true := by decide +kernel
theorem ck_check_figure : d_check_figure.ok pg = true := by decide +kernel
theorem ck_check_stock : d_check_stock.ok pg = true := by decide +kernel
theorem ck_at_corner : d_at_corner.ok pg = true := by decide +kernel
theorem ck_rest_of : d_rest_of.ok pg = true := by decide +kernel
theorem ck_is_summand : d_is_summand.ok pg = true := by decide +kernel
theorem ck_fewest_sums : d_fewest_sums.ok pg = true := by decide +kernel
theorem ck__law_shape : d__law_shape.ok pg = true := by decide +kernel
theorem ck__law_corner : d__law_corner.ok pg = true := by decide +kernel
theorem ck__law_sum : d__law_sum.ok pg = true := by decide +kernel
theorem ck__law_lists : d__law_lists.ok pg = true := by decide +kernel
theorem ck__law_due : d__law_due.ok pg = true := by decide +kernel
theorem ck__law_figure : d__law_figure.ok pg = true := by decide +kernel
theorem ck__law_fits : d__law_fits.ok pg = true := by decide +kernel
theorem sc_is_integer : FnScope d_is_integer.N d_is_integer.ps (defScope d_is_integer.st) := ⟨rfl, rfl, rfl, by decide +kernel, rfl, by decide +kernel, by decide +kernel⟩
theorem sc_is_between : FnScope d_is_between.N d_is_between.ps (defScope d_is_between.st) := ⟨rfl, rfl, rfl, by decide +kernel, rfl, by decide +kernel, by decide +kernel⟩
theorem sc_is_cell : FnScope d_is_cell.N d_is_cell.ps (defScope d_is_cell.st) := ⟨rfl, rfl, rfl, by decide +kernel, rfl, by decide +kernel, by decide +kernel⟩
theorem sc_is_shape : FnScope d_is_shape.N d_is_shape.ps (defScope d_is_shape.st) := ⟨rfl, rfl, rfl, by decide +kernel, rfl, by decide +kernel, by decide +kernel⟩
theorem sc_sum_of : FnScope d_sum_of.N d_sum_of.ps (defScope d_sum_of.st) := ⟨rfl, rfl, rfl, by decide +kernel, rfl, by decide +kernel, by decide +kernel⟩
theorem sc_is_figure : FnScope d_is_figure.N d_is_figure.ps (defScope d_is_figure.st) := ⟨rfl, rfl, rfl, by decide +kernel, rfl, by decide +kernel, by decide +kernel⟩
theorem sc_check_figure : FnScope d_check_figure.N d_check_figure.ps (defScope d_check_figure.st) := ⟨rfl, rfl, rfl, by decide +kernel, rfl, by decide +kernel, by decide +kernel⟩
theorem sc_check_stock : FnScope d_check_stock.N d_check_stock.ps (defScope d_check_stock.st) := ⟨rfl, rfl, rfl, by decide +kernel, rfl, by decide +kernel, by decide +kernel⟩
theorem sc_at_corner : FnScope d_at_corner.N d_at_corner.ps (defScope d_at_corner.st) := ⟨rfl, rfl, rfl, by decide +kernel, rfl, by decide +kernel, by decide +kernel⟩
theorem sc_rest_of : FnScope d_rest_of.N d_rest_of.ps (defScope d_rest_of.st) := ⟨rfl, rfl, rfl, by decide +kernel, rfl, by decide +kernel, by decide +kernel⟩
theorem sc_is_summand : FnScope d_is_summand.N d_is_summand.ps (defScope d_is_summand.st) := ⟨rfl, rfl, rfl, by decide +kernel, rfl, by decide +kernel, by decide +kernel⟩
theorem sc_fewest_sums : FnScope d_fewest_sums.N d_fewest_sums.ps (defScope d_fewest_sums.st) := ⟨rfl, rfl, rfl, by decide +kernel, rfl, by decide +kernel, by decide +kernel⟩
theorem sc__law_shape : FnScope d__law_shape.N d__law_shape.ps (defScope d__law_shape.st) := ⟨rfl, rfl, rfl, by decide +kernel, rfl, by decide +kernel, by decide +kernel⟩
theorem sc__law_corner : FnScope d__law_corner.N d__law_corner.ps (defScope d__law_corner.st) := ⟨rfl, rfl, rfl, by decide +kernel, rfl, by decide +kernel, by decide +kernel⟩
theorem sc__law_sum : FnScope d__law_sum.N d__law_sum.ps (defScope d__law_sum.st) := ⟨rfl, rfl, rfl, by decide +kernel, rfl, by decide +kernel, by decide +kernel⟩
theorem sc__law_lists : FnScope d__law_lists.N d__law_lists.ps (defScope d__law_lists.st) := ⟨rfl, rfl, rfl, by decide +kernel, rfl, by decide +kernel, by decide +kernel⟩
theorem sc__law_due : FnScope d__law_due.N d__law_due.ps (defScope d__law_due.st) := ⟨rfl, rfl, rfl, by decide +kernel, rfl, by decide +kernel, by decide +kernel⟩
theorem sc__law_figure : FnScope d__law_figure.N d__law_figure.ps (defScope d__law_figure.st) := ⟨rfl, rfl, rfl, by decide +kernel, rfl, by decide +kernel, by decide +kernel⟩
theorem sc__law_fits : FnScope d__law_fits.N d__law_fits.ps (defScope d__law_fits.st) := ⟨rfl, rfl, rfl, by decide +kernel, rfl, by decide +kernel, by decide +kernel⟩
theorem sc_law : FnScope N_law ["_law_script"] (defScope s_law) := ⟨rfl, rfl, rfl, by decide +kernel, rfl, by decide +kernel, by decide +kernel⟩
theorem ck_law : chkL pg.np (clsOf pg) N_law (defScope s_law) b_law (defBody s_law).tail = true := by decide +kernel
end K28
set_option Elab.async false
set_option maxRecDepth 100000
set_option maxHeartbeats 4000000
/-! Mq1: plain lemmas about the evaluation. -/
namespace Mp
open PySem

theorem compL_map {turn : D → Sr → Option (Option D × Sr)} {S : Sr} {g : D → Option D} : ∀ {ds : List D}, (∀ d ∈ ds, turn d S = some (g d, S)) → compL turn ds S = some (ds.filterMap g, S)
  | [], _ => rfl
  | d :: r, h => by
    rw [compL, h d List.mem_cons_self]
    dsimp only
    rw [compL_map fun x hx => h x (List.mem_cons_of_mem _ hx)]
    cases e : g d with
    | none => rw [List.filterMap_cons_none e]
    | some x => rw [List.filterMap_cons_some e]
theorem compL_all {turn : D → Sr → Option (Option D × Sr)} {S : Sr} {g : D → D} {ds : List D} (h : ∀ d ∈ ds, turn d S = some (some (g d), S)) : compL turn ds S = some (ds.map g, S) := by
  rw [compL_map (g := fun d => some (g d)) h, List.filterMap_eq_map']
theorem compL_filter {turn : D → Sr → Option (Option D × Sr)} {S : Sr} {p : D → Bool} {ds : List D} (h : ∀ d ∈ ds, turn d S = some (if p d then some d else none, S)) : compL turn ds S = some (ds.filter p, S) := by
  rw [compL_map (g := fun d => if p d then some d else none) h]
  congr 2
  induction ds with
  | nil => rfl
  | cons d r ih =>
    rw [List.filter_cons]
    cases e : p d with
    | true => rw [List.filterMap_cons_some (by rw [e]; rfl), ih fun x hx => h x (List.mem_cons_of_mem _ hx)]; rfl
    | false => rw [List.filterMap_cons_none (by rw [e]; rfl), ih fun x hx => h x (List.mem_cons_of_mem _ hx)]; rfl
theorem bools_map {α : Type} (p : α → Bool) : ∀ l : List α, bools (l.map fun x => D.bl (p x)) = some (l.map p)
  | [] => rfl
  | x :: l => by
    show (bools (l.map fun x => D.bl (p x))).map (p x :: ·) = _
    rw [bools_map p l]
    rfl
theorem intsOf_mapI {α : Type} (f : α → Int) : ∀ l : List α, intsOf (l.map fun x => D.int (f x)) = some (l.map f)
  | [] => rfl
  | x :: l => by
    show (intsOf (l.map fun x => D.int (f x))).map (f x :: ·) = _
    rw [intsOf_mapI f l]
    rfl
/-- a loop with what stays true -/
theorem forL_inv {f : D → Env → Sr → Ro} (I : Nat → Env → Sr → Prop) : ∀ (ds : List D) (k : Nat) {env : Env} {S : Sr}, I k env S →
    (∀ i d env S, ds[i]? = some d → I (k + i) env S → ∃ env' S', (f d env S = .nx env' S' ∨ f d env S = .ct env' S') ∧ I (k + i + 1) env' S') → ∃ env' S', forL f ds env S = .nx env' S' ∧ I (k + ds.length) env' S'
  | [], k, env, S, h0, _ => ⟨env, S, rfl, h0⟩
  | d :: r, k, env, S, h0, h => by
    obtain ⟨env1, S1, h1, h2⟩ := h 0 d env S rfl h0
    obtain ⟨env2, S2, h3, h4⟩ := forL_inv I r (k + 1) (env := env1) (S := S1) h2 fun i d' env S hd hi => by
      have e1 : k + 1 + i = k + (i + 1) := by omega
      have := h (i + 1) d' env S (by simpa using hd) (by rw [← e1]; exact hi)
      rw [← e1] at this
      exact this
    refine ⟨env2, S2, ?_, ?_⟩
    · rw [forL]
      rcases h1 with h1 | h1
      · rw [h1]; exact h3
      · rw [h1]; exact h3
    · rw [List.length_cons]
      have e1 : k + 1 + r.length = k + (r.length + 1) := by omega
      rw [← e1]
      exact h4

/-- at least k draws may come -/
structure Dr (k : Nat) (S : Sr) : Prop where
  c0 : 0 < S.cells.length
  c1 : S.cells.length ≤ 1000
  t0 : 0 ≤ S.turn
  t1 : S.turn + k < 2 ^ 64
theorem Dr.less {j k : Nat} {S : Sr} (h : Dr k S) (l : j ≤ k) : Dr j S := ⟨h.c0, h.c1, h.t0, by have := h.t1; omega⟩
theorem small_nn (c t : Int) : 0 ≤ drawSmall c t := Int.emod_nonneg _ (by decide)
theorem draw_some {k : Nat} {S : Sr} (h : Dr (k + 1) S) {L : Int} (h0 : 0 < L) (h1 : L < 2 ^ 64) : ∃ v S', drawR [.src, .int L] S = .ok .fz (.int v) S' ∧ 0 ≤ v ∧ v < L ∧ Dr k S' := by
  have t1 := h.t1
  have ok : DrawOk S L := ⟨h0, h1, h.c0, h.c1, h.t0, by omega⟩
  refine ⟨drawV S L, drawS S L, if_pos ok, ?_, ?_, ?_⟩
  · unfold drawV
    split
    · exact Int.emod_nonneg _ (by omega)
    · exact Int.emod_nonneg _ (by omega)
  · unfold drawV
    split
    · exact Int.emod_lt_of_pos _ h0
    · exact Int.emod_lt_of_pos _ h0
  · have t0 := h.t0
    unfold drawS
    split
    · exact ⟨by rw [List.length_set]; exact h.c0, by rw [List.length_set]; exact h.c1, by show 0 ≤ S.turn + 1; omega, by show S.turn + 1 + k < 2 ^ 64; omega⟩
    · exact ⟨h.c0, h.c1, by show 0 ≤ S.turn + 1; omega, by show S.turn + 1 + k < 2 ^ 64; omega⟩
theorem run_prim {P : Pg} {n : Nat} {f : Str} {ds : List D} {S : Sr} {p : Nat × (List D → Sr → R)} (h : P.primOf f = some p) : P.run (n + 1) f ds S = p.2 ds S := by
  rw [Pg.run, h]
theorem run_def {P : Pg} {n : Nat} {f : Str} {ds : List D} {S : Sr} {d : Fd} (h : P.primOf f = none) (h2 : P.find f = some d) (hl : ds.length = d.ps.length) : P.run (n + 1) f ds S = endR (exL P.T (P.run n) d.body (startE d.N.length ds) S) := by
  rw [Pg.run, h]
  dsimp only
  rw [h2]
  exact if_pos hl
/-- plain values, down to a depth -/
theorem atI_in {α : Type} {xs : List α} {i : Nat} (h : i < xs.length) : L2.atI xs (i : Int) = some xs[i] := by
  unfold L2.atI
  have e : L2.ixN xs.length (i : Int) = some i := by
    unfold L2.ixN
    rw [if_pos (by omega), if_pos (by omega)]
    rfl
  rw [e]
  exact List.getElem?_eq_getElem h
/-- no list is owned -/
def noOwn : Env → Bool
  | [] => true
  | some (true, _) :: _ => false
  | some (false, _) :: r => noOwn r
  | none :: r => noOwn r
theorem noOwn_at : ∀ {env : Env}, noOwn env = true → ∀ (i : Nat) (d : D), env[i]? ≠ some (some (true, d))
  | [], _, i, d, h => by simp at h
  | some (true, _) :: _, h, _, _, _ => by cases h
  | some (false, _) :: r, h, i, d, q => by
    cases i with
    | zero => cases q
    | succ i => exact noOwn_at (env := r) h i d (by simpa using q)
  | none :: r, h, i, d, q => by
    cases i with
    | zero => cases q
    | succ i => exact noOwn_at (env := r) h i d (by simpa using q)
theorem freeze_no {env : Env} (h : noOwn env = true) : ∀ is : List Nat, freezeE env is = env
  | [] => rfl
  | i :: is => by
    rw [freezeE, freeze_no h is]
    split
    · rename_i d hd
      exact absurd hd (noOwn_at h i d)
    · rfl
theorem no_nil : noOwn [] = true := by
  cases h : noOwn [] with
  | true => exact h ▸ rfl
  | false => cases h
theorem no_fz (d : D) (r : Env) : (noOwn (some (false, d) :: r) = true) = (noOwn r = true) := propext Iff.rfl
theorem no_no (r : Env) : (noOwn (none :: r) = true) = (noOwn r = true) := propext Iff.rfl
theorem deq_int (i j : Int) : deq (.int i) (.int j) = some (decide (i = j)) := by
  show some (i == j) = _
  congr 1
theorem at0 {α : Type} {x : α} {r : List α} : L2.atI (x :: r) 0 = some x := by
  have := atI_in (xs := x :: r) (i := 0) (by simp)
  exact this
theorem at1 {α : Type} {x y : α} {r : List α} : L2.atI (x :: y :: r) 1 = some y := by
  have := atI_in (xs := x :: y :: r) (i := 1) (by simp)
  exact this
theorem at2 {α : Type} {x y z : α} {r : List α} : L2.atI (x :: y :: z :: r) 2 = some z := by
  have := atI_in (xs := x :: y :: z :: r) (i := 2) (by simp)
  exact this
section
variable {S : Sr}
theorem b_len_l (xs : List D) : bltD .len [.lst xs] S = .ok .fz (.int xs.length) S := rfl
theorem b_len_t (xs : List D) : bltD .len [.tup xs] S = .ok .fz (.int xs.length) S := rfl
theorem b_tup_l (xs : List D) : bltD .tuple [.lst xs] S = .ok .fz (.tup xs) S := rfl
theorem b_tup_t (xs : List D) : bltD .tuple [.tup xs] S = .ok .fz (.tup xs) S := rfl
theorem b_lst_l (xs : List D) : bltD .list [.lst xs] S = .ok .fr (.lst xs) S := rfl
theorem b_lst_t (xs : List D) : bltD .list [.tup xs] S = .ok .fr (.lst xs) S := rfl
theorem b_int (i : Int) : bltD .int [.int i] S = .ok .fz (.int i) S := rfl
theorem b_abs (i : Int) : bltD .abs [.int i] S = .ok .fz (.int (if i < 0 then -i else i)) S := rfl
theorem b_all {α : Type} (p : α → Bool) (l : List α) : bltD .all [.lst (l.map fun x => .bl (p x))] S = .ok .fz (.bl (l.all p)) S := by
  show okb ((bools (l.map fun x => D.bl (p x))).map (·.all id)) S = _
  rw [bools_map]
  show R.ok .fz (.bl ((l.map p).all id)) S = _
  rw [List.all_map]
  rfl
theorem b_any {α : Type} (p : α → Bool) (l : List α) : bltD .any [.lst (l.map fun x => .bl (p x))] S = .ok .fz (.bl (l.any p)) S := by
  show okb ((bools (l.map fun x => D.bl (p x))).map (·.any id)) S = _
  rw [bools_map]
  show R.ok .fz (.bl ((l.map p).any id)) S = _
  rw [List.any_map]
  rfl
theorem b_add (i j : Int) : binD .add (.int i) (.int j) S = .ok .fz (.int (i + j)) S := rfl
theorem b_sub (i j : Int) : binD .sub (.int i) (.int j) S = .ok .fz (.int (i - j)) S := rfl
theorem b_mul {i j : Int} (h : W64 i ∨ W64 j) : binD .mul (.int i) (.int j) S = .ok .fz (.int (i * j)) S := if_pos h
theorem b_mod {i j : Int} (h : 0 < j) : binD .mod (.int i) (.int j) S = .ok .fz (.int (i % j)) S := if_pos h
theorem b_pow {i j : Int} (h : 0 ≤ j ∧ j ≤ 1000000 ∧ i.natAbs < 2 ^ 64) : binD .pow (.int i) (.int j) S = .ok .fz (.int (i ^ j.toNat)) S := if_pos h
theorem b_addL {xs ys : List D} (h : xs.length + ys.length ≤ szMax) : binD .add (.lst xs) (.lst ys) S = .ok .fr (.lst (xs ++ ys)) S := if_pos ⟨rfl, h⟩
theorem c_lt (i j : Int) : cmpD .lt (.int i) (.int j) = some (decide (i < j)) := rfl
theorem c_le (i j : Int) : cmpD .le (.int i) (.int j) = some (decide (i ≤ j)) := rfl
theorem c_gt (i j : Int) : cmpD .gt (.int i) (.int j) = some (decide (j < i)) := rfl
theorem c_ge (i j : Int) : cmpD .ge (.int i) (.int j) = some (decide (j ≤ i)) := rfl
theorem c_eqi (i j : Int) : cmpD .eq (.int i) (.int j) = some (decide (i = j)) := deq_int i j
theorem c_nei (i j : Int) : cmpD .ne (.int i) (.int j) = some (!decide (i = j)) := by
  show (deq (.int i) (.int j)).map (!·) = _
  rw [deq_int]
  rfl
theorem c_is (x : D) : cmpD .is_ x .non = some x.isNon := rfl
theorem c_isn (x : D) : cmpD .isn x .non = some (!x.isNon) := rfl
theorem i_lst (xs : List D) (i : Int) : ixD (.lst xs) (.int i) = L2.atI xs i := rfl
theorem i_tup (xs : List D) (i : Int) : ixD (.tup xs) (.int i) = L2.atI xs i := rfl
end
theorem compL_rng {m : Int} {turn : D → Sr → Option (Option D × Sr)} {S : Sr} (g : Nat → D) (h : ∀ k : Nat, (k : Int) < m → turn (.int k) S = some (some (g k), S)) : compL turn (rangeD 0 m) S = some ((List.range m.toNat).map g, S) := by
  have e : rangeD 0 m = (List.range m.toNat).map fun (k : Nat) => D.int k := by
    unfold rangeD
    rw [Int.sub_zero]
    refine List.map_congr_left fun k _ => ?_
    rw [Int.zero_add]
  have key : ∀ l : List Nat, (∀ k ∈ l, (k : Int) < m) → compL turn (l.map fun (k : Nat) => D.int k) S = some (l.map g, S) := by
    intro l
    induction l with
    | nil => intro _; rfl
    | cons k l ih =>
      intro hl
      rw [List.map_cons, compL, h k (hl k List.mem_cons_self)]
      dsimp only
      rw [ih fun x hx => hl x (List.mem_cons_of_mem _ hx)]
      rfl
  rw [e]
  exact key _ fun k hk => by
    have := List.mem_range.mp hk
    omega
/-- a loop that may return -/
theorem forL_or {f : D → Env → Sr → Ro} (I : Nat → Env → Sr → Prop) (Rt : Md → D → Sr → Prop) : ∀ (ds : List D) (k : Nat) {env : Env} {S : Sr}, I k env S →
    (∀ i d env S, ds[i]? = some d → I (k + i) env S → (∃ env' S', (f d env S = .nx env' S' ∨ f d env S = .ct env' S') ∧ I (k + i + 1) env' S') ∨ ∃ m x S', f d env S = .rt m x S' ∧ Rt m x S') →
    (∃ env' S', forL f ds env S = .nx env' S' ∧ I (k + ds.length) env' S') ∨ ∃ m x S', forL f ds env S = .rt m x S' ∧ Rt m x S'
  | [], k, env, S, h0, _ => .inl ⟨env, S, rfl, h0⟩
  | d :: r, k, env, S, h0, h => by
    rcases h 0 d env S rfl h0 with ⟨env1, S1, h1, h2⟩ | ⟨m, x, S1, h1, h2⟩
    · have next := forL_or I Rt r (k + 1) (env := env1) (S := S1) h2 fun i d' env S hd hi => by
        have e1 : k + 1 + i = k + (i + 1) := by omega
        have := h (i + 1) d' env S (by simpa using hd) (by rw [← e1]; exact hi)
        rw [← e1] at this
        exact this
      have step : forL f (d :: r) env S = forL f r env1 S1 := by
        rw [forL]
        rcases h1 with h1 | h1
        · rw [h1]
        · rw [h1]
      have e1 : k + 1 + r.length = k + (r.length + 1) := by omega
      rw [step, List.length_cons, ← e1]
      exact next
    · refine .inr ⟨m, x, S1, ?_, h2⟩
      rw [forL, h1]
theorem md1 : (Md.fz == Md.br) = false := by decide
theorem md2 : (Md.fr == Md.br) = false := by decide
theorem md3 : (Md.br == Md.br) = true := by decide
section
variable {T : Tab} {call : Str → List D → Sr → R}
def bodyF (T : Tab) (call : Str → List D → Sr → R) (tg : Tg) (b : List St) : D → Env → Sr → Ro := fun d env S => match tgD tg d env with
  | some env => exL T call b env S
  | none => .bad
theorem exS_for {tg : Tg} {it : It} {b : List St} {env : Env} {S S1 : Sr} {ds : List D} (h : evI T call it (freezeE env (escF it)) S = .ok false ds S1) :
    exS T call (.for_ tg it b) env S = forL (bodyF T call tg b) ds (freezeE env (escF it)) S1 := by
  rw [exS, h]
  rfl
theorem exL_cons {s : St} {r : List St} {env : Env} {S : Sr} : exL T call (s :: r) env S = (exS T call s env S).seq fun env S => exL T call r env S := by rw [exL]
end
theorem compL_of {α : Type} {f : α → D} {turn : D → Sr → Option (Option D × Sr)} {S : Sr} {g : α → Option D} : ∀ {l : List α}, (∀ a ∈ l, turn (f a) S = some (g a, S)) → compL turn (l.map f) S = some (l.filterMap g, S)
  | [], _ => rfl
  | a :: r, h => by
    rw [List.map_cons, compL, h a List.mem_cons_self]
    dsimp only
    rw [compL_of fun x hx => h x (List.mem_cons_of_mem _ hx)]
    cases e : g a with
    | none => rw [List.filterMap_cons_none e]
    | some x => rw [List.filterMap_cons_some e]
theorem filterMap_if {α β : Type} (q : α → Bool) (f : α → β) : ∀ l : List α, (l.filterMap fun a => if q a then some (f a) else none) = (l.filter q).map f
  | [] => rfl
  | a :: l => by
    rw [List.filter_cons]
    cases e : q a with
    | true => rw [List.filterMap_cons_some (by rw [e]; rfl), filterMap_if q f l]; rfl
    | false => rw [List.filterMap_cons_none (by rw [e]; rfl), filterMap_if q f l]; rfl
theorem b_addT {S : Sr} {xs ys : List D} (h2 : xs.length + ys.length ≤ szMax) : binD .add (.tup xs) (.tup ys) S = .ok .fz (.tup (xs ++ ys)) S := if_pos ⟨rfl, h2⟩
theorem b_sort {S : Sr} {xs ys : List D} (h : sortD xs = some ys) : bltD .sorted [.lst xs] S = .ok .fr (.lst ys) S := by
  show (match sortD xs with | some ys => R.ok .fr (.lst ys) S | none => .bad) = _
  rw [h]
end Mp
set_option Elab.async false
set_option maxRecDepth 100000
set_option maxHeartbeats 4000000
/-! Mq2: rows of whole numbers in ascending order; plain values with bounded numbers. -/
namespace Mp
open PySem
theorem pds_ints : ∀ l : List Int, D.pds (l.map Mp.D.int) = l.map PyData.int
  | [] => rfl
  | x :: l => by
    rw [List.map_cons, D.pds, pds_ints l]
    rfl
theorem dltb_tup (a b : List Int) : dltb (tupD a) (tupD b) = decide (a < b) := by
  have e : dltb (tupD a) (tupD b) = PySem.W.dataLt (.tuple (a.map PyData.int)) (.tuple (b.map PyData.int)) := by
    rw [← pds_ints, ← pds_ints]
    rfl
  rw [e, PySem.W.dataLt_tuple]
  exact PySem.W.dataLt_ints a b
theorem rows_tup : ∀ ls : List (List Int), rowsD (ls.map tupD) = some ls
  | [] => rfl
  | l :: ls => by
    rw [List.map_cons, rowsD, rows_tup ls]
    have e : rowOf (tupD l) = some l := by
      show intsOf (l.map .int) = some l
      have := intsOf_mapI (fun x => x) l
      rw [List.map_id'] at this
      exact this
    rw [e]
theorem sset_tup {ls : List (List Int)} (h1 : BigOk ls) (h2 : ∀ l ∈ ls, l ≠ []) : ssetD (ls.map tupD) = some ((ssort ls).map tupD) := by
  unfold ssetD
  rw [rows_tup]
  exact if_pos ⟨h1, h2⟩
theorem eqbs_ints : ∀ a b : List Int, D.eqbs (a.map .int) (b.map .int) = decide (a = b)
  | [], [] => rfl
  | [], y :: b => rfl
  | x :: a, [] => rfl
  | x :: a, y :: b => by
    rw [List.map_cons, List.map_cons, D.eqbs, eqbs_ints a b]
    show (x == y && decide (a = b)) = _
    by_cases h1 : x = y <;> by_cases h2 : a = b <;> simp [h1, h2]
theorem eqbs_rows : ∀ ls ms : List (List Int), D.eqbs (ls.map tupD) (ms.map tupD) = decide (ls = ms)
  | [], [] => rfl
  | [], y :: b => rfl
  | x :: a, [] => rfl
  | x :: a, y :: b => by
    rw [List.map_cons, List.map_cons, D.eqbs, eqbs_rows a b]
    have e : D.eqb (tupD x) (tupD y) = decide (x = y) := eqbs_ints x y
    rw [e]
    by_cases h1 : x = y <;> by_cases h2 : a = b <;> simp [h1, h2]
theorem once_nd : ∀ {ls : List (List Int)}, ls.Nodup → once ls = ls
  | [], _ => rfl
  | x :: r, h => by
    rw [List.nodup_cons] at h
    unfold once
    rw [if_neg h.1, once_nd h.2]
theorem asc_pw : ∀ {ls : List (List Int)}, (∀ i (h : i + 1 < ls.length), ls[i] < ls[i + 1]) → ls.Pairwise (· < ·)
  | [], _ => .nil
  | [x], _ => .cons (fun y h => nomatch h) .nil
  | x :: y :: r, h => by
    have p := asc_pw (ls := y :: r) fun i hi => h (i + 1) (by simpa using hi)
    refine .cons (fun z hz => ?_) p
    have xy : x < y := h 0 (by simp)
    rcases List.mem_cons.mp hz with rfl | hz
    · exact xy
    · exact List.lt_trans xy (List.rel_of_pairwise_cons p hz)
theorem pw_asc {ls : List (List Int)} (p : ls.Pairwise (· < ·)) : ∀ i (h : i + 1 < ls.length), ls[i] < ls[i + 1] := fun i h => List.pairwise_iff_getElem.mp p i (i + 1) (by omega) h (by omega)
theorem ssort_iff (ls : List (List Int)) : ls = ssort ls ↔ ∀ i (h : i + 1 < ls.length), ls[i] < ls[i + 1] := by
  constructor
  · intro e
    refine pw_asc ?_
    have p1 := ssort_sorted ls
    have p2 := nodup_ssort ls
    rw [← e] at p1 p2
    refine List.Pairwise.imp₂ (fun a b h1 h2 => ?_) p1 p2
    exact (List.le_iff_lt_or_eq.mp h1).resolve_right h2
  · intro h
    have p := asc_pw h
    have nd : ls.Nodup := p.imp fun h e => by subst e; exact List.lt_irrefl _ h
    refine sorted_one ?_ (p.imp fun h => List.le_iff_lt_or_eq.mpr (.inl h)) (ssort_sorted ls)
    unfold ssort
    rw [once_nd nd]
    exact (List.mergeSort_perm _ _).symm
/-- the greatest number that is carried -/
def big : Int := 10 ^ 60
mutual
/-- plain values, down to a depth, whose numbers are not too great -/
def D.fn : D → Nat → Bool
  | .non, _ => true
  | .bl _, _ => true
  | .int i, _ => decide (i ≤ big)
  | .str _, _ => true
  | .lst xs, n => match n with | 0 => false | n + 1 => D.fns xs n
  | .tup xs, n => match n with | 0 => false | n + 1 => D.fns xs n
  | _, _ => false
def D.fns : List D → Nat → Bool
  | [], _ => true
  | x :: xs, n => D.fn x n && D.fns xs n
end
mutual
theorem fn_ok : ∀ {d : D} {n : Nat}, d.fn n = true → d.ok n = true
  | .non, _, _ => rfl
  | .bl _, _, _ => rfl
  | .int _, _, _ => rfl
  | .str _, _, _ => rfl
  | .lst xs, 0, h => by simp [D.fn] at h
  | .lst xs, n + 1, h => fns_ok (ds := xs) (n := n) h
  | .tup xs, 0, h => by simp [D.fn] at h
  | .tup xs, n + 1, h => fns_ok (ds := xs) (n := n) h
  | .dct _, _, h => by simp [D.fn] at h
  | .set _, _, h => by simp [D.fn] at h
  | .exc _ _, _, h => by simp [D.fn] at h
  | .src, _, h => by simp [D.fn] at h
theorem fns_ok : ∀ {ds : List D} {n : Nat}, D.fns ds n = true → D.oks ds n = true
  | [], _, _ => rfl
  | d :: ds, n, h => by
    rw [D.fns, Bool.and_eq_true] at h
    rw [D.oks, Bool.and_eq_true]
    exact ⟨fn_ok h.1, fns_ok h.2⟩
end
mutual
theorem fn_more : ∀ {d : D} {n : Nat}, d.fn n = true → d.fn (n + 1) = true
  | .non, _, _ => rfl
  | .bl _, _, _ => rfl
  | .int _, _, h => h
  | .str _, _, _ => rfl
  | .lst xs, 0, h => by simp [D.fn] at h
  | .lst xs, n + 1, h => fns_more (ds := xs) (n := n) h
  | .tup xs, 0, h => by simp [D.fn] at h
  | .tup xs, n + 1, h => fns_more (ds := xs) (n := n) h
  | .dct _, _, h => by simp [D.fn] at h
  | .set _, _, h => by simp [D.fn] at h
  | .exc _ _, _, h => by simp [D.fn] at h
  | .src, _, h => by simp [D.fn] at h
theorem fns_more : ∀ {ds : List D} {n : Nat}, D.fns ds n = true → D.fns ds (n + 1) = true
  | [], _, _ => rfl
  | d :: ds, n, h => by
    rw [D.fns, Bool.and_eq_true] at h ⊢
    exact ⟨fn_more h.1, fns_more h.2⟩
end
theorem fns_iff {n : Nat} : ∀ {ds : List D}, D.fns ds n = true ↔ ∀ d ∈ ds, d.fn n = true
  | [] => ⟨fun _ d h => (nomatch h), fun _ => rfl⟩
  | d :: ds => by
    rw [D.fns, Bool.and_eq_true, fns_iff (ds := ds), List.forall_mem_cons]
theorem fns_app {n : Nat} {a b : List D} (h1 : D.fns a n = true) (h2 : D.fns b n = true) : D.fns (a ++ b) n = true :=
  fns_iff.mpr fun d hd => (List.mem_append.mp hd).elim (fns_iff.mp h1 d) (fns_iff.mp h2 d)
theorem mem_cut {xs : List D} {lo hi : Option Int} {d : D} (h : d ∈ cutD xs lo hi) : d ∈ xs := List.mem_of_mem_drop (List.mem_of_mem_take h)
theorem fns_cut {n : Nat} {a : List D} {lo hi : Option Int} (h1 : D.fns a n = true) : D.fns (cutD a lo hi) n = true :=
  fns_iff.mpr fun d hd => fns_iff.mp h1 d (mem_cut hd)
theorem fns_rep {n k : Nat} {a : List D} (h1 : D.fns a n = true) : D.fns (List.flatten (List.replicate k a)) n = true :=
  fns_iff.mpr fun d hd => by
    obtain ⟨l, hl, hd⟩ := List.mem_flatten.mp hd
    rw [(List.mem_replicate.mp hl).2] at hd
    exact fns_iff.mp h1 d hd
theorem fns_rev {n : Nat} {a : List D} (h1 : D.fns a n = true) : D.fns a.reverse n = true :=
  fns_iff.mpr fun d hd => fns_iff.mp h1 d (List.mem_reverse.mp hd)
theorem fns_mem {n : Nat} {a : List D} {d : D} (h1 : D.fns a n = true) (h : d ∈ a) : d.fn n = true := fns_iff.mp h1 d h
theorem len_cut (xs : List D) (lo hi : Option Int) : (cutD xs lo hi).length ≤ xs.length := by
  unfold cutD
  rw [List.length_take, List.length_drop]
  omega
end Mp
set_option Elab.async false
set_option maxRecDepth 100000
set_option maxHeartbeats 4000000
/-! Mq3: sorts that the kernel can run. -/
namespace Mp
open PySem
section
variable {α : Type} (lt : α → α → Prop) [DecidableRel lt] [DecidableEq α]
/-- put in, each once -/
def insO (x : α) : List α → List α
  | [] => [x]
  | y :: r => if x = y then y :: r else if lt x y then x :: y :: r else y :: insO x r
def isO : List α → List α
  | [] => []
  | x :: r => insO lt x (isO r)
variable {lt}
theorem mem_insO {x y : α} : ∀ {l : List α}, y ∈ insO lt x l ↔ y = x ∨ y ∈ l
  | [] => by rw [insO, List.mem_singleton]; simp
  | z :: r => by
    rw [insO]
    split
    · rename_i h
      subst h
      rw [List.mem_cons]
      exact ⟨.inr, fun q => q.elim .inl id⟩
    · split
      · rw [List.mem_cons]
      · rw [List.mem_cons, mem_insO (l := r), List.mem_cons]
        constructor
        · rintro (h | h | h)
          · exact .inr (.inl h)
          · exact .inl h
          · exact .inr (.inr h)
        · rintro (h | h | h)
          · exact .inr (.inl h)
          · exact .inl h
          · exact .inr (.inr h)
theorem mem_isO {y : α} : ∀ {l : List α}, y ∈ isO lt l ↔ y ∈ l
  | [] => Iff.rfl
  | x :: r => by rw [isO, mem_insO, mem_isO (l := r), List.mem_cons]
theorem insO_sorted (tri : ∀ a b : α, lt a b ∨ a = b ∨ lt b a) (tr : ∀ a b c : α, lt a b → lt b c → lt a c) {x : α} : ∀ {l : List α}, l.Pairwise lt → (insO lt x l).Pairwise lt
  | [], _ => by rw [insO]; exact List.pairwise_singleton _ _
  | y :: r, h => by
    have hc := List.pairwise_cons.mp h
    rw [insO]
    split
    · exact h
    · rename_i hne
      split
      · rename_i hlt
        refine List.pairwise_cons.mpr ⟨fun z hz => ?_, h⟩
        rcases List.mem_cons.mp hz with rfl | hz
        · exact hlt
        · exact tr _ _ _ hlt (hc.1 z hz)
      · rename_i hnl
        refine List.pairwise_cons.mpr ⟨fun z hz => ?_, insO_sorted tri tr hc.2⟩
        rcases mem_insO.mp hz with rfl | hz
        · rcases tri z y with q | q | q
          · exact absurd q hnl
          · exact absurd q hne
          · exact q
        · exact hc.1 z hz
theorem isO_sorted (tri : ∀ a b : α, lt a b ∨ a = b ∨ lt b a) (tr : ∀ a b c : α, lt a b → lt b c → lt a c) : ∀ l : List α, (isO lt l).Pairwise lt
  | [] => List.Pairwise.nil
  | x :: r => by rw [isO]; exact insO_sorted tri tr (isO_sorted tri tr r)
/-- two ascending lists with the same members are one -/
theorem one_asc (irr : ∀ a : α, ¬ lt a a) (tr : ∀ a b c : α, lt a b → lt b c → lt a c) : ∀ {l m : List α}, l.Pairwise lt → m.Pairwise lt → (∀ x, x ∈ l ↔ x ∈ m) → l = m
  | [], [], _, _, _ => rfl
  | [], y :: m, _, _, h => absurd ((h y).mpr List.mem_cons_self) (fun z => nomatch z)
  | x :: l, [], _, _, h => absurd ((h x).mp List.mem_cons_self) (fun z => nomatch z)
  | x :: l, y :: m, hl, hm, h => by
    have cl := List.pairwise_cons.mp hl
    have cm := List.pairwise_cons.mp hm
    have e : x = y := by
      rcases List.mem_cons.mp ((h x).mp List.mem_cons_self) with q | q
      · exact q
      · rcases List.mem_cons.mp ((h y).mpr List.mem_cons_self) with q2 | q2
        · exact q2.symm
        · exact absurd (tr _ _ _ (cl.1 y q2) (cm.1 x q)) (irr x)
    subst e
    rw [one_asc irr tr cl.2 cm.2 fun z => ?_]
    constructor
    · intro hz
      rcases List.mem_cons.mp ((h z).mp (List.mem_cons_of_mem _ hz)) with q | q
      · subst q
        exact absurd (cl.1 _ hz) (irr _)
      · exact q
    · intro hz
      rcases List.mem_cons.mp ((h z).mpr (List.mem_cons_of_mem _ hz)) with q | q
      · subst q
        exact absurd (cm.1 _ hz) (irr _)
      · exact q
end
theorem tri_ints (a b : List Int) : a < b ∨ a = b ∨ b < a := by
  rcases List.le_total a b with h | h
  · by_cases e : a = b
    · exact .inr (.inl e)
    · by_cases q : a < b
      · exact .inl q
      · exact absurd (List.le_antisymm h (List.not_lt.mp q)) e
  · by_cases e : a = b
    · exact .inr (.inl e)
    · by_cases q : b < a
      · exact .inr (.inr q)
      · exact absurd (List.le_antisymm (List.not_lt.mp q) h) e
theorem ssort_asc (l : List (List Int)) : (ssort l).Pairwise (· < ·) := by
  have h1 := ssort_sorted l
  have h2 : (ssort l).Pairwise (· ≠ ·) := nodup_ssort l
  refine (h1.and h2).imp fun {a b} h => ?_
  rcases tri_ints a b with q | q | q
  · exact q
  · exact absurd q h.2
  · exact absurd (List.le_antisymm h.1 (List.le_of_lt q)) h.2
/-- the sort of tuples, as the kernel runs it -/
theorem ssort_is (l : List (List Int)) : ssort l = isO (· < ·) l :=
  one_asc (fun a => List.lt_irrefl a) (fun _ _ _ => List.lt_trans) (ssort_asc l) (isO_sorted tri_ints (fun _ _ _ => List.lt_trans) l) fun x => by rw [mem_ssort, mem_isO]
theorem isO_test : ssort [[2, 1], [0], [2, 1], [0, 5], [-3]] = [[-3], [0], [0, 5], [2, 1]] := by
  rw [ssort_is]
  decide +kernel
theorem eqv_int (x y : Int) : PyData.eqv (.int x) (.int y) = decide (x = y) := by
  show (x == y) = _
  by_cases h : x = y <;> simp [h]
theorem eqvAll_ints : ∀ a b : List Int, PyData.eqvAll (a.map .int) (b.map .int) = decide (a = b)
  | [], [] => rfl
  | [], y :: b => rfl
  | x :: a, [] => rfl
  | x :: a, y :: b => by
    rw [List.map_cons, List.map_cons, PyData.eqvAll, eqvAll_ints a b, eqv_int]
    by_cases h1 : x = y <;> by_cases h2 : a = b <;> simp [h1, h2]
theorem alikeAll_ints : ∀ a b : List Int, PySem.W.alikeAll (a.map .int) (b.map .int) = true
  | [], [] => by simp [PySem.W.alikeAll]
  | [], y :: b => by simp [PySem.W.alikeAll]
  | x :: a, [] => by simp [PySem.W.alikeAll]
  | x :: a, y :: b => by
    rw [List.map_cons, List.map_cons, PySem.W.alikeAll, alikeAll_ints a b]
    simp [PySem.W.alike]
/-- a pair of a number and a row -/
def pairD (p : Int × List Int) : D := .tup [.int p.1, tupD p.2]
def ltP (p q : Int × List Int) : Prop := p.1 < q.1 ∨ p.1 = q.1 ∧ p.2 < q.2
instance : DecidableRel ltP := fun p q => inferInstanceAs (Decidable (_ ∨ _))
theorem dltb_pair (p q : Int × List Int) : dltb (pairD p) (pairD q) = decide (ltP p q) := by
  have e : dltb (pairD p) (pairD q) = PySem.W.dataLt (.tuple [.int p.1, .tuple (p.2.map PyData.int)]) (.tuple [.int q.1, .tuple (q.2.map PyData.int)]) := by
    rw [← pds_ints, ← pds_ints]
    rfl
  have e2 : PySem.W.dataLt (.tuple (p.2.map PyData.int)) (.tuple (q.2.map PyData.int)) = decide (p.2 < q.2) := by
    rw [PySem.W.dataLt_tuple]
    exact PySem.W.dataLt_ints p.2 q.2
  have a1 : PySem.W.alike (.int p.1) (.int q.1) = true := by simp [PySem.W.alike]
  have a2 : PySem.W.alike (.tuple (p.2.map PyData.int)) (.tuple (q.2.map PyData.int)) = true := by
    rw [PySem.W.alike]
    exact alikeAll_ints p.2 q.2
  have e3 : PyData.eqv (.tuple (p.2.map PyData.int)) (.tuple (q.2.map PyData.int)) = decide (p.2 = q.2) := by
    rw [PyData.eqv]
    exact eqvAll_ints p.2 q.2
  rw [e, PySem.W.dataLt_pair a1 a2, eqv_int, e3, e2, PySem.W.dataLt_int]
  unfold ltP
  by_cases h1 : p.1 = q.1
  · by_cases h2 : p.2 = q.2
    · have l1 : ¬ q.1 < q.1 := Int.lt_irrefl _
      have l2 : ¬ q.2 < q.2 := List.lt_irrefl _
      simp [h1, h2, l1, l2]
    · have l1 : ¬ q.1 < q.1 := Int.lt_irrefl _
      simp [h1, h2, l1]
  · simp [h1]
theorem tri_P (p q : Int × List Int) : ltP p q ∨ p = q ∨ ltP q p := by
  obtain ⟨n, a⟩ := p
  obtain ⟨m, b⟩ := q
  unfold ltP
  rcases Int.lt_trichotomy n m with h | h | h
  · exact .inl (.inl h)
  · subst h
    rcases tri_ints a b with q | q | q
    · exact .inl (.inr ⟨rfl, q⟩)
    · exact .inr (.inl (by rw [q]))
    · exact .inr (.inr (.inr ⟨rfl, q⟩))
  · exact .inr (.inr (.inl h))
theorem tr_P (p q r : Int × List Int) (h1 : ltP p q) (h2 : ltP q r) : ltP p r := by
  unfold ltP at *
  rcases h1 with h1 | ⟨h1, h1'⟩ <;> rcases h2 with h2 | ⟨h2, h2'⟩
  · exact .inl (by omega)
  · exact .inl (by omega)
  · exact .inl (by omega)
  · exact .inr ⟨by omega, List.lt_trans h1' h2'⟩
theorem irr_P (p : Int × List Int) : ¬ ltP p p := by
  rintro (h | ⟨_, h⟩)
  · exact Int.lt_irrefl _ h
  · exact List.lt_irrefl _ h
theorem dle_not (x y : D) : dle x y = !dltb y x := rfl
/-- a sort by a total order of what is told twice nowhere, as the kernel runs it -/
theorem merge_is {α : Type} [DecidableEq α] {lt : α → α → Prop} [DecidableRel lt] (tri : ∀ a b : α, lt a b ∨ a = b ∨ lt b a) (tr : ∀ a b c : α, lt a b → lt b c → lt a c) (irr : ∀ a : α, ¬ lt a a) (F : List α) (nd : F.Nodup) :
    F.mergeSort (fun p q => !decide (lt q p)) = isO lt F := by
  have as : ∀ a b : α, lt a b → ¬ lt b a := fun a b h1 h2 => irr a (tr _ _ _ h1 h2)
  have pw := List.pairwise_mergeSort (le := fun p q : α => !decide (lt q p)) (fun a b c h1 h2 => by
    simp only [Bool.not_eq_true', decide_eq_false_iff_not] at *
    intro h
    rcases tri b a with q | q | q
    · exact h1 q
    · subst q
      exact h2 h
    · exact h2 (tr _ _ _ h q)) (fun a b => by
    simp only [Bool.or_eq_true, Bool.not_eq_true', decide_eq_false_iff_not]
    rcases tri a b with q | q | q
    · exact .inl (as a b q)
    · subst q
      exact .inl (irr a)
    · exact .inr (as b a q)) F
  have nd2 : (F.mergeSort fun p q => !decide (lt q p)).Nodup := (List.mergeSort_perm _ _).nodup_iff.mpr nd
  have pn : (F.mergeSort fun p q => !decide (lt q p)).Pairwise (· ≠ ·) := nd2
  refine one_asc irr tr ((pw.and pn).imp fun {a b} h => ?_) (isO_sorted tri tr F) fun x => by rw [List.mem_mergeSort, mem_isO]
  have h1 := h.1
  simp only [Bool.not_eq_true', decide_eq_false_iff_not] at h1
  rcases tri a b with q | q | q
  · exact q
  · exact absurd q h.2
  · exact absurd q h1
theorem sort_pairs (F : List (Int × List Int)) (nd : F.Nodup) : (F.map pairD).mergeSort dle = (isO ltP F).map pairD := by
  rw [← merge_is tri_P tr_P irr_P F nd]
  refine (List.map_mergeSort fun p _ q _ => ?_).symm
  rw [dle_not, dltb_pair]
theorem sort_rows (F : List (List Int)) (nd : F.Nodup) : (F.map tupD).mergeSort dle = (isO (· < ·) F).map tupD := by
  rw [← merge_is tri_ints (fun _ _ _ => List.lt_trans) (fun a => List.lt_irrefl a) F nd]
  refine (List.map_mergeSort fun p _ q _ => ?_).symm
  rw [dle_not, dltb_tup]
end Mp
set_option Elab.async false
set_option maxRecDepth 100000
set_option maxHeartbeats 4000000
/-! Mq4: cells, sorted lists of cells. -/
namespace Mp
open PySem
abbrev Ce := Int × Int
def cD (c : Ce) : D := .tup [.int c.1, .int c.2]
def csD (cs : List Ce) : D := .tup (cs.map cD)
def row2 (c : Ce) : List Int := [c.1, c.2]
def ltC (p q : Ce) : Prop := p.1 < q.1 ∨ p.1 = q.1 ∧ p.2 < q.2
instance : DecidableRel ltC := fun p q => inferInstanceAs (Decidable (_ ∨ _))
theorem tri_C (p q : Ce) : ltC p q ∨ p = q ∨ ltC q p := by
  obtain ⟨a, b⟩ := p
  obtain ⟨c, d⟩ := q
  unfold ltC
  dsimp only
  rcases Int.lt_trichotomy a c with h | h | h
  · exact .inl (.inl h)
  · subst h
    rcases Int.lt_trichotomy b d with k | k | k
    · exact .inl (.inr ⟨rfl, k⟩)
    · exact .inr (.inl (by rw [k]))
    · exact .inr (.inr (.inr ⟨rfl, k⟩))
  · exact .inr (.inr (.inl h))
theorem tr_C (p q r : Ce) (h1 : ltC p q) (h2 : ltC q r) : ltC p r := by
  unfold ltC at *
  omega
theorem irr_C (p : Ce) : ¬ ltC p p := by
  unfold ltC
  omega
theorem row2_inj {p q : Ce} : row2 p = row2 q ↔ p = q := by
  obtain ⟨a, b⟩ := p
  obtain ⟨c, d⟩ := q
  unfold row2
  simp
theorem row2_lt {p q : Ce} : row2 p < row2 q ↔ ltC p q := by
  obtain ⟨a, b⟩ := p
  obtain ⟨c, d⟩ := q
  unfold row2 ltC
  simp [List.cons_lt_cons_iff]
theorem cD_row (c : Ce) : cD c = tupD (row2 c) := rfl
theorem cDs_row (cs : List Ce) : cs.map cD = (cs.map row2).map tupD := by
  rw [List.map_map]
  rfl
theorem insO_map {α β : Type} [DecidableEq α] [DecidableEq β] {lt : α → α → Prop} [DecidableRel lt] {lt' : β → β → Prop} [DecidableRel lt'] {f : α → β} (he : ∀ x y, f x = f y ↔ x = y) (hl : ∀ x y, lt' (f x) (f y) ↔ lt x y) (x : α) : ∀ l : List α, insO lt' (f x) (l.map f) = (insO lt x l).map f
  | [] => rfl
  | y :: r => by
    rw [List.map_cons, insO, insO]
    by_cases h1 : x = y
    · rw [if_pos h1, if_pos ((he x y).mpr h1), List.map_cons]
    · rw [if_neg h1, if_neg (fun z => h1 ((he x y).mp z))]
      by_cases h2 : lt x y
      · rw [if_pos h2, if_pos ((hl x y).mpr h2), List.map_cons, List.map_cons]
      · rw [if_neg h2, if_neg (fun z => h2 ((hl x y).mp z)), List.map_cons, insO_map he hl x r]
theorem isO_map {α β : Type} [DecidableEq α] [DecidableEq β] {lt : α → α → Prop} [DecidableRel lt] {lt' : β → β → Prop} [DecidableRel lt'] {f : α → β} (he : ∀ x y, f x = f y ↔ x = y) (hl : ∀ x y, lt' (f x) (f y) ↔ lt x y) : ∀ l : List α, isO lt' (l.map f) = (isO lt l).map f
  | [] => rfl
  | x :: r => by rw [List.map_cons, isO, isO, isO_map he hl r, insO_map he hl]
/-- the cells in ascending order, each once -/
def srt (cs : List Ce) : List Ce := isO ltC cs
theorem mem_srt {c : Ce} {cs : List Ce} : c ∈ srt cs ↔ c ∈ cs := mem_isO
theorem srt_asc (cs : List Ce) : (srt cs).Pairwise ltC := isO_sorted tri_C tr_C cs
theorem srt_same {a b : List Ce} (h : ∀ c, c ∈ a ↔ c ∈ b) : srt a = srt b := one_asc irr_C tr_C (srt_asc a) (srt_asc b) fun c => by rw [mem_srt, mem_srt, h]
theorem srt_id {a : List Ce} (h : a.Pairwise ltC) : srt a = a := one_asc irr_C tr_C (srt_asc a) h fun c => mem_srt
theorem asc_nodup {a : List Ce} (h : a.Pairwise ltC) : a.Nodup := by
  refine List.Pairwise.imp ?_ h
  intro x y q e
  subst e
  exact irr_C x q
theorem ssort_row (cs : List Ce) : ssort (cs.map row2) = (srt cs).map row2 := by
  rw [ssort_is]
  exact isO_map (fun _ _ => row2_inj) (fun _ _ => row2_lt) cs
theorem row2_ne {cs : List Ce} : ∀ l ∈ cs.map row2, l ≠ [] := fun l hl => by
  obtain ⟨c, _, rfl⟩ := List.mem_map.mp hl
  exact fun z => nomatch z
theorem sset_cs {cs : List Ce} (h : cs.length < 1199) : ssetD (cs.map cD) = some ((srt cs).map cD) := by
  rw [cDs_row, cDs_row, ← ssort_row]
  exact sset_tup (.inl (by rw [List.length_map]; exact h)) row2_ne
theorem alike_cel (a b : Ce) : PySem.W.alike (cD a).pd (cD b).pd = true := by
  show PySem.W.alike (.tuple [.int a.1, .int a.2]) (.tuple [.int b.1, .int b.2]) = true
  simp [PySem.W.alike, PySem.W.alikeAll]
theorem oks_cs (n : Nat) : ∀ cs : List Ce, D.oks (cs.map cD) (n + 1) = true
  | [] => rfl
  | c :: cs => by
    rw [List.map_cons, D.oks, oks_cs n cs]
    rfl
theorem ok_csD (n : Nat) (cs : List Ce) : (csD cs).ok (n + 2) = true := oks_cs n cs
theorem sort_cs {cs : List Ce} (nd : cs.Nodup) (h : cs.length ≤ szMax) : sortD (cs.map cD) = some ((srt cs).map cD) := by
  have e1 : allAlike (cs.map cD) = true := by
    unfold allAlike
    rw [List.all_eq_true]
    intro x hx
    rw [List.all_eq_true]
    intro y hy
    obtain ⟨a, _, rfl⟩ := List.mem_map.mp hx
    obtain ⟨b, _, rfl⟩ := List.mem_map.mp hy
    exact alike_cel a b
  have e2 : sortable (cs.map cD) = true := by
    unfold sortable
    rw [Bool.or_eq_true]
    left
    rw [List.all_eq_true]
    intro x hx
    obtain ⟨a, _, rfl⟩ := List.mem_map.mp hx
    rfl
  have e3 : D.oks (cs.map cD) 60 = true := oks_cs 59 cs
  have e4 : (cs.map cD).mergeSort dle = (srt cs).map cD := by
    rw [cDs_row, sort_rows _ (List.Pairwise.map _ (fun a b hab z => hab (row2_inj.mp z)) nd), cDs_row]
    congr 1
    exact isO_map (fun _ _ => row2_inj) (fun _ _ => row2_lt) cs
  unfold sortD
  rw [e1, e2, e3, e4]
  rw [if_pos]
  rw [List.length_map]
  simp [h]
theorem compL2_of {α β : Type} {f : α → D} {turn : D → Sr → Option (List D × Sr)} {S : Sr} {g : α → List β} {h : β → D} : ∀ {l : List α}, (∀ a ∈ l, turn (f a) S = some ((g a).map h, S)) → compL2 turn (l.map f) S = some ((l.flatMap g).map h, S)
  | [], _ => rfl
  | a :: r, q => by
    rw [List.map_cons, compL2, q a List.mem_cons_self]
    dsimp only
    rw [compL2_of fun x hx => q x (List.mem_cons_of_mem _ hx)]
    rw [List.flatMap_cons, List.map_append]
/-- sums of cells -/
def addC (p q : Ce) : Ce := (p.1 + q.1, p.2 + q.2)
def subC (p q : Ce) : Ce := (p.1 - q.1, p.2 - q.2)
def prd (a b : List Ce) : List Ce := a.flatMap fun p => b.map (addC p)
theorem mem_prd {a b : List Ce} {c : Ce} : c ∈ prd a b ↔ ∃ p ∈ a, ∃ q ∈ b, addC p q = c := by
  unfold prd
  simp [List.mem_flatMap, List.mem_map]
theorem prd_len (a b : List Ce) : (prd a b).length = a.length * b.length := by
  unfold prd
  induction a with
  | nil => simp
  | cons x a ih => rw [List.flatMap_cons, List.length_append, ih, List.length_map, List.length_cons, Nat.succ_mul, Nat.add_comm]
def mnL : List Int → Int
  | [] => 0
  | m :: r => minL m r
theorem mnL_mem {l : List Int} (h : l ≠ []) : mnL l ∈ l := by
  cases l with
  | nil => exact absurd rfl h
  | cons m r =>
    exact (minL_spec r m).1
theorem mnL_le {l : List Int} {x : Int} (h : x ∈ l) : mnL l ≤ x := by
  cases l with
  | nil => cases h
  | cons m r =>
    exact (minL_spec r m).2 x h
theorem b_min {S : Sr} {l : List Int} (h : l ≠ []) : bltD .min [.lst (l.map .int)] S = .ok .fz (.int (mnL l)) S := by
  cases l with
  | nil => exact absurd rfl h
  | cons m r =>
    have e : intsOf ((m :: r).map D.int) = some (m :: r) := by
      have := intsOf_mapI (fun x => x) (m :: r)
      rw [List.map_id'] at this
      exact this
    show (match intsOf ((m :: r).map D.int) with | some (m :: r) => R.ok .fz (.int (minL m r)) S | _ => .bad) = _
    rw [e]
    rfl
/-- moved so that the least numbers are 0 -/
def corner (cs : List Ce) : List Ce := srt (cs.map fun c => subC c (mnL (cs.map (·.1)), mnL (cs.map (·.2))))
theorem compE {T : Tab} {call : Str → List D → Sr → R} {own : List Nat} {tg : Tg} {it : It} {ifs : List Xp} {e : Xp} {env : Env} {S S1 S2 : Sr} {br : Bool} {ds xs : List D} (hi : evI T call it env S = .ok br ds S1) (hc : compL (turnE T call own tg ifs e env) ds S1 = some (xs, S2)) :
    evE T call (.comp own tg it ifs e) env S = .ok .fr (.lst xs) S2 := by
  rw [evE, hi]
  exact (congrArg (fun o : Option (List D × Sr) => match o with | some (xs, S) => R.ok .fr (.lst xs) S | none => .bad) hc)
theorem seq_step {T : Tab} {call : Str → List D → Sr → R} {s : St} {r : List St} {env env' : Env} {S S' : Sr} {q : Ro} (h : exS T call s env S = .nx env' S') (h2 : exL T call r env' S' = q) : exL T call (s :: r) env S = q := by
  rw [exL, h]
  exact h2
theorem seq_rt {T : Tab} {call : Str → List D → Sr → R} {s : St} {r : List St} {env : Env} {S S' : Sr} {m : Md} {d : D} (h : exS T call s env S = .rt m d S') : exL T call (s :: r) env S = .rt m d S' := by
  rw [exL, h]
  rfl
/-- a comprehension within another -/
def turn2 (T : Tab) (call : Str → List D → Sr → R) (own vs : List Nat) (tg : Tg) (ifs : List Xp) (tg1 : Tg) (it1 : It) (ifs1 : List Xp) (e : Xp) (env : Env) (d : D) (S : Sr) : Option (List D × Sr) :=
  match tgD tg d (wipeE env own) with
  | some env' => match evT T call ifs env' S with
    | .ok true S => match evI T call it1 (noOwnE env') S with
      | .ok false ds' S => compL (turnE T call vs tg1 ifs1 e (noOwnE env')) ds' S
      | _ => none
    | .ok false S => some ([], S)
    | .bad => none
  | none => none
theorem compE2 {T : Tab} {call : Str → List D → Sr → R} {own vs : List Nat} {tg tg1 : Tg} {it it1 : It} {ifs ifs1 : List Xp} {e : Xp} {env : Env} {S S1 S2 : Sr} {br : Bool} {ds xs : List D} (hi : evI T call it env S = .ok br ds S1)
    (hc : compL2 (turn2 T call own vs tg ifs tg1 it1 ifs1 e env) ds S1 = some (xs, S2)) (hz : xs.length ≤ szMax) : evE T call (.comp2 own vs tg it ifs tg1 it1 ifs1 e) env S = .ok .fr (.lst xs) S2 := by
  rw [evE, hi]
  refine (congrArg (fun o : Option (List D × Sr) => match o with | some (xs, S) => if xs.length ≤ szMax then R.ok .fr (.lst xs) S else .bad | none => .bad) hc).trans ?_
  exact if_pos hz
end Mp
set_option Elab.async false
set_option maxRecDepth 100000
set_option maxHeartbeats 4000000
/-! Mq5: steps of the evaluation, one lemma each. -/
namespace Mp
open PySem
section
variable {T : Tab} {call : Str → List D → Sr → R} {env env' env2 : Env} {S S1 S2 S3 : Sr} {f : Str} {x y z c e : Xp} {m m2 m3 : Md} {d d2 d3 : D} {r : R}
theorem zv_call1 (h : evE T call x env S = .ok m d S1) (hm : m ≠ .br) (hr : call f [d] S1 = r) : evE T call (.call f [x]) env S = r := by
  rw [evE, evEs.eq_def]
  dsimp only
  rw [h]
  dsimp only
  rw [if_neg hm, evEs.eq_def]
  exact hr
theorem zv_call2 (h : evE T call x env S = .ok m d S1) (hm : m ≠ .br) (h2 : evE T call y env S1 = .ok m2 d2 S2) (hm2 : m2 ≠ .br) (hr : call f [d, d2] S2 = r) : evE T call (.call f [x, y]) env S = r := by
  rw [evE, evEs.eq_def]
  dsimp only
  rw [h]
  dsimp only
  rw [if_neg hm, evEs.eq_def]
  dsimp only
  rw [h2]
  dsimp only
  rw [if_neg hm2, evEs.eq_def]
  exact hr
theorem zv_call3 (h : evE T call x env S = .ok m d S1) (hm : m ≠ .br) (h2 : evE T call y env S1 = .ok m2 d2 S2) (hm2 : m2 ≠ .br) (h3 : evE T call z env S2 = .ok m3 d3 S3) (hm3 : m3 ≠ .br) (hr : call f [d, d2, d3] S3 = r) : evE T call (.call f [x, y, z]) env S = r := by
  rw [evE, evEs.eq_def]
  dsimp only
  rw [h]
  dsimp only
  rw [if_neg hm, evEs.eq_def]
  dsimp only
  rw [h2]
  dsimp only
  rw [if_neg hm2, evEs.eq_def]
  dsimp only
  rw [h3]
  dsimp only
  rw [if_neg hm3, evEs.eq_def]
  exact hr
theorem zv_tup2 (h : evE T call x env S = .ok m d S1) (hm : m ≠ .br) (h2 : evE T call y env S1 = .ok m2 d2 S2) (hm2 : m2 ≠ .br) : evE T call (.tup [x, y]) env S = .ok .fz (.tup [d, d2]) S2 := by
  rw [evE, evEs.eq_def]
  dsimp only
  rw [h]
  dsimp only
  rw [if_neg hm, evEs.eq_def]
  dsimp only
  rw [h2]
  dsimp only
  rw [if_neg hm2, evEs.eq_def]
  rfl
theorem zv_lst1 (h : evE T call x env S = .ok m d S1) (hm : m ≠ .br) : evE T call (.lst [x]) env S = .ok .fr (.lst [d]) S1 := by
  rw [evE, evEs.eq_def]
  dsimp only
  rw [h]
  dsimp only
  rw [if_neg hm, evEs.eq_def]
  rfl
theorem zv_bin {o : Bop} (h : evE T call x env S = .ok m d S1) (h2 : evE T call y env S1 = .ok m2 d2 S2) (hr : binD o d d2 S2 = r) : evE T call (.bin o x y) env S = r := by
  rw [evE, h]
  show (evE T call y env S1).b _ = _
  rw [h2]
  exact hr
theorem zv_cmp {o : Cop} {b : Bool} (h : evE T call x env S = .ok m d S1) (h2 : evE T call y env S1 = .ok m2 d2 S2) (hr : cmpD o d d2 = some b) : evE T call (.cmp o x y) env S = .ok .fz (.bl b) S2 := by
  rw [evE, h]
  show (evE T call y env S1).b _ = _
  rw [h2]
  show okb (cmpD o d d2) S2 = _
  rw [hr]
  rfl
theorem zv_not {b : Bool} (h : evE T call x env S = .ok m (.bl b) S1) : evE T call (.not x) env S = .ok .fz (.bl (!b)) S1 := by
  rw [evE, h]
  rfl
theorem zv_blt1 {g : Bf} (h : evE T call x env S = .ok m d S1) (hr : bltD g [d] S1 = r) : evE T call (.blt g [x]) env S = r := by
  rw [evE, evBs.eq_def]
  dsimp only
  rw [h]
  exact hr
theorem zv_ix (h : evE T call x env S = .ok m d S1) (h2 : evE T call y env S1 = .ok m2 d2 S2) (hr : ixD d d2 = some d3) : evE T call (.ix x y) env S = .ok .fz d3 S2 := by
  rw [evE, h]
  show (evE T call y env S1).b _ = _
  rw [h2]
  show okd (ixD d d2) S2 = _
  rw [hr]
  rfl
theorem zv_sset {xs ys : List D} (h : evE T call x env S = .ok m d S1) (hi : d.items = some xs) (hs : ssetD xs = some ys) : evE T call (.sset x) env S = .ok .fr (.lst ys) S1 := by
  rw [evE, h]
  show (match d.items with
      | some xs => match ssetD xs with | some ys => R.ok .fr (.lst ys) S1 | none => .bad
      | none => .bad) = _
  rw [hi]
  dsimp only
  rw [hs]
theorem zB1 {k b : Bool} (h : evE T call e env S = .ok m (.bl b) S1) : evB T call k [e] env S = .ok .fz (.bl b) S1 := by
  rw [evB.eq_def]
  dsimp only
  rw [h]
  rfl
theorem zB2 {k b : Bool} {e' : Xp} {es : List Xp} (h : evE T call e env S = .ok m (.bl b) S1) : evB T call k (e :: e' :: es) env S = if b = k then evB T call k (e' :: es) env S1 else .ok .fz (.bl b) S1 := by
  rw [evB.eq_def]
  dsimp only
  rw [h]
  rfl
theorem zv_bool2 {k b1 b2 : Bool} {e1 e2 : Xp} (h1 : evE T call e1 env S = .ok m (.bl b1) S1) (h2 : b1 = k → evE T call e2 env S1 = .ok m2 (.bl b2) S1) : evE T call (.bool k [e1, e2]) env S = .ok .fz (.bl (if b1 = k then b2 else b1)) S1 := by
  rw [evE, zB2 h1]
  split
  · rename_i h
    rw [zB1 (h2 h)]
  · rfl
theorem zv_bool3 {k b1 b2 b3 : Bool} {e1 e2 e3 : Xp} (h1 : evE T call e1 env S = .ok m (.bl b1) S1) (h2 : b1 = k → evE T call e2 env S1 = .ok m2 (.bl b2) S1) (h3 : b1 = k → b2 = k → evE T call e3 env S1 = .ok m3 (.bl b3) S1) :
    evE T call (.bool k [e1, e2, e3]) env S = .ok .fz (.bl (if b1 = k then (if b2 = k then b3 else b2) else b1)) S1 := by
  rw [evE, zB2 h1]
  split
  · rename_i h
    rw [zB2 (h2 h)]
    split
    · rename_i hh
      rw [zB1 (h3 h hh)]
    · rfl
  · rfl
theorem zt_asg {i : Nat} (hf : freezeE env (esc e) = env') (h : evE T call e env' S = .ok m d S1) (hm : m ≠ .br) (he : env'.set i (some (decide (m = .fr), d)) = env2) : exS T call (.asg i e) env S = .nx env2 S1 := by
  rw [exS]
  show (evE T call e (freezeE env (esc e)) S).keep (freezeE env (esc e)) _ = _
  rw [hf, h]
  show (if m = .br then Ro.bad else _) = _
  rw [if_neg hm, he]
theorem zt_asgT {tg : Tg} (hf : freezeE env (esc e) = env') (h : evE T call e env' S = .ok m d S1) (hm : m ≠ .br) (he : tgD tg d env' = some env2) : exS T call (.asgT tg e) env S = .nx env2 S1 := by
  rw [exS]
  show (evE T call e (freezeE env (esc e)) S).keep (freezeE env (esc e)) _ = _
  rw [hf, h]
  show (if m = .br then Ro.bad else (match tgD tg d env' with
    | some env => .nx env S1
    | none => .bad)) = _
  rw [if_neg hm, he]
theorem zt_ret (hv : ∀ i, e = .var i → False) (hf : freezeE env (esc e) = env') (h : evE T call e env' S = .ok m d S1) (hm : m ≠ .br) : exS T call (.ret e) env S = .rt m d S1 := by
  rw [exS]
  · show (evE T call e (freezeE env (esc e)) S).keep (freezeE env (esc e)) _ = _
    rw [hf, h]
    exact if_neg hm
  · exact hv
theorem zt_ite {a b : List St} {q : Bool} (hf : freezeE env (escR c) = env') (h : evE T call c env' S = .ok m (.bl q) S1) : exS T call (.ite c a b) env S = if q = true then exL T call a env' S1 else exL T call b env' S1 := by
  rw [exS]
  show (match evE T call c (freezeE env (escR c)) S with
    | .ok _ (.bl true) S => exL T call a (freezeE env (escR c)) S
    | .ok _ (.bl false) S => exL T call b (freezeE env (escR c)) S
    | .exc x S => .ex x (freezeE env (escR c)) S
    | _ => .bad) = _
  rw [hf, h]
  cases q <;> rfl
theorem zt_ite_f {a : List St} (hf : freezeE env (escR c) = env') (h : evE T call c env' S = .ok m (.bl false) S1) : exS T call (.ite c a []) env S = .nx env' S1 := by
  rw [zt_ite hf h, if_neg (by decide), exL]
theorem zt_ite_t {a b : List St} {q : Ro} (hf : freezeE env (escR c) = env') (h : evE T call c env' S = .ok m (.bl true) S1) (hq : exL T call a env' S1 = q) : exS T call (.ite c a b) env S = q := by
  rw [zt_ite hf h, if_pos rfl, hq]
theorem zt_for {tg : Tg} {it : It} {b : List St} {ds : List D} {q : Ro} (hf : freezeE env (escF it) = env') (h : evI T call it env' S = .ok false ds S1) (hq : forL (bodyF T call tg b) ds env' S1 = q) : exS T call (.for_ tg it b) env S = q := by
  rw [exS_for (ds := ds) (S1 := S1) (by rw [hf]; exact h), hf]
  exact hq
theorem zi_rg {i : Int} (h : evE T call x env S = .ok m (.int i) S1) (h0 : -1000000 ≤ i) (h1 : i ≤ 1000000) : evI T call (.rg x) env S = .ok false (rangeD 0 i) S1 := by
  rw [evI, h]
  exact if_pos ⟨h0, h1⟩
theorem zt_seq {s : St} {r : List St} {env' : Env} {S S' : Sr} {q : Ro} (h : exS T call s env S = .nx env' S') (h2 : exL T call r env' S' = q) : exL T call (s :: r) env S = q := by
  rw [exL, h]
  exact h2
theorem zt_end {s : St} {r : List St} {S S' : Sr} (h : exS T call s env S = .rt m d S') : exL T call (s :: r) env S = .rt m d S' := by
  rw [exL, h]
  rfl
end
end Mp
set_option Elab.async false
set_option maxRecDepth 100000
set_option maxHeartbeats 4000000
/-! a call is its body (printed by runs.py) -/
namespace K28
open PySem Mp
theorem r_is_integer (n : Nat) (x0 : Mp.D) (S : Sr) : pg.run (n + 1) "is_integer" [x0] S = endR (exL tab (pg.run n) b_is_integer [some (false, x0)] S) := run_def (d := d_is_integer) (by rfl) (by rfl) rfl
theorem r_is_between (n : Nat) (x0 x1 x2 : Mp.D) (S : Sr) : pg.run (n + 1) "is_between" [x0, x1, x2] S = endR (exL tab (pg.run n) b_is_between [some (false, x0), some (false, x1), some (false, x2)] S) := run_def (d := d_is_between) (by rfl) (by rfl) rfl
theorem r_is_cell (n : Nat) (x0 : Mp.D) (S : Sr) : pg.run (n + 1) "is_cell" [x0] S = endR (exL tab (pg.run n) b_is_cell [some (false, x0)] S) := run_def (d := d_is_cell) (by rfl) (by rfl) rfl
theorem r_is_shape (n : Nat) (x0 : Mp.D) (S : Sr) : pg.run (n + 1) "is_shape" [x0] S = endR (exL tab (pg.run n) b_is_shape [some (false, x0), none, none] S) := run_def (d := d_is_shape) (by rfl) (by rfl) rfl
theorem r_sum_of (n : Nat) (x0 x1 : Mp.D) (S : Sr) : pg.run (n + 1) "sum_of" [x0, x1] S = endR (exL tab (pg.run n) b_sum_of [some (false, x0), some (false, x1), none, none, none, none] S) := run_def (d := d_sum_of) (by rfl) (by rfl) rfl
theorem r_is_figure (n : Nat) (x0 : Mp.D) (S : Sr) : pg.run (n + 1) "is_figure" [x0] S = endR (exL tab (pg.run n) b_is_figure [some (false, x0), none, none, none] S) := run_def (d := d_is_figure) (by rfl) (by rfl) rfl
theorem r_check_figure (n : Nat) (x0 : Mp.D) (S : Sr) : pg.run (n + 1) "check_figure" [x0] S = endR (exL tab (pg.run n) b_check_figure [some (false, x0)] S) := run_def (d := d_check_figure) (by rfl) (by rfl) rfl
theorem r_check_stock (n : Nat) (x0 : Mp.D) (S : Sr) : pg.run (n + 1) "check_stock" [x0] S = endR (exL tab (pg.run n) b_check_stock [some (false, x0), none] S) := run_def (d := d_check_stock) (by rfl) (by rfl) rfl
theorem r_at_corner (n : Nat) (x0 : Mp.D) (S : Sr) : pg.run (n + 1) "at_corner" [x0] S = endR (exL tab (pg.run n) b_at_corner [some (false, x0), none, none, none, none] S) := run_def (d := d_at_corner) (by rfl) (by rfl) rfl
theorem r_rest_of (n : Nat) (x0 x1 : Mp.D) (S : Sr) : pg.run (n + 1) "rest_of" [x0, x1] S = endR (exL tab (pg.run n) b_rest_of [some (false, x0), some (false, x1), none, none, none, none, none, none, none, none, none] S) := run_def (d := d_rest_of) (by rfl) (by rfl) rfl
theorem r_is_summand (n : Nat) (x0 x1 : Mp.D) (S : Sr) : pg.run (n + 1) "is_summand" [x0, x1] S = endR (exL tab (pg.run n) b_is_summand [some (false, x0), some (false, x1), none] S) := run_def (d := d_is_summand) (by rfl) (by rfl) rfl
theorem r_fewest_sums (n : Nat) (x0 x1 : Mp.D) (S : Sr) : pg.run (n + 1) "fewest_sums" [x0, x1] S = endR (exL tab (pg.run n) b_fewest_sums [some (false, x0), some (false, x1), none, none, none, none, none, none, none, none, none] S) := run_def (d := d_fewest_sums) (by rfl) (by rfl) rfl
theorem r__law_shape (n : Nat) (x0 x1 x2 : Mp.D) (S : Sr) : pg.run (n + 1) "_law_shape" [x0, x1, x2] S = endR (exL tab (pg.run n) b__law_shape [some (false, x0), some (false, x1), some (false, x2), none, none, none] S) := run_def (d := d__law_shape) (by rfl) (by rfl) rfl
theorem r__law_corner (n : Nat) (x0 : Mp.D) (S : Sr) : pg.run (n + 1) "_law_corner" [x0] S = endR (exL tab (pg.run n) b__law_corner [some (false, x0), none, none, none, none, none] S) := run_def (d := d__law_corner) (by rfl) (by rfl) rfl
theorem r__law_sum (n : Nat) (x0 x1 : Mp.D) (S : Sr) : pg.run (n + 1) "_law_sum" [x0, x1] S = endR (exL tab (pg.run n) b__law_sum [some (false, x0), some (false, x1), none, none, none, none, none, none, none] S) := run_def (d := d__law_sum) (by rfl) (by rfl) rfl
theorem r__law_lists (n : Nat) (x0 x1 : Mp.D) (S : Sr) : pg.run (n + 1) "_law_lists" [x0, x1] S = endR (exL tab (pg.run n) b__law_lists [some (false, x0), some (false, x1), none, none, none, none, none] S) := run_def (d := d__law_lists) (by rfl) (by rfl) rfl
theorem r__law_due (n : Nat) (x0 x1 : Mp.D) (S : Sr) : pg.run (n + 1) "_law_due" [x0, x1] S = endR (exL tab (pg.run n) b__law_due [some (false, x0), some (false, x1), none, none] S) := run_def (d := d__law_due) (by rfl) (by rfl) rfl
theorem r__law_figure (n : Nat) (x0 x1 x2 : Mp.D) (S : Sr) : pg.run (n + 1) "_law_figure" [x0, x1, x2] S = endR (exL tab (pg.run n) b__law_figure [some (false, x0), some (false, x1), some (false, x2), none, none, none, none, none, none, none] S) := run_def (d := d__law_figure) (by rfl) (by rfl) rfl
theorem r__law_fits (n : Nat) (x0 x1 x2 : Mp.D) (S : Sr) : pg.run (n + 1) "_law_fits" [x0, x1, x2] S = endR (exL tab (pg.run n) b__law_fits [some (false, x0), some (false, x1), some (false, x2), none, none] S) := run_def (d := d__law_fits) (by rfl) (by rfl) rfl
theorem r__law_draw (n : Nat) (x0 x1 : Mp.D) (S : Sr) : pg.run (n + 1) "_law_draw" [x0, x1] S = drawR [x0, x1] S := run_prim (p := (2, drawR)) (by rfl)
end K28
set_option Elab.async false
set_option maxRecDepth 100000
set_option maxHeartbeats 4000000
/-! W02: the law's numbers come as told. -/
namespace K28
open PySem L2 Mp
def nDraw : List Str := ["_law_source_here", "_law_limit", "_law_cells", "_law_turn", "_law_place", "_law_cell", "_law_number"]
theorem scD : FnScope nDraw ["_law_source_here", "_law_limit"] (defScope s__law_draw) := ⟨rfl, rfl, rfl, by decide +kernel, rfl, by decide +kernel, by decide +kernel⟩
theorem ifT {c : Bool} {A B : Prop} (hc : c = true) (h : A) : if c = true then A else B := by
  rw [if_pos hc]
  exact h
theorem ifF {c : Bool} {A B : Prop} (hc : c = false) (h : B) : if c = true then A else B := by
  rw [hc, if_neg (by decide)]
  exact h
theorem bInt : bootBuiltins "int" = some (.type "int") := by decide +kernel
theorem bLen : bootBuiltins "len" = some (.builtin "len") := by decide +kernel
theorem cell_at {S : Sr} {L : Int} (h : DrawOk S L) : drawPlace S < S.cells.length ∧ ((drawPlace S : Nat) : Int) = S.turn % (S.cells.length : Int) ∧ ixN (S.cells.map V.int).length (S.turn % (S.cells.length : Int)) = some (drawPlace S) ∧
    atI (S.cells.map V.int) (S.turn % (S.cells.length : Int)) = some (.int (drawCell S)) := by
  obtain ⟨_, _, h3, h4, h5, _⟩ := h
  have a1 : 0 ≤ S.turn % (S.cells.length : Int) := Int.emod_nonneg _ (by omega)
  have a2 : S.turn % (S.cells.length : Int) < (S.cells.length : Int) := Int.emod_lt_of_pos _ (by omega)
  have a3 : ((drawPlace S : Nat) : Int) = S.turn % (S.cells.length : Int) := Int.toNat_of_nonneg a1
  have a4 : drawPlace S < S.cells.length := by omega
  have a5 : ixN (S.cells.map V.int).length (S.turn % (S.cells.length : Int)) = some (drawPlace S) := by
    unfold ixN
    rw [List.length_map, if_pos (by omega), if_pos (by omega)]
    rfl
  refine ⟨a4, a3, a5, ?_⟩
  unfold atI
  rw [a5]
  show (S.cells.map V.int)[drawPlace S]? = _
  rw [List.getElem?_map, List.getElem?_eq_getElem a4]
  unfold drawCell
  rw [List.getD_eq_getElem?_getD, List.getElem?_eq_getElem a4]
  rfl
section
variable {P : Program} {w : World} {K : PySem.W.Frag} {mg : Str → Option Value} {base : Heap} {sa : Sa}
theorem ok_draw {f : Addr} {fd : FuncData} (F : Fun K "_law_draw" "_law_draw" s__law_draw f fd) (mL : mg "len" = none) (mI : mg "int" = none) (G : Gd) (eG : G.cl "_law_draw" = drawR) : FnOk P w K mg base (L2.CX P w) 1 f fd ["_law_source_here", "_law_limit"] (spCall K G "_law_draw" 2) := by
  refine F.okX scD (fun vs H Q E z => z.1) fun cdv A outer s H vs Q E hr hsp => ?_
  obtain ⟨hl, F, ds, S, ex, src, rs, p⟩ := hsp
  rw [eG] at p
  have hds : ∃ L, ds = [.src, .int L] := by
    unfold drawR at p
    split at p
    · exact ⟨_, rfl⟩
    · exact p.elim
  obtain ⟨L, rfl⟩ := hds
  have p' : Post K G E F H (if DrawOk S L then .ok .fz (.int (drawV S L)) (drawS S L) else .bad) Q := p
  split at p'
  · rename_i ok
    cases rs with
    | cons r1 rs =>
    cases rs with
    | cons r2 rs =>
    cases rs
    cases r1
    cases r2
    refine ⟨_, pss_cons (ps_asg (pv 0) (pg_lst rfl (pgs_cons (pg_name (i := 2) scD.nd rfl (Or.inl rfl)) (pgs_cons (pg_name (i := 3) scD.nd rfl (Or.inl rfl)) pgs_nil))))
      (pss_cons (ps_set (i := 4) scD.nd rfl (Or.inl rfl) (pe_op op_mod (pe_callTy call_int1 (by rfl) mI bInt (pa_cons (pv 3) pa_nil)) (pe_callB call_len_seq (by rfl) mL bLen (pa_cons (pv 2) pa_nil))))
      (pss_cons (ps_set (i := 5) scD.nd rfl (Or.inl rfl) (pe_ix ix_seq (pv 2) (pv 4) (fun _ _ => rfl)))
      (pss_cons (ps_asg (pe_op op_add (pv 3) pe_int) (pg_sub (pv 0) pe_int set_list))
      (pss_cons (ps_if (pt_cmpR op_ge (pv 5) (pe_op op_pow pe_int pe_int) (nomark _)) (pss_cons (ps_asg (pe_op op_fdivW (pv 5) (pv 1)) (pg_sub (pv 2) (pv 4) set_list)) (pss_one (ps_ret (pe_op op_mod (pe_callTy call_int1 (by rfl) mI bInt (pa_cons (pv 5) pa_nil)) (pv 1))))) pss_nil)
      (pss_cons (ps_set (i := 6) scD.nd rfl (Or.inl rfl) (pe_op op_mod (pe_callTy call_int1 (by rfl) mI bInt (pa_cons (pe_op op_add (pe_op op_add (pe_op op_mul (pe_op op_mod (pe_callTy call_int1 (by rfl) mI bInt (pa_cons (pv 5) pa_nil)) pe_int) pe_int) (pe_op op_mul (pe_op op_mul (pv 3) (pv 3)) pe_int)) pe_int) pa_nil)) pe_int))
      (pss_cons (ps_set (i := 6) scD.nd rfl (Or.inl rfl) (pe_op op_mod (pe_callTy call_int1 (by rfl) mI bInt (pa_cons (pe_op op_mul (pv 6) (pv 6)) pa_nil)) pe_int))
      (pss_cons (ps_set (i := 6) scD.nd rfl (Or.inl rfl) (pe_op op_mod (pe_callTy call_int1 (by rfl) mI bInt (pa_cons (pe_op op_mul (pv 6) (pv 6)) pa_nil)) pe_int))
      (pss_one (ps_ret (pe_op op_mod (pe_callTy call_int1 (by rfl) mI bInt (pa_cons (pv 6) pa_nil)) (pv 1))))))))))), ?_⟩
    have ok' := ok
    obtain ⟨o1, o2, o3, o4, o5, o6⟩ := ok'
    obtain ⟨k1, k2, k3, k4⟩ := cell_at ok
    have n12 : G.sa.s2 ≠ G.sa.s1 := src.ne.symm
    refine ⟨_, rfl, G.sa.s1, [.ref G.sa.s2, .int S.turn], rfl, SqL.of src.h1, rfl, _, _, rfl, _, _, rfl, rfl, ?_⟩
    refine ⟨_, rfl, .inl ⟨_, rfl, _, rfl, G.sa.s2, _, rfl, .inl (SqL.of src.h2), _, _, rfl, rfl, by rw [List.length_map]; omega, ?_⟩⟩
    rw [List.length_map]
    refine ⟨_, rfl, _, rfl, .inl ⟨G.sa.s2, _, _, _, rfl, rfl, SqL.of src.h2, k4, ?_⟩⟩
    refine ⟨_, rfl, _, _, rfl, rfl, _, rfl, G.sa.s1, _, _, 1, rfl, rfl, src.h1, rfl, ?_⟩
    refine ⟨_, rfl, _, _, rfl, rfl, ⟨by decide, by decide, by decide⟩, _, _, rfl, rfl, _, rfl, ?_⟩
    have s2at : (upd H G.sa.s1 (.lst ([V.ref G.sa.s2, V.int S.turn].set 1 (V.int (S.turn + 1))))) G.sa.s2 = some (.lst (S.cells.map V.int)) := by
      rw [upd_ne n12]
      exact src.h2
    have grow : ∀ (o1 o2 : HO), Gr G.sa F H F (upd (upd H G.sa.s1 o1) G.sa.s2 o2) := fun o1 o2 =>
      { ff := Evl.Ex.refl _
        fh := fun a o e => by
          rw [upd_ne (fun z => by rw [z, src.f2] at e; cases e), upd_ne (fun z => by rw [z, src.f1] at e; cases e)]
          exact ex a o e
        hh := fun a o e h1 h2 => by rw [upd_ne h2, upd_ne h1]; exact e
        nw := fun a o e => .inl e
        s1 := fun _ => by rw [upd_ne src.ne, upd_same]; exact fun z => nomatch z
        s2 := fun _ => by rw [upd_same]; exact fun z => nomatch z }
    have grow1 : ∀ (o1 : HO), Gr G.sa F H F (upd H G.sa.s1 o1) := fun o1 =>
      { ff := Evl.Ex.refl _
        fh := fun a o e => by
          rw [upd_ne (fun z => by rw [z, src.f1] at e; cases e)]
          exact ex a o e
        hh := fun a o e h1 h2 => by rw [upd_ne h1]; exact e
        nw := fun a o e => .inl e
        s1 := fun _ => by rw [upd_same]; exact fun z => nomatch z
        s2 := fun h => by rw [upd_ne n12]; exact h }
    by_cases hb : (10 : Int) ^ 18 ≤ drawCell S
    · refine ifT (decide_eq_true hb) ?_
      refine ⟨_, rfl, _, rfl, _, _, rfl, rfl, ⟨o1, ?_⟩, _, rfl, _, rfl, G.sa.s2, _, _, _, rfl, rfl, s2at, k3, ?_⟩
      · have : L.natAbs < 2 ^ 64 := by omega
        exact (wide_div (i := 0) (b := 64) o1 this (by decide) (by decide)).2
      · refine ⟨_, rfl, .inl ⟨_, rfl, _, rfl, _, _, rfl, rfl, o1, ?_⟩⟩
        have e1 : drawV S L = drawCell S % L := if_pos hb
        have e2 : drawS S L = ⟨S.cells.set (drawPlace S) (drawCell S / L), S.turn + 1⟩ := if_pos hb
        rw [e1, e2] at p'
        refine p' _ F _ (grow _ _) ⟨src.f1, src.f2, src.ne, ?_, ?_⟩ (DR.int _)
        · rw [upd_ne src.ne, upd_same]
          rfl
        · rw [upd_same, List.map_set]
    · refine ifF (decide_eq_false hb) ?_
      have m1 : 0 ≤ drawCell S % 2147483629 := Int.emod_nonneg _ (by decide)
      have m2 : drawCell S % 2147483629 < 2147483629 := Int.emod_lt_of_pos _ (by decide)
      have sq : ∀ x m : Int, 0 < m → m ≤ 2147483647 → -(2 ^ 64) < x % m ∧ x % m < 2 ^ 64 := fun x m h1 h2 => by
        have a1 := Int.emod_nonneg x (show m ≠ 0 by omega)
        have a2 := Int.emod_lt_of_pos x h1
        constructor <;> omega
      refine ⟨_, rfl, .inl ⟨_, rfl, _, _, rfl, rfl, by show (0 : Int) < 2147483629; decide, _, _, rfl, rfl, .inr ⟨by decide, by decide⟩, _, rfl, _, rfl, _, _, rfl, rfl, .inl ⟨by omega, by omega⟩, _, _, rfl, rfl, .inr ⟨by decide, by decide⟩, _, _, rfl, rfl, _, _, rfl, rfl, ?_⟩⟩
      refine .inl ⟨_, rfl, _, _, rfl, rfl, by show (0 : Int) < 2147483647; decide, ?_⟩
      refine ⟨_, rfl, _, rfl, _, _, rfl, rfl, .inl (sq _ 2147483647 (by decide) (by decide)), .inl ⟨_, rfl, _, _, rfl, rfl, by show (0 : Int) < 2147483629; decide, ?_⟩⟩
      refine ⟨_, rfl, _, rfl, _, _, rfl, rfl, .inl (sq _ 2147483629 (by decide) (by decide)), .inl ⟨_, rfl, _, _, rfl, rfl, by show (0 : Int) < 2147483587; decide, ?_⟩⟩
      refine ⟨_, rfl, .inl ⟨_, rfl, _, rfl, _, _, rfl, rfl, o1, ?_⟩⟩
      have e1 : drawV S L = drawSmall (drawCell S) S.turn % L := if_neg hb
      have e2 : drawS S L = ⟨S.cells, S.turn + 1⟩ := if_neg hb
      rw [e1, e2] at p'
      refine p' _ F _ (grow1 _) ⟨src.f1, src.f2, src.ne, ?_, ?_⟩ (DR.int _)
      · rw [upd_same]
        rfl
      · rw [upd_ne n12]
        exact src.h2
  · exact p'.elim
end
end K28
set_option Elab.async false
set_option maxRecDepth 100000
set_option maxHeartbeats 4000000
/-! V29: the law's source is made. -/
namespace K28
open PySem L2 Mp
def red (z : Int) : Int := if 10 ^ 18 ≤ (if z < 0 then -z else z) then z % (10 ^ 60) ^ 20 else z
def cellsOf (ns : List Int) : List Int := if ns = [] then [0] else ns.map red
def nSrc : List Str := ["_law_script", "_law_cells", "_law_k"]
theorem scS : FnScope nSrc ["_law_script"] (defScope s__law_source) := ⟨rfl, rfl, rfl, by decide +kernel, rfl, by decide +kernel, by decide +kernel⟩
theorem op_powW {X : Cx} : OpR X (binaryOp .Pow) (rI (fun i j => 0 ≤ j ∧ (Builtin.Int.intBits i : Int) * j ≤ 2 ^ 27) fun i j => .int (i ^ j.toNat)) :=
  opI fun _ _ _ _ _ _ _ hc q => PyProof.Rows.pow_int hc.1 hc.2 q
theorem bAbs : bootBuiltins "abs" = some (.builtin "abs") := by decide +kernel
/-- behind i turns -/
def half (ns : List Int) (i : Nat) : List Int := (List.range ns.length).map fun k => if k < i then red (ns.getD k 0) else ns.getD k 0
theorem half_at (ns : List Int) {i k : Nat} (h : k < ns.length) : (half ns i)[k]? = some (if k < i then red (ns.getD k 0) else ns.getD k 0) := by
  unfold half
  rw [List.getElem?_map, List.getElem?_range h]
  rfl
theorem half_len (ns : List Int) (i : Nat) : (half ns i).length = ns.length := by
  unfold half
  rw [List.length_map, List.length_range]
theorem half_zero (ns : List Int) : half ns 0 = ns := by
  apply List.ext_getElem?
  intro k
  by_cases h : k < ns.length
  · rw [half_at ns h, if_neg (by omega), List.getD_eq_getElem?_getD, List.getElem?_eq_getElem h]
    rfl
  · rw [List.getElem?_eq_none (by rw [half_len]; omega), List.getElem?_eq_none (by omega)]
theorem half_end (ns : List Int) : half ns ns.length = ns.map red := by
  apply List.ext_getElem?
  intro k
  by_cases h : k < ns.length
  · rw [half_at ns h, if_pos h, List.getD_eq_getElem?_getD, List.getElem?_map, List.getElem?_eq_getElem h]
    rfl
  · rw [List.getElem?_eq_none (by rw [half_len]; omega), List.getElem?_eq_none (by rw [List.length_map]; omega)]
theorem half_next (ns : List Int) {i : Nat} (h : i < ns.length) : half ns (i + 1) = (half ns i).set i (red (ns.getD i 0)) := by
  apply List.ext_getElem?
  intro k
  by_cases hk : k < ns.length
  · rw [half_at ns hk]
    by_cases e : i = k
    · subst e
      rw [if_pos (Nat.lt_succ_self _), List.getElem?_set_self (by rw [half_len]; exact h)]
    · rw [List.getElem?_set_ne e, half_at ns hk]
      by_cases c : k < i
      · rw [if_pos c, if_pos (by omega)]
      · rw [if_neg c, if_neg (by omega)]
  · rw [List.getElem?_eq_none (by rw [half_len]; omega), List.getElem?_eq_none (by rw [List.length_set, half_len]; omega)]
theorem half_same (ns : List Int) {i : Nat} (h : i < ns.length) (e : red (ns.getD i 0) = ns.getD i 0) : half ns (i + 1) = half ns i := by
  rw [half_next ns h]
  apply List.ext_getElem?
  intro k
  by_cases e2 : i = k
  · subst e2
    rw [List.getElem?_set_self (by rw [half_len]; exact h), half_at ns h, if_neg (by omega), e]
  · rw [List.getElem?_set_ne e2]
theorem map_nil_iff (ns : List Int) : (ns.map Mp.D.int = [] ↔ ns = []) := List.map_eq_nil_iff
theorem none_upd {H : Hp} {a b : Addr} {o : HO} (h : upd H a o b = none) : b ≠ a ∧ H b = none := by
  by_cases e : b = a
  · rw [e, upd_same] at h
    cases h
  · rw [upd_ne e] at h
    exact ⟨e, h⟩
theorem back {H H' : Hp} (same : ∀ b o, H b = some o → H' b = some o) {b : Addr} (h : H' b = none) : H b = none := by
  cases e : H b with
  | none => rfl
  | some o => rw [same b o e] at h; cases h
/-- the source is made -/
def spSrc (K : PySem.W.Frag) : Sp := fun vs H Q _ => ∃ a ns, vs = [.ref a] ∧ SqL K H a (ns.map V.int) ∧ ns.length ≤ 63 ∧ ∀ H' p1 p2, H p1 = none → H p2 = none → p1 ≠ p2 → (∀ b o, H b = some o → H' b = some o) →
  H' p1 = some (.lst [.ref p2, .int 0]) → H' p2 = some (.lst ((cellsOf ns).map V.int)) → Q (.ref p1) H'
section
variable {P : Program} {w : World} {K : PySem.W.Frag} {mg : Str → Option Value} {base : Heap}
theorem ok_source {f : Addr} {fd : FuncData} (F : Fun K "_law_source" "_law_source" s__law_source f fd) (mL : mg "len" = none) (mI : mg "int" = none) (mA : mg "abs" = none) (mR : mg "range" = none) : FnOk P w K mg base (L2.CX P w) 1 f fd ["_law_script"] (spSrc K) := by
  refine F.okX scS (fun vs H Q E z => by obtain ⟨a, ns, rfl, _⟩ := z; rfl) fun cdv A outer s H vs Q E hr hsp => ?_
  obtain ⟨a, ns, rfl, hs, hl, k⟩ := hsp
  refine ⟨_, pss_cons (ps_set (i := 1) scS.nd rfl (Or.inl rfl) (pe_slice sl_list (pv 0) po_none (po_some pe_int)))
    (pss_cons (ps_for (passes_of rfl) rfl (pi_range1 (by rfl) mR (pa_cons (pe_callB call_len_seq (by rfl) mL bLen (pa_cons (pv 1) pa_nil)) pa_nil)) (pg_name (i := 2) scS.nd rfl (Or.inl rfl))
      (pss_one (ps_if (pt_cmpR op_ge (pe_callB call_abs (by rfl) mA bAbs (pa_cons (pe_ix ix_seq (pv 1) (pv 2) (fun _ _ => rfl)) pa_nil)) (pe_op op_pow pe_int pe_int) (nomark _))
        (pss_one (ps_asg (pe_op op_mod (pe_callTy call_int1 (by rfl) mI bInt (pa_cons (pe_ix ix_seq (pv 1) (pv 2) (fun _ _ => rfl)) pa_nil)) (pe_op op_powW (pe_op op_pow pe_int pe_int) pe_int)) (pg_sub (pv 1) (pv 2) set_list))) pss_nil)))
    (pss_cons (ps_if (pt_cmpR wo (pv 1) (pe_lst pa_nil) (nomark _)) (pss_one (ps_set (i := 1) scS.nd rfl (Or.inl rfl) (pe_lst (pa_cons pe_int pa_nil)))) pss_nil)
    (pss_one (ps_ret (pe_lst (pa_cons (pv 1) (pa_cons pe_int pa_nil))))))), ?_⟩
  refine ⟨_, rfl, 63, rfl, a, _, rfl, hs, fun p np => ?_⟩
  have cut : cutV (ns.map V.int) none (some 63) = (half ns 0).map V.int := by
    rw [half_zero]
    have e : HT.sIx (ns.map V.int).length (ns.map V.int).length (some 63) = ns.length := by
      rw [show (some (63 : Int)) = some ((63 : Nat) : Int) from rfl, HT.sIx_nat, List.length_map]
      omega
    unfold cutV
    rw [HT.sIx_none, e, List.drop_zero, Nat.sub_zero, List.take_of_length_le (by rw [List.length_map]; exact Nat.le_refl _)]
  rw [cut]
  refine ⟨_, rfl, p, _, rfl, .inl (SqL.of upd_same), _, rfl, ?_, ?_, ?_⟩
  · rw [List.length_map, half_len]; omega
  · rw [List.length_map, half_len]; omega
  rw [List.length_map, half_len, Int.toNat_natCast]
  refine for_range (fun i σ H' => ∃ kv : Option V, σ = [some (.ref a), some (.ref p), kv] ∧ (∀ b o, H b = some o → H' b = some o) ∧ H' p = some (.lst ((half ns i).map V.int))) ⟨none, rfl, fun b o e => by rw [upd_ne (ne_of_none e np)]; exact e, upd_same⟩ ?_ ?_
  · rintro i σ H' hi ⟨kv, rfl, same, hp⟩
    have ixi : ixN ((half ns i).map V.int).length ((0 : Int) + (i : Int)) = some i := by
      unfold ixN
      rw [List.length_map, half_len, if_pos (by omega), if_pos (by omega)]
      congr 1
      omega
    have at_ : atI ((half ns i).map V.int) ((0 : Int) + (i : Int)) = some (.int (ns.getD i 0)) := by
      unfold atI
      rw [ixi]
      show ((half ns i).map V.int)[i]? = _
      rw [List.getElem?_map, half_at ns hi, if_neg (by omega)]
      rfl
    refine ⟨_, rfl, _, rfl, .inl ⟨p, _, _, _, rfl, rfl, SqL.of hp, at_, _, rfl, ?_⟩⟩
    refine ⟨_, _, rfl, rfl, ⟨by decide, by decide, by decide⟩, _, _, rfl, rfl, _, rfl, ?_⟩
    by_cases hb : (10 : Int) ^ 18 ≤ (if ns.getD i 0 < 0 then -(ns.getD i 0) else ns.getD i 0)
    · refine ifT (decide_eq_true hb) ?_
      have er : red (ns.getD i 0) = ns.getD i 0 % (10 ^ 60) ^ 20 := if_pos hb
      refine ⟨_, rfl, _, rfl, .inl ⟨p, _, _, _, rfl, rfl, SqL.of hp, at_, .inl ⟨_, rfl, ?_⟩⟩⟩
      refine ⟨_, _, rfl, rfl, ⟨by decide, by decide, by decide⟩, _, _, rfl, rfl, ⟨by decide, by decide +kernel⟩, _, _, rfl, rfl, by show (0 : Int) < (10 ^ 60) ^ 20; decide, ?_⟩
      refine ⟨_, rfl, _, rfl, p, _, _, i, rfl, rfl, hp, ixi, _, rfl, fun b o e => ?_, ?_⟩
      · rw [upd_ne (fun z => by rw [z, np] at e; cases e)]
        exact same b o e
      · rw [upd_same, half_next ns hi, List.map_set, er]
        rfl
    · refine ifF (decide_eq_false hb) ?_
      have er : red (ns.getD i 0) = ns.getD i 0 := if_neg hb
      exact ⟨_, rfl, same, by rw [half_same ns hi er]; exact hp⟩
  · rintro σ H' ⟨kv, rfl, same, hp⟩
    rw [half_end] at hp
    refine ⟨_, rfl, Nat.zero_le _, fun q nq => ?_⟩
    have npq : p ≠ q := fun z => by rw [← z, hp] at nq; cases nq
    have ds : (ns.map red).map V.int = (ns.map red).map V.int := rfl
    let G0 : Gd := ⟨⟨p + q + 1, p + q + 1, fun _ => none, P, w⟩, tab, fun _ _ _ => .bad, fun _ => none⟩
    let F0 : Hp := fun _ => none
    have dr : DRs K G0.sa F0 ((ns.map red).map V.int) ((ns.map red).map Mp.D.int) := ints_drs _
    have plain : ∀ l : List Int, D.oks (l.map Mp.D.int) 59 = true := by
      intro l
      induction l with
      | nil => rfl
      | cons x l ih =>
        show (D.ok (.int x) 59 && D.oks (l.map Mp.D.int) 59) = true
        rw [ih]
        rfl
    have hcmp : cmpD .eq (.lst ((ns.map red).map Mp.D.int)) (.lst []) = some (decide (ns = [])) := by
      show (if D.oks ((ns.map red).map Mp.D.int) 59 && true then some (D.eqbs ((ns.map red).map Mp.D.int) []) else none) = _
      rw [plain]
      cases ns <;> rfl
    refine sCmp (G := G0) (F := F0) (m1 := .br) (m2 := .br) (H1 := F0) (H2 := F0) .eq ⟨rfl, rfl⟩ (by have h1 := hr.un; exact Nat.lt_of_le_of_lt (Nat.le_trans (Nat.add_le_add_left (by decide : 100 ≤ 16 * 0 + 200) _) (Nat.le_of_eq (Nat.add_assoc _ _ _).symm)) h1)
      (show VR K G0.sa .br F0 F0 (upd H' q (.lst [])) (.ref p) (.lst ((ns.map red).map Mp.D.int)) from ⟨p, rfl, rfl, Nat.ne_of_lt (Nat.lt_succ_of_le (Nat.le_add_right p q)), Nat.ne_of_lt (Nat.lt_succ_of_le (Nat.le_add_right p q)), _, by rw [upd_ne npq]; exact hp, dr⟩)
      (show VR K G0.sa .br F0 F0 (upd H' q (.lst [])) (.ref q) (.lst []) from ⟨q, rfl, rfl, Nat.ne_of_lt (Nat.lt_succ_of_le (Nat.le_add_left q p)), Nat.ne_of_lt (Nat.lt_succ_of_le (Nat.le_add_left q p)), [], upd_same, .nil⟩) (fun a o e => nomatch e) hcmp ?_
    refine ⟨_, rfl, ?_⟩
    by_cases hn : ns = []
    · refine ifT (decide_eq_true hn) ?_
      refine ⟨by decide, fun r nr => ?_⟩
      refine ⟨_, rfl, (show (2 : Nat) ≤ sizeLine by decide), fun t nt => ?_⟩
      have e0 : cellsOf ns = [0] := if_pos hn
      obtain ⟨t1, t2⟩ := none_upd nt
      obtain ⟨t3, t4⟩ := none_upd t2
      obtain ⟨r1, r2⟩ := none_upd nr
      refine k _ t r (back same t4) (back same r2) t1 (fun b o e => ?_) upd_same ?_
      · have e1 := same b o e
        rw [upd_ne (ne_of_none e1 t4), upd_ne (ne_of_none e1 r2), upd_ne (ne_of_none e1 nq)]
        exact e1
      · rw [upd_ne (Ne.symm t1), upd_same, e0]
        rfl
    · refine ifF (decide_eq_false hn) ?_
      refine ⟨_, rfl, (show (2 : Nat) ≤ sizeLine by decide), fun t nt => ?_⟩
      have e0 : cellsOf ns = ns.map red := if_neg hn
      obtain ⟨t1, t2⟩ := none_upd nt
      have t3 : t ≠ p := fun z => by rw [z, hp] at t2; cases t2
      refine k _ t p (back same t2) np t3 (fun b o e => ?_) upd_same ?_
      · have e1 := same b o e
        rw [upd_ne (ne_of_none e1 t2), upd_ne (ne_of_none e1 nq)]
        exact e1
      · rw [upd_ne (Ne.symm t3), upd_ne npq, hp, e0]
end
end K28
set_option Elab.async false
set_option maxRecDepth 100000
set_option maxHeartbeats 4000000
/-! the head: from the row to the evaluation (printed by head.py) -/
namespace K28
open PySem L2 Mp
def spLaw (K : PySem.W.Frag) : Sp := fun vs H Q _ => ∃ (a : Addr) (ns : List Int), vs = [.ref a] ∧ SqL K H a (ns.map V.int) ∧ ns.length ≤ 63 ∧ ∀ H', Q (.bl true) H'
def env0 : Mp.Env := none :: some (false, .src) :: List.replicate (N_law.length - 2) none
/-- what the plain part must show -/
def Plain : Prop := ∀ ns : List Int, ns.length ≤ 63 → ∃ m S', m ≠ Md.br ∧ exL tab (pg.run 60) b_law env0 ⟨cellsOf ns, 0⟩ = .rt m (.bl true) S'
section
variable {P : Program} {w : World} {K : PySem.W.Frag} {mg : Str → Option Value} {base : Heap}
theorem ok_law {f fS : Addr} {fd fdS : FuncData} (F : Fun K "law" "law" s_law f fd) (mgS : mg "_law_source" = some (.ref fS)) (kS : PySem.W.keepIn K (.ref fS) = true) (bS : Binds K fdS ["_law_script"] []) (FS : FnOk P w K mg base (L2.CX P w) 1 fS fdS ["_law_script"] (spSrc K))
    (cls : Str → Option Addr) (hN : ∀ s1 s2, NF K mg pg ⟨s1, s2, cls, P, w⟩) (hF : ∀ d ∈ pg.fns, FF K mg pg d) (hP : ∀ sa f p, pg.primOf f = some p → PF P w K mg base pg sa f p.1 p.2) (hc : ∀ c, clsOf pg c = true → (cls c).isSome = true) (plain : Plain) :
    FnOk P w K mg base (L2.CX P w) (60 + 1) f fd ["_law_script"] (spLaw K) := by
  refine F.okX sc_law (fun vs H Q E z => by obtain ⟨a, ns, rfl, _⟩ := z; rfl) fun cdv A outer s H vs Q E hr hsp => ?_
  obtain ⟨a, ns, rfl, hs, hl, k⟩ := hsp
  have tk : Takes (cxOf (L2.CX P w) P w K mg base N_law "law" (defScope s_law) f cdv A outer s H E) (fun c d _ H => E c d H) := takes_of rfl rfl rfl rfl
  refine ⟨_, pss_cons (ps_set (i := 1) sc_law.nd rfl (by first | exact Or.inl rfl | exact Or.inr rfl) (pe_callS FS (hr.mono (by decide)) (by rfl) mgS kS bS (fun σ => passAt tk σ) (pa_cons (pv 0) pa_nil))) wss, ?_⟩
  refine ⟨_, rfl, a, ns, rfl, hs, hl, fun H' p1 p2 n1 n2 ne same h1 h2 => ?_⟩
  obtain ⟨m, S', hm, hx⟩ := plain ns hl
  let sa : Sa := ⟨p1, p2, cls, P, w⟩
  let F0 : Hp := fun _ => none
  have src : SrcR sa F0 H' ⟨cellsOf ns, 0⟩ := ⟨rfl, rfl, ne, h1, h2⟩
  have ex : Evl.Ex F0 H' := fun a o e => nomatch e
  have t : Stt K sa F0 H' F0 H' ⟨cellsOf ns, 0⟩ env0 ((L2.start N_law [V.ref a]).set 1 (some (.ref p1))) := by
    have no : ∀ {i : Nat} {d : Mp.D}, env0[i]? ≠ some (some (true, d)) := fun {i d} q => by
      unfold env0 at q
      rcases i with _ | _ | i
      · cases q
      · cases q
      · have q' := List.mem_of_getElem? (show (List.replicate (N_law.length - 2) (none : Option (Bool × Mp.D)))[i]? = _ from q)
        rw [List.mem_replicate] at q'
        cases q'.2
    refine ⟨Gr.refl ex, src, ⟨by rfl, fun i b d e => ?_⟩, fun i d q => absurd q no, fun i j d d' p _ q _ => absurd q no⟩
    rcases i with _ | _ | i
    · cases e
    · cases e
      exact ⟨.ref p1, rfl, DR.src⟩
    · have q' := List.mem_of_getElem? (show (List.replicate (N_law.length - 2) (none : Option (Bool × Mp.D)))[i]? = _ from e)
      rw [List.mem_replicate] at q'
      cases q'.2
  have C : CnS (cxOf (L2.CX P w) P w K mg base N_law "law" (defScope s_law) f cdv A outer s H E) 60 (pg.gd sa 60) (fun c dx _ H' => E c dx H') :=
    { cn := ⟨rfl, {
        room := hr
        calm := rfl
        nd := sc_law.nd
        fns := (all_fns ⟨rfl, rfl⟩ (hN p1 p2) hF (hP sa) hc 60)
        con := (hN p1 p2).con
        blt := (hN p1 p2).blt
        exc := NF.excF (X := cxOf (L2.CX P w) P w K mg base N_law "law" (defScope s_law) f cdv A outer s H E) (hN p1 p2)
        exn := (hN p1 p2).exn
        ini := (hN p1 p2).ini
        cls := (hN p1 p2).cls
        sub := (hN p1 p2).sub
        fn := fun _ _ => .inl rfl
        takes := tk
        pw := ⟨rfl, rfl⟩ }⟩
      st := rfl
      fr := rfl
      ex := rfl
      ps := passes_of rfl }
  refine allL (n := 60) (G := pg.gd sa 60) (cs := clsOf pg) b_law _ _ (defBody s_law).tail C (fun c q => ⟨hc c q, clsOf_ini q⟩) ck_law F0 H' _ H' F0 env0 ⟨cellsOf ns, 0⟩ _ t ?_
  have hx' : exL (pg.gd sa 60).T (pg.gd sa 60).cl b_law env0 ⟨cellsOf ns, 0⟩ = .rt m (.bl true) S' := hx
  rw [hx']
  refine ⟨hm, fun v F' H2 g s z => ?_⟩
  obtain ⟨rfl, _⟩ := z.bl
  exact k H2
end
theorem bd_is_integer (kV doc pm : Value) (an : Option Addr) (cdv ct : Value) (us : List Value) (hl : us.length = (["x"] : List Str).length * 1) : bindArgs (PySem.W.fnOf "is_integer" "is_integer" (defArgs (d_is_integer.st)) (defBody (d_is_integer.st)) (defScope (d_is_integer.st)) .none kV doc pm an cdv ct) ⟨us, []⟩ = pure (((["value"] : List Str)).zip us) := match us, hl with | [_], _ => rfl
theorem bd_is_between (kV doc pm : Value) (an : Option Addr) (cdv ct : Value) (us : List Value) (hl : us.length = (["x"] : List Str).length * 3) : bindArgs (PySem.W.fnOf "is_between" "is_between" (defArgs (d_is_between.st)) (defBody (d_is_between.st)) (defScope (d_is_between.st)) .none kV doc pm an cdv ct) ⟨us, []⟩ = pure (((["value", "least", "greatest"] : List Str)).zip us) := match us, hl with | [_, _, _], _ => rfl
theorem bd_is_cell (kV doc pm : Value) (an : Option Addr) (cdv ct : Value) (us : List Value) (hl : us.length = (["x"] : List Str).length * 1) : bindArgs (PySem.W.fnOf "is_cell" "is_cell" (defArgs (d_is_cell.st)) (defBody (d_is_cell.st)) (defScope (d_is_cell.st)) .none kV doc pm an cdv ct) ⟨us, []⟩ = pure (((["value"] : List Str)).zip us) := match us, hl with | [_], _ => rfl
theorem bd_is_shape (kV doc pm : Value) (an : Option Addr) (cdv ct : Value) (us : List Value) (hl : us.length = (["x"] : List Str).length * 1) : bindArgs (PySem.W.fnOf "is_shape" "is_shape" (defArgs (d_is_shape.st)) (defBody (d_is_shape.st)) (defScope (d_is_shape.st)) .none kV doc pm an cdv ct) ⟨us, []⟩ = pure (((["value"] : List Str)).zip us) := match us, hl with | [_], _ => rfl
theorem bd_sum_of (kV doc pm : Value) (an : Option Addr) (cdv ct : Value) (us : List Value) (hl : us.length = (["x"] : List Str).length * 2) : bindArgs (PySem.W.fnOf "sum_of" "sum_of" (defArgs (d_sum_of.st)) (defBody (d_sum_of.st)) (defScope (d_sum_of.st)) .none kV doc pm an cdv ct) ⟨us, []⟩ = pure (((["one", "other"] : List Str)).zip us) := match us, hl with | [_, _], _ => rfl
theorem bd_is_figure (kV doc pm : Value) (an : Option Addr) (cdv ct : Value) (us : List Value) (hl : us.length = (["x"] : List Str).length * 1) : bindArgs (PySem.W.fnOf "is_figure" "is_figure" (defArgs (d_is_figure.st)) (defBody (d_is_figure.st)) (defScope (d_is_figure.st)) .none kV doc pm an cdv ct) ⟨us, []⟩ = pure (((["value"] : List Str)).zip us) := match us, hl with | [_], _ => rfl
theorem bd_check_figure (kV doc pm : Value) (an : Option Addr) (cdv ct : Value) (us : List Value) (hl : us.length = (["x"] : List Str).length * 1) : bindArgs (PySem.W.fnOf "check_figure" "check_figure" (defArgs (d_check_figure.st)) (defBody (d_check_figure.st)) (defScope (d_check_figure.st)) .none kV doc pm an cdv ct) ⟨us, []⟩ = pure (((["figure"] : List Str)).zip us) := match us, hl with | [_], _ => rfl
theorem bd_check_stock (kV doc pm : Value) (an : Option Addr) (cdv ct : Value) (us : List Value) (hl : us.length = (["x"] : List Str).length * 1) : bindArgs (PySem.W.fnOf "check_stock" "check_stock" (defArgs (d_check_stock.st)) (defBody (d_check_stock.st)) (defScope (d_check_stock.st)) .none kV doc pm an cdv ct) ⟨us, []⟩ = pure (((["stock"] : List Str)).zip us) := match us, hl with | [_], _ => rfl
theorem bd_at_corner (kV doc pm : Value) (an : Option Addr) (cdv ct : Value) (us : List Value) (hl : us.length = (["x"] : List Str).length * 1) : bindArgs (PySem.W.fnOf "at_corner" "at_corner" (defArgs (d_at_corner.st)) (defBody (d_at_corner.st)) (defScope (d_at_corner.st)) .none kV doc pm an cdv ct) ⟨us, []⟩ = pure (((["cells"] : List Str)).zip us) := match us, hl with | [_], _ => rfl
theorem bd_rest_of (kV doc pm : Value) (an : Option Addr) (cdv ct : Value) (us : List Value) (hl : us.length = (["x"] : List Str).length * 2) : bindArgs (PySem.W.fnOf "rest_of" "rest_of" (defArgs (d_rest_of.st)) (defBody (d_rest_of.st)) (defScope (d_rest_of.st)) .none kV doc pm an cdv ct) ⟨us, []⟩ = pure (((["figure", "part"] : List Str)).zip us) := match us, hl with | [_, _], _ => rfl
theorem bd_is_summand (kV doc pm : Value) (an : Option Addr) (cdv ct : Value) (us : List Value) (hl : us.length = (["x"] : List Str).length * 2) : bindArgs (PySem.W.fnOf "is_summand" "is_summand" (defArgs (d_is_summand.st)) (defBody (d_is_summand.st)) (defScope (d_is_summand.st)) .none kV doc pm an cdv ct) ⟨us, []⟩ = pure (((["figure", "part"] : List Str)).zip us) := match us, hl with | [_, _], _ => rfl
theorem bd_fewest_sums (kV doc pm : Value) (an : Option Addr) (cdv ct : Value) (us : List Value) (hl : us.length = (["x"] : List Str).length * 2) : bindArgs (PySem.W.fnOf "fewest_sums" "fewest_sums" (defArgs (d_fewest_sums.st)) (defBody (d_fewest_sums.st)) (defScope (d_fewest_sums.st)) .none kV doc pm an cdv ct) ⟨us, []⟩ = pure (((["figure", "stock"] : List Str)).zip us) := match us, hl with | [_, _], _ => rfl
theorem bd__law_shape (kV doc pm : Value) (an : Option Addr) (cdv ct : Value) (us : List Value) (hl : us.length = (["x"] : List Str).length * 3) : bindArgs (PySem.W.fnOf "_law_shape" "_law_shape" (defArgs (d__law_shape.st)) (defBody (d__law_shape.st)) (defScope (d__law_shape.st)) .none kV doc pm an cdv ct) ⟨us, []⟩ = pure (((["_law_source_here", "_law_most", "_law_far"] : List Str)).zip us) := match us, hl with | [_, _, _], _ => rfl
theorem bd__law_corner (kV doc pm : Value) (an : Option Addr) (cdv ct : Value) (us : List Value) (hl : us.length = (["x"] : List Str).length * 1) : bindArgs (PySem.W.fnOf "_law_corner" "_law_corner" (defArgs (d__law_corner.st)) (defBody (d__law_corner.st)) (defScope (d__law_corner.st)) .none kV doc pm an cdv ct) ⟨us, []⟩ = pure (((["_law_cells"] : List Str)).zip us) := match us, hl with | [_], _ => rfl
theorem bd__law_sum (kV doc pm : Value) (an : Option Addr) (cdv ct : Value) (us : List Value) (hl : us.length = (["x"] : List Str).length * 2) : bindArgs (PySem.W.fnOf "_law_sum" "_law_sum" (defArgs (d__law_sum.st)) (defBody (d__law_sum.st)) (defScope (d__law_sum.st)) .none kV doc pm an cdv ct) ⟨us, []⟩ = pure (((["_law_stock", "_law_numbers"] : List Str)).zip us) := match us, hl with | [_, _], _ => rfl
theorem bd__law_lists (kV doc pm : Value) (an : Option Addr) (cdv ct : Value) (us : List Value) (hl : us.length = (["x"] : List Str).length * 2) : bindArgs (PySem.W.fnOf "_law_lists" "_law_lists" (defArgs (d__law_lists.st)) (defBody (d__law_lists.st)) (defScope (d__law_lists.st)) .none kV doc pm an cdv ct) ⟨us, []⟩ = pure (((["_law_many", "_law_size"] : List Str)).zip us) := match us, hl with | [_, _], _ => rfl
theorem bd__law_due (kV doc pm : Value) (an : Option Addr) (cdv ct : Value) (us : List Value) (hl : us.length = (["x"] : List Str).length * 2) : bindArgs (PySem.W.fnOf "_law_due" "_law_due" (defArgs (d__law_due.st)) (defBody (d__law_due.st)) (defScope (d__law_due.st)) .none kV doc pm an cdv ct) ⟨us, []⟩ = pure (((["_law_figure_here", "_law_stock"] : List Str)).zip us) := match us, hl with | [_, _], _ => rfl
theorem bd__law_figure (kV doc pm : Value) (an : Option Addr) (cdv ct : Value) (us : List Value) (hl : us.length = (["x"] : List Str).length * 3) : bindArgs (PySem.W.fnOf "_law_figure" "_law_figure" (defArgs (d__law_figure.st)) (defBody (d__law_figure.st)) (defScope (d__law_figure.st)) .none kV doc pm an cdv ct) ⟨us, []⟩ = pure (((["_law_source_here", "_law_stock", "_law_numbers"] : List Str)).zip us) := match us, hl with | [_, _, _], _ => rfl
theorem bd__law_fits (kV doc pm : Value) (an : Option Addr) (cdv ct : Value) (us : List Value) (hl : us.length = (["x"] : List Str).length * 3) : bindArgs (PySem.W.fnOf "_law_fits" "_law_fits" (defArgs (d__law_fits.st)) (defBody (d__law_fits.st)) (defScope (d__law_fits.st)) .none kV doc pm an cdv ct) ⟨us, []⟩ = pure (((["_law_figure_here", "_law_stock", "_law_known"] : List Str)).zip us) := match us, hl with | [_, _, _], _ => rfl
theorem bd__law_source (kV doc pm : Value) (an : Option Addr) (cdv ct : Value) (us : List Value) (hl : us.length = (["x"] : List Str).length * 1) : bindArgs (PySem.W.fnOf "_law_source" "_law_source" (defArgs (s__law_source)) (defBody (s__law_source)) (defScope (s__law_source)) .none kV doc pm an cdv ct) ⟨us, []⟩ = pure (((["_law_script"] : List Str)).zip us) := match us, hl with | [_], _ => rfl
theorem bd__law_draw (kV doc pm : Value) (an : Option Addr) (cdv ct : Value) (us : List Value) (hl : us.length = (["x"] : List Str).length * 2) : bindArgs (PySem.W.fnOf "_law_draw" "_law_draw" (defArgs (s__law_draw)) (defBody (s__law_draw)) (defScope (s__law_draw)) .none kV doc pm an cdv ct) ⟨us, []⟩ = pure (((["_law_source_here", "_law_limit"] : List Str)).zip us) := match us, hl with | [_, _], _ => rfl
structure Facts (P : Program) (K : PySem.W.Frag) (c0 c1 c2 : Addr) : Prop where
  f0 : FnFact K "is_integer" (d_is_integer).st
  f1 : FnFact K "is_between" (d_is_between).st
  f2 : FnFact K "is_cell" (d_is_cell).st
  f3 : FnFact K "is_shape" (d_is_shape).st
  f4 : FnFact K "sum_of" (d_sum_of).st
  f5 : FnFact K "is_figure" (d_is_figure).st
  f6 : FnFact K "check_figure" (d_check_figure).st
  f7 : FnFact K "check_stock" (d_check_stock).st
  f8 : FnFact K "at_corner" (d_at_corner).st
  f9 : FnFact K "rest_of" (d_rest_of).st
  f10 : FnFact K "is_summand" (d_is_summand).st
  f11 : FnFact K "fewest_sums" (d_fewest_sums).st
  f12 : FnFact K "_law_shape" (d__law_shape).st
  f13 : FnFact K "_law_corner" (d__law_corner).st
  f14 : FnFact K "_law_sum" (d__law_sum).st
  f15 : FnFact K "_law_lists" (d__law_lists).st
  f16 : FnFact K "_law_due" (d__law_due).st
  f17 : FnFact K "_law_figure" (d__law_figure).st
  f18 : FnFact K "_law_fits" (d__law_fits).st
  fS : FnFact K "_law_source" s__law_source
  fD : FnFact K "_law_draw" s__law_draw
  fL : FnFact K "law" s_law
  con : ConAll K cons
  blt : BltAll K bltNames
  cls : ClsAll K [("SieveError", c0), ("InvalidFigure", c1), ("InvalidStock", c2)]
  sub : SubAll K tab [("SieveError", c0), ("InvalidFigure", c1), ("InvalidStock", c2)] [("SieveError", c0), ("InvalidFigure", c1), ("InvalidStock", c2)]
  exn : ExnAll K inis [("SieveError", c0), ("InvalidFigure", c1), ("InvalidStock", c2)]
section
variable {P : Program} {w : World} {K : PySem.W.Frag} {mg : Str → Option Value} {h : Heap}
theorem all_mk {fa : Addr} (X : K.In h) (G : h.Ns mainGlobals mg) (hfa : mg "law" = some (.ref fa)) (fx : ∃ c0 c1 c2 : Addr, Facts P K c0 c1 c2) (plain : Plain) :
    ∃ fd : FuncData, (∀ (s : Shared) (v : Value), BindsTo s fd ⟨[v], []⟩ [("_law_script", v)]) ∧ ∀ base : Heap, K.In base → base.Ns mainGlobals mg → FnOk P w K mg base (L2.CX P w) (60 + 1) fa fd ["_law_script"] (spLaw K) := by
  obtain ⟨c0, c1, c2, fx⟩ := fx
  obtain ⟨f, oc, od, kV, doc, pm, an, cd, ct, osl, h1, h2, h3, h4⟩ := fx.fL
  have e := hfa.symm.trans (PySem.W.mg_of X G h1)
  cases e
  have FL := fun_mk (st := s_law) h2 h3 h4
  refine ⟨PySem.W.fnOf "law" "law" (defArgs s_law) (defBody s_law) (defScope s_law) .none kV doc pm an cd ct, fun s v => .of_eq rfl, fun base hb hg => ?_⟩
  have mL : mg "len" = none := PySem.W.mg_none_of X G (fx.blt.at _ (by decide +kernel))
  have mI : mg "int" = none := PySem.W.mg_none_of X G (fx.blt.at _ (by decide +kernel))
  have mA : mg "abs" = none := PySem.W.mg_none_of X G (fx.blt.at _ (by decide +kernel))
  have mR : mg "range" = none := PySem.W.mg_none_of X G (fx.blt.at _ (by decide +kernel))
  obtain ⟨fS, fdS, FS, mS, bS⟩ := fx.fS.use X G (ps := ["_law_script"]) bd__law_source
  obtain ⟨fD, fdD, FD, mD, bD⟩ := fx.fD.use X G (ps := ["_law_source_here", "_law_limit"]) bd__law_draw
  have hN := nf_of (P := pg) (Cs := [("SieveError", c0), ("InvalidFigure", c1), ("InvalidStock", c2)]) (cons := cons) (ancs := ancs) (inis := inis) X G rfl ?_ ?_ fx.con fx.blt fx.cls fx.sub P w fx.exn (trivial)
  · refine ok_law FL mS FS.kp bS (ok_source FS mL mI mA mR) _ hN ?_ ?_ ?_ plain
    · intro d hd
      simp only [pg, fns, List.mem_cons, List.not_mem_nil, or_false] at hd
      rcases hd with rfl | rfl | rfl | rfl | rfl | rfl | rfl | rfl | rfl | rfl | rfl | rfl | rfl | rfl | rfl | rfl | rfl | rfl | rfl
      · exact ⟨fx.f0.use X G (ps := (d_is_integer).ps) bd_is_integer, sc_is_integer, ck_is_integer⟩
      · exact ⟨fx.f1.use X G (ps := (d_is_between).ps) bd_is_between, sc_is_between, ck_is_between⟩
      · exact ⟨fx.f2.use X G (ps := (d_is_cell).ps) bd_is_cell, sc_is_cell, ck_is_cell⟩
      · exact ⟨fx.f3.use X G (ps := (d_is_shape).ps) bd_is_shape, sc_is_shape, ck_is_shape⟩
      · exact ⟨fx.f4.use X G (ps := (d_sum_of).ps) bd_sum_of, sc_sum_of, ck_sum_of⟩
      · exact ⟨fx.f5.use X G (ps := (d_is_figure).ps) bd_is_figure, sc_is_figure, ck_is_figure⟩
      · exact ⟨fx.f6.use X G (ps := (d_check_figure).ps) bd_check_figure, sc_check_figure, ck_check_figure⟩
      · exact ⟨fx.f7.use X G (ps := (d_check_stock).ps) bd_check_stock, sc_check_stock, ck_check_stock⟩
      · exact ⟨fx.f8.use X G (ps := (d_at_corner).ps) bd_at_corner, sc_at_corner, ck_at_corner⟩
      · exact ⟨fx.f9.use X G (ps := (d_rest_of).ps) bd_rest_of, sc_rest_of, ck_rest_of⟩
      · exact ⟨fx.f10.use X G (ps := (d_is_summand).ps) bd_is_summand, sc_is_summand, ck_is_summand⟩
      · exact ⟨fx.f11.use X G (ps := (d_fewest_sums).ps) bd_fewest_sums, sc_fewest_sums, ck_fewest_sums⟩
      · exact ⟨fx.f12.use X G (ps := (d__law_shape).ps) bd__law_shape, sc__law_shape, ck__law_shape⟩
      · exact ⟨fx.f13.use X G (ps := (d__law_corner).ps) bd__law_corner, sc__law_corner, ck__law_corner⟩
      · exact ⟨fx.f14.use X G (ps := (d__law_sum).ps) bd__law_sum, sc__law_sum, ck__law_sum⟩
      · exact ⟨fx.f15.use X G (ps := (d__law_lists).ps) bd__law_lists, sc__law_lists, ck__law_lists⟩
      · exact ⟨fx.f16.use X G (ps := (d__law_due).ps) bd__law_due, sc__law_due, ck__law_due⟩
      · exact ⟨fx.f17.use X G (ps := (d__law_figure).ps) bd__law_figure, sc__law_figure, ck__law_figure⟩
      · exact ⟨fx.f18.use X G (ps := (d__law_fits).ps) bd__law_fits, sc__law_fits, ck__law_fits⟩
    · intro sa f p hp
      unfold Pg.primOf at hp
      rw [show pg.prim = ([("_law_draw", 2, drawR)] : List (Str × Nat × (List Mp.D → Sr → R))) from rfl, List.lookup_cons] at hp
      split at hp
      · rename_i e
        cases hp
        have e' := eq_of_beq e
        subst e'
        exact ⟨fD, fdD, _, rfl, mD, FD.kp, bD, fun G0 _ eG => ok_draw FD mL mI G0 eG⟩
      · cases hp
    · intro c q
      unfold clsOf at q
      rw [Bool.and_eq_true, Bool.and_eq_true] at q
      exact (hN 0 0).cls c q.1.1 (of_decide_eq_true q.1.2)
  · intro c q
    rw [← look_same (l := ancs) (by rfl) c]
    exact q
  · intro c q
    rw [← look_same (l := ancs) (by rfl) c] at q
    exact look_self (by decide +kernel) c q
end
end K28
set_option Elab.async false
set_option maxRecDepth 100000
set_option maxHeartbeats 4000000
/-! P28a: the doors, as they are told. -/
namespace K28
open PySem Mp
theorem con_cel : tab.con "MOST_CELLS" = some (.int 12) := by rfl
theorem con_far : tab.con "FARTHEST" = some (.int 20) := by rfl
theorem con_fig : tab.con "MOST_FIGURE" = some (.int 30) := by rfl
theorem con_ff : tab.con "FARTHEST_FIGURE" = some (.int 60) := by rfl
theorem con_sto : tab.con "MOST_STOCK" = some (.int 6) := by rfl
def isInt : Mp.D → Bool
  | .int _ => true
  | _ => false
theorem is_integer (n : Nat) (d : Mp.D) (S : Sr) (h : d.ok 30 = true) : pg.run (n + 1) "is_integer" [d] S = .ok .fz (.bl (isInt d)) S := by
  rw [r_is_integer]
  cases d <;> first | rfl | cases h
def betw (d : Mp.D) (a b : Int) : Bool :=
  match d with
  | .int i => decide (a ≤ i) && decide (i ≤ b)
  | _ => false
theorem is_between (n : Nat) (d : Mp.D) (a b : Int) (S : Sr) (h : d.ok 30 = true) : pg.run (n + 2) "is_between" [d, .int a, .int b] S = .ok .fz (.bl (betw d a b)) S := by
  rw [r_is_between, b_is_between]
  have e := is_integer n d S h
  cases d with
  | int i => by_cases h1 : a ≤ i <;> simp [exL, exS, evE, evEs, evB, evBs, evO, evI, evT, R.b, R.i, Rl.b, Ri.b, R.keep, Ro.seq, endR, okb, okd, freeze_no, no_nil, no_fz, no_no, deq_int, md1, md2, md3, at0, at1, at2, isiD, D.items, b_len_l, b_len_t, b_tup_l, b_tup_t, b_lst_l, b_lst_t, b_int, b_abs, b_add, b_sub, c_lt, c_le, c_gt, c_ge, c_eqi, c_nei, c_is, c_isn, i_lst, i_tup, List.getElem?_cons_zero, List.getElem?_cons_succ, List.set_cons_zero, List.set_cons_succ, wipeE, tgD, e, isInt, betw, h1]
  | _ => simp [exL, exS, evE, evEs, evB, evBs, evO, evI, evT, R.b, R.i, Rl.b, Ri.b, R.keep, Ro.seq, endR, okb, okd, freeze_no, no_nil, no_fz, no_no, deq_int, md1, md2, md3, at0, at1, at2, isiD, D.items, b_len_l, b_len_t, b_tup_l, b_tup_t, b_lst_l, b_lst_t, b_int, b_abs, b_add, b_sub, c_lt, c_le, c_gt, c_ge, c_eqi, c_nei, c_is, c_isn, i_lst, i_tup, List.getElem?_cons_zero, List.getElem?_cons_succ, List.set_cons_zero, List.set_cons_succ, wipeE, tgD, e, isInt, betw]
/-- a pair of numbers within bounds -/
def isCel (m : Int) (d : Mp.D) : Bool :=
  match d with
  | .tup [a, b] => betw a (-m) m && betw b (-m) m
  | _ => false
theorem is_cell (n : Nat) (d : Mp.D) (S : Sr) (h : d.ok 31 = true) : pg.run (n + 3) "is_cell" [d] S = .ok .fz (.bl (isCel 20 d)) S := by
  rw [r_is_cell, b_is_cell]
  cases d with
  | tup ds =>
    rcases ds with _ | ⟨a, _ | ⟨b, _ | ⟨c, r⟩⟩⟩
    · simp [exL, exS, evE, evEs, evB, evBs, evO, evI, evT, R.b, R.i, Rl.b, Ri.b, R.keep, Ro.seq, endR, okb, okd, freeze_no, no_nil, no_fz, no_no, deq_int, md1, md2, md3, at0, at1, at2, isiD, D.items, b_len_l, b_len_t, b_tup_l, b_tup_t, b_lst_l, b_lst_t, b_int, b_abs, b_add, b_sub, c_lt, c_le, c_gt, c_ge, c_eqi, c_nei, c_is, c_isn, i_lst, i_tup, List.getElem?_cons_zero, List.getElem?_cons_succ, List.set_cons_zero, List.set_cons_succ, wipeE, tgD]; rfl
    · simp [exL, exS, evE, evEs, evB, evBs, evO, evI, evT, R.b, R.i, Rl.b, Ri.b, R.keep, Ro.seq, endR, okb, okd, freeze_no, no_nil, no_fz, no_no, deq_int, md1, md2, md3, at0, at1, at2, isiD, D.items, b_len_l, b_len_t, b_tup_l, b_tup_t, b_lst_l, b_lst_t, b_int, b_abs, b_add, b_sub, c_lt, c_le, c_gt, c_ge, c_eqi, c_nei, c_is, c_isn, i_lst, i_tup, List.getElem?_cons_zero, List.getElem?_cons_succ, List.set_cons_zero, List.set_cons_succ, wipeE, tgD]; rfl
    · have hk : D.oks [a, b] 30 = true := h
      simp only [D.oks, Bool.and_eq_true, Bool.and_true] at hk
      have e1 := is_between n a (-20) 20 S hk.1
      have e2 := is_between n b (-20) 20 S hk.2
      cases h1 : betw a (-20) 20 <;> cases h2 : betw b (-20) 20 <;> simp [exL, exS, evE, evEs, evB, evBs, evO, evI, evT, R.b, R.i, Rl.b, Ri.b, R.keep, Ro.seq, endR, okb, okd, freeze_no, no_nil, no_fz, no_no, deq_int, md1, md2, md3, at0, at1, at2, isiD, D.items, b_len_l, b_len_t, b_tup_l, b_tup_t, b_lst_l, b_lst_t, b_int, b_abs, b_add, b_sub, c_lt, c_le, c_gt, c_ge, c_eqi, c_nei, c_is, c_isn, i_lst, i_tup, List.getElem?_cons_zero, List.getElem?_cons_succ, List.set_cons_zero, List.set_cons_succ, wipeE, tgD, con_far, e1, e2, isCel, h1, h2]
    · have hl : ¬ ((r.length : Int) + 1 + 1 + 1 = 2) := by omega
      simp [exL, exS, evE, evEs, evB, evBs, evO, evI, evT, R.b, R.i, Rl.b, Ri.b, R.keep, Ro.seq, endR, okb, okd, freeze_no, no_nil, no_fz, no_no, deq_int, md1, md2, md3, at0, at1, at2, isiD, D.items, b_len_l, b_len_t, b_tup_l, b_tup_t, b_lst_l, b_lst_t, b_int, b_abs, b_add, b_sub, c_lt, c_le, c_gt, c_ge, c_eqi, c_nei, c_is, c_isn, i_lst, i_tup, List.getElem?_cons_zero, List.getElem?_cons_succ, List.set_cons_zero, List.set_cons_succ, wipeE, tgD, hl]
      rfl
  | _ => first | (cases h; done) | (simp [exL, exS, evE, evEs, evB, evBs, evO, evI, evT, R.b, R.i, Rl.b, Ri.b, R.keep, Ro.seq, endR, okb, okd, freeze_no, no_nil, no_fz, no_no, deq_int, md1, md2, md3, at0, at1, at2, isiD, D.items, b_len_l, b_len_t, b_tup_l, b_tup_t, b_lst_l, b_lst_t, b_int, b_abs, b_add, b_sub, c_lt, c_le, c_gt, c_ge, c_eqi, c_nei, c_is, c_isn, i_lst, i_tup, List.getElem?_cons_zero, List.getElem?_cons_succ, List.set_cons_zero, List.set_cons_succ, wipeE, tgD]; rfl)
def asc (ps : List Mp.D) : Bool := (List.range (ps.length - 1)).all fun i => dltb (ps[i]?.getD .non) (ps[i + 1]?.getD .non)
theorem isCel_eq {m : Int} {d : Mp.D} (h : isCel m d = true) : ∃ a b, d = .tup [.int a, .int b] := by
  unfold isCel at h
  split at h
  · rename_i a b
    simp only [Bool.and_eq_true] at h
    obtain ⟨h1, h2⟩ := h
    cases a <;> simp [betw] at h1
    cases b <;> simp [betw] at h2
    exact ⟨_, _, rfl⟩
  · cases h
theorem lt_cel {m : Int} {x y : Mp.D} (hx : isCel m x = true) (hy : isCel m y = true) : cmpD .lt x y = some (dltb x y) := by
  obtain ⟨a, b, rfl⟩ := isCel_eq hx
  obtain ⟨a', b', rfl⟩ := isCel_eq hy
  have e : cmpOk (.tup [.int a, .int b]) (.tup [.int a', .int b']) = true := by
    simp [cmpOk, D.ok, D.oks, D.pd, D.pds, PySem.W.alike, PySem.W.alikeAll]
  show (if cmpOk (.tup [.int a, .int b]) (.tup [.int a', .int b']) = true then some (dltb (.tup [.int a, .int b]) (.tup [.int a', .int b'])) else none) = _
  rw [if_pos e]
/-- an ascending tuple of at most k cells within m -/
def isTab (k : Nat) (m : Int) (d : Mp.D) : Bool :=
  match d with
  | .tup ps => decide (1 ≤ ps.length) && decide (ps.length ≤ k) && ps.all (isCel m) && asc ps
  | _ => false
theorem is_shape (n : Nat) (d : Mp.D) (S : Sr) (h : d.ok 32 = true) : pg.run (n + 4) "is_shape" [d] S = .ok .fz (.bl (isTab 12 20 d)) S := by
  rw [r_is_shape, b_is_shape]
  cases d with
  | tup ps =>
    have hk : D.oks ps 31 = true := h
    by_cases h1 : 1 ≤ ps.length
    · by_cases h2 : ps.length ≤ 12
      · have q1 : (1 : Int) ≤ (ps.length : Int) := by omega
        have q2 : (ps.length : Int) ≤ 12 := by omega
        simp [exL, exS, evE, evEs, evB, evBs, evO, evI, evT, R.b, R.i, Rl.b, Ri.b, R.keep, Ro.seq, endR, okb, okd, freeze_no, no_nil, no_fz, no_no, deq_int, md1, md2, md3, at0, at1, at2, isiD, D.items, b_len_l, b_len_t, b_tup_l, b_tup_t, b_lst_l, b_lst_t, b_int, b_abs, b_add, b_sub, c_lt, c_le, c_gt, c_ge, c_eqi, c_nei, c_is, c_isn, i_lst, i_tup, List.getElem?_cons_zero, List.getElem?_cons_succ, List.set_cons_zero, List.set_cons_succ, wipeE, tgD, con_cel, q1, q2]
        rw [compL_all (g := fun d => .bl (isCel 20 d)) ?g1]
        case g1 =>
          intro d hd
          have e := is_cell n d S (oks_mem hk hd)
          simp [exL, exS, evE, evEs, evB, evBs, evO, evI, evT, R.b, R.i, Rl.b, Ri.b, R.keep, Ro.seq, endR, okb, okd, freeze_no, no_nil, no_fz, no_no, deq_int, md1, md2, md3, at0, at1, at2, isiD, D.items, b_len_l, b_len_t, b_tup_l, b_tup_t, b_lst_l, b_lst_t, b_int, b_abs, b_add, b_sub, c_lt, c_le, c_gt, c_ge, c_eqi, c_nei, c_is, c_isn, i_lst, i_tup, List.getElem?_cons_zero, List.getElem?_cons_succ, List.set_cons_zero, List.set_cons_succ, wipeE, tgD, e]
        simp [exL, exS, evE, evEs, evB, evBs, evO, evI, evT, R.b, R.i, Rl.b, Ri.b, R.keep, Ro.seq, endR, okb, okd, freeze_no, no_nil, no_fz, no_no, deq_int, md1, md2, md3, at0, at1, at2, isiD, D.items, b_len_l, b_len_t, b_tup_l, b_tup_t, b_lst_l, b_lst_t, b_int, b_abs, b_add, b_sub, c_lt, c_le, c_gt, c_ge, c_eqi, c_nei, c_is, c_isn, i_lst, i_tup, List.getElem?_cons_zero, List.getElem?_cons_succ, List.set_cons_zero, List.set_cons_succ, wipeE, tgD, b_all]
        cases h3 : ps.all (isCel 20) with
        | false => simp [exL, exS, evE, evEs, evB, evBs, evO, evI, evT, R.b, R.i, Rl.b, Ri.b, R.keep, Ro.seq, endR, okb, okd, freeze_no, no_nil, no_fz, no_no, deq_int, md1, md2, md3, at0, at1, at2, isiD, D.items, b_len_l, b_len_t, b_tup_l, b_tup_t, b_lst_l, b_lst_t, b_int, b_abs, b_add, b_sub, c_lt, c_le, c_gt, c_ge, c_eqi, c_nei, c_is, c_isn, i_lst, i_tup, List.getElem?_cons_zero, List.getElem?_cons_succ, List.set_cons_zero, List.set_cons_succ, wipeE, tgD, isTab, h3]
        | true =>
          simp [exL, exS, evE, evEs, evB, evBs, evO, evI, evT, R.b, R.i, Rl.b, Ri.b, R.keep, Ro.seq, endR, okb, okd, freeze_no, no_nil, no_fz, no_no, deq_int, md1, md2, md3, at0, at1, at2, isiD, D.items, b_len_l, b_len_t, b_tup_l, b_tup_t, b_lst_l, b_lst_t, b_int, b_abs, b_add, b_sub, c_lt, c_le, c_gt, c_ge, c_eqi, c_nei, c_is, c_isn, i_lst, i_tup, List.getElem?_cons_zero, List.getElem?_cons_succ, List.set_cons_zero, List.set_cons_succ, wipeE, tgD]
          have q3 : -1000000 ≤ (ps.length : Int) - 1 ∧ (ps.length : Int) - 1 ≤ 1000000 := by omega
          simp [exL, exS, evE, evEs, evB, evBs, evO, evI, evT, R.b, R.i, Rl.b, Ri.b, R.keep, Ro.seq, endR, okb, okd, freeze_no, no_nil, no_fz, no_no, deq_int, md1, md2, md3, at0, at1, at2, isiD, D.items, b_len_l, b_len_t, b_tup_l, b_tup_t, b_lst_l, b_lst_t, b_int, b_abs, b_add, b_sub, c_lt, c_le, c_gt, c_ge, c_eqi, c_nei, c_is, c_isn, i_lst, i_tup, List.getElem?_cons_zero, List.getElem?_cons_succ, List.set_cons_zero, List.set_cons_succ, wipeE, tgD, q3]
          have el : ((ps.length : Int) - 1).toNat = ps.length - 1 := by omega
          rw [compL_rng (fun k => .bl (dltb (ps[k]?.getD .non) (ps[k + 1]?.getD .non))) ?g2]
          case g2 =>
            intro k hk
            have k1 : k < ps.length := by omega
            have k2 : k + 1 < ps.length := by omega
            have e1 := atI_in (xs := ps) k1
            have e2 : L2.atI ps ((k : Int) + 1) = some ps[k + 1] := atI_in (xs := ps) k2
            have e3 := lt_cel (List.all_eq_true.mp h3 _ (List.getElem_mem k1)) (List.all_eq_true.mp h3 _ (List.getElem_mem k2))
            rw [List.getElem?_eq_getElem k1, List.getElem?_eq_getElem k2]
            simp [exL, exS, evE, evEs, evB, evBs, evO, evI, evT, R.b, R.i, Rl.b, Ri.b, R.keep, Ro.seq, endR, okb, okd, freeze_no, no_nil, no_fz, no_no, deq_int, md1, md2, md3, at0, at1, at2, isiD, D.items, b_len_l, b_len_t, b_tup_l, b_tup_t, b_lst_l, b_lst_t, b_int, b_abs, b_add, b_sub, c_lt, c_le, c_gt, c_ge, c_eqi, c_nei, c_is, c_isn, i_lst, i_tup, List.getElem?_cons_zero, List.getElem?_cons_succ, List.set_cons_zero, List.set_cons_succ, wipeE, tgD, e1, e2, e3]
          simp [exL, exS, evE, evEs, evB, evBs, evO, evI, evT, R.b, R.i, Rl.b, Ri.b, R.keep, Ro.seq, endR, okb, okd, freeze_no, no_nil, no_fz, no_no, deq_int, md1, md2, md3, at0, at1, at2, isiD, D.items, b_len_l, b_len_t, b_tup_l, b_tup_t, b_lst_l, b_lst_t, b_int, b_abs, b_add, b_sub, c_lt, c_le, c_gt, c_ge, c_eqi, c_nei, c_is, c_isn, i_lst, i_tup, List.getElem?_cons_zero, List.getElem?_cons_succ, List.set_cons_zero, List.set_cons_succ, wipeE, tgD, b_all, el, isTab, h1, h2, h3, asc]
      · have q1 : (1 : Int) ≤ (ps.length : Int) := by omega
        have q2 : ¬ (ps.length : Int) ≤ 12 := by omega
        simp [exL, exS, evE, evEs, evB, evBs, evO, evI, evT, R.b, R.i, Rl.b, Ri.b, R.keep, Ro.seq, endR, okb, okd, freeze_no, no_nil, no_fz, no_no, deq_int, md1, md2, md3, at0, at1, at2, isiD, D.items, b_len_l, b_len_t, b_tup_l, b_tup_t, b_lst_l, b_lst_t, b_int, b_abs, b_add, b_sub, c_lt, c_le, c_gt, c_ge, c_eqi, c_nei, c_is, c_isn, i_lst, i_tup, List.getElem?_cons_zero, List.getElem?_cons_succ, List.set_cons_zero, List.set_cons_succ, wipeE, tgD, con_cel, q1, q2, isTab, h2]
    · have q1 : ¬ (1 : Int) ≤ (ps.length : Int) := by omega
      simp [exL, exS, evE, evEs, evB, evBs, evO, evI, evT, R.b, R.i, Rl.b, Ri.b, R.keep, Ro.seq, endR, okb, okd, freeze_no, no_nil, no_fz, no_no, deq_int, md1, md2, md3, at0, at1, at2, isiD, D.items, b_len_l, b_len_t, b_tup_l, b_tup_t, b_lst_l, b_lst_t, b_int, b_abs, b_add, b_sub, c_lt, c_le, c_gt, c_ge, c_eqi, c_nei, c_is, c_isn, i_lst, i_tup, List.getElem?_cons_zero, List.getElem?_cons_succ, List.set_cons_zero, List.set_cons_succ, wipeE, tgD, con_cel, q1, isTab, h1]
  | _ => first | (cases h; done) | (simp [exL, exS, evE, evEs, evB, evBs, evO, evI, evT, R.b, R.i, Rl.b, Ri.b, R.keep, Ro.seq, endR, okb, okd, freeze_no, no_nil, no_fz, no_no, deq_int, md1, md2, md3, at0, at1, at2, isiD, D.items, b_len_l, b_len_t, b_tup_l, b_tup_t, b_lst_l, b_lst_t, b_int, b_abs, b_add, b_sub, c_lt, c_le, c_gt, c_ge, c_eqi, c_nei, c_is, c_isn, i_lst, i_tup, List.getElem?_cons_zero, List.getElem?_cons_succ, List.set_cons_zero, List.set_cons_succ, wipeE, tgD]; rfl)
def figB : List Mp.St := [
    .ite (.bool false [.not (.isi (.var 1) .tuple), .cmp .ne (.blt .len [.var 1]) (.lit (.int 2))]) [
      .ret (.lit (.tr false))] [],
    .ite (.not (.blt .all [.comp [2] (.nm 2) (.ov (.var 1)) [] (.call "is_between" [.var 2, .neg (.con "FARTHEST_FIGURE"), .con "FARTHEST_FIGURE"])])) [
      .ret (.lit (.tr false))] []]
theorem fig_turn (n : Nat) (v d : Mp.D) (a b c : Option (Bool × Mp.D)) (S : Sr) (h : d.ok 31 = true) (hc : noOwn [b, c] = true) :
    bodyF tab (pg.run (n + 2)) (.nm 1) figB d [some (false, v), a, b, c] S = if isCel 60 d = true then .nx [some (false, v), some (false, d), b, c] S else .rt .fz (.bl false) S := by
  have hn : noOwn [some (false, v), some (false, d), b, c] = true := hc
  unfold bodyF figB
  show exL tab (pg.run (n + 2)) _ [some (false, v), some (false, d), b, c] S = _
  cases d with
  | tup ds =>
    rcases ds with _ | ⟨x, _ | ⟨y, _ | ⟨z, r⟩⟩⟩
    · simp [exL, exS, evE, evEs, evB, evBs, evO, evI, evT, R.b, R.i, Rl.b, Ri.b, R.keep, Ro.seq, endR, okb, okd, freeze_no, no_nil, no_fz, no_no, deq_int, md1, md2, md3, at0, at1, at2, isiD, D.items, b_len_l, b_len_t, b_tup_l, b_tup_t, b_lst_l, b_lst_t, b_int, b_abs, b_add, b_sub, c_lt, c_le, c_gt, c_ge, c_eqi, c_nei, c_is, c_isn, i_lst, i_tup, List.getElem?_cons_zero, List.getElem?_cons_succ, List.set_cons_zero, List.set_cons_succ, wipeE, tgD, freeze_no hn, isCel]
    · simp [exL, exS, evE, evEs, evB, evBs, evO, evI, evT, R.b, R.i, Rl.b, Ri.b, R.keep, Ro.seq, endR, okb, okd, freeze_no, no_nil, no_fz, no_no, deq_int, md1, md2, md3, at0, at1, at2, isiD, D.items, b_len_l, b_len_t, b_tup_l, b_tup_t, b_lst_l, b_lst_t, b_int, b_abs, b_add, b_sub, c_lt, c_le, c_gt, c_ge, c_eqi, c_nei, c_is, c_isn, i_lst, i_tup, List.getElem?_cons_zero, List.getElem?_cons_succ, List.set_cons_zero, List.set_cons_succ, wipeE, tgD, freeze_no hn, isCel]
    · have hk : D.oks [x, y] 30 = true := h
      have e : ∀ w ∈ [x, y], pg.run (n + 2) "is_between" [w, .int (-60), .int 60] S = .ok .fz (.bl (betw w (-60) 60)) S := fun w hw => is_between n w (-60) 60 S (oks_mem hk hw)
      simp [exL, exS, evE, evEs, evB, evBs, evO, evI, evT, R.b, R.i, Rl.b, Ri.b, R.keep, Ro.seq, endR, okb, okd, freeze_no, no_nil, no_fz, no_no, deq_int, md1, md2, md3, at0, at1, at2, isiD, D.items, b_len_l, b_len_t, b_tup_l, b_tup_t, b_lst_l, b_lst_t, b_int, b_abs, b_add, b_sub, c_lt, c_le, c_gt, c_ge, c_eqi, c_nei, c_is, c_isn, i_lst, i_tup, List.getElem?_cons_zero, List.getElem?_cons_succ, List.set_cons_zero, List.set_cons_succ, wipeE, tgD, freeze_no hn]
      rw [compL_all (g := fun d => .bl (betw d (-60) 60)) ?g1]
      case g1 =>
        intro w hw
        have e := e w hw
        simp [exL, exS, evE, evEs, evB, evBs, evO, evI, evT, R.b, R.i, Rl.b, Ri.b, R.keep, Ro.seq, endR, okb, okd, freeze_no, no_nil, no_fz, no_no, deq_int, md1, md2, md3, at0, at1, at2, isiD, D.items, b_len_l, b_len_t, b_tup_l, b_tup_t, b_lst_l, b_lst_t, b_int, b_abs, b_add, b_sub, c_lt, c_le, c_gt, c_ge, c_eqi, c_nei, c_is, c_isn, i_lst, i_tup, List.getElem?_cons_zero, List.getElem?_cons_succ, List.set_cons_zero, List.set_cons_succ, wipeE, tgD, con_ff, e]
      dsimp only
      rw [b_all]
      cases h1 : betw x (-60) 60 <;> cases h2 : betw y (-60) 60 <;> simp [isCel, h1, h2, freeze_no hn, exL, exS, evE, R.b, R.keep, Ro.seq]
    · have hl : ¬ ((r.length : Int) + 1 + 1 + 1 = 2) := by omega
      simp [exL, exS, evE, evEs, evB, evBs, evO, evI, evT, R.b, R.i, Rl.b, Ri.b, R.keep, Ro.seq, endR, okb, okd, freeze_no, no_nil, no_fz, no_no, deq_int, md1, md2, md3, at0, at1, at2, isiD, D.items, b_len_l, b_len_t, b_tup_l, b_tup_t, b_lst_l, b_lst_t, b_int, b_abs, b_add, b_sub, c_lt, c_le, c_gt, c_ge, c_eqi, c_nei, c_is, c_isn, i_lst, i_tup, List.getElem?_cons_zero, List.getElem?_cons_succ, List.set_cons_zero, List.set_cons_succ, wipeE, tgD, freeze_no hn, hl, isCel]
  | _ => first | (cases h; done) | rfl
theorem fig_loop (n : Nat) (v : Mp.D) (b c : Option (Bool × Mp.D)) (S : Sr) (hc : noOwn [b, c] = true) : ∀ (ps : List Mp.D) (a : Option (Bool × Mp.D)), D.oks ps 31 = true →
    (ps.all (isCel 60) = true ∧ ∃ a', forL (bodyF tab (pg.run (n + 2)) (.nm 1) figB) ps [some (false, v), a, b, c] S = .nx [some (false, v), a', b, c] S) ∨
    (ps.all (isCel 60) = false ∧ forL (bodyF tab (pg.run (n + 2)) (.nm 1) figB) ps [some (false, v), a, b, c] S = .rt .fz (.bl false) S)
  | [], a, _ => .inl ⟨rfl, a, rfl⟩
  | d :: ps, a, h => by
    rw [D.oks, Bool.and_eq_true] at h
    rw [forL, fig_turn n v d a b c S h.1 hc, List.all_cons]
    cases h1 : isCel 60 d with
    | false => exact .inr ⟨rfl, rfl⟩
    | true =>
      rw [if_pos rfl, Bool.true_and]
      exact fig_loop n v b c S hc ps _ h.2
theorem is_figure (n : Nat) (d : Mp.D) (S : Sr) (h : d.ok 32 = true ∨ d = .dct []) : pg.run (n + 3) "is_figure" [d] S = .ok .fz (.bl (isTab 30 60 d)) S := by
  rw [r_is_figure, b_is_figure]
  rcases h with h | rfl
  rotate_left
  · rfl
  cases d with
  | tup ps =>
    have hk : D.oks ps 31 = true := h
    by_cases h1 : 1 ≤ ps.length
    · by_cases h2 : ps.length ≤ 30
      · have q1 : (1 : Int) ≤ (ps.length : Int) := by omega
        have q2 : (ps.length : Int) ≤ 30 := by omega
        rw [exL_cons]
        have s1 : exS tab (pg.run (n + 2)) (.ite (.bool false [.not (.isi (.var 0) .tuple), .not (.cmp2 .le .le (.lit (.int 1)) (.blt .len [.var 0]) (.con "MOST_FIGURE"))]) [.ret (.lit (.tr false))] []) [some (false, .tup ps), none, none, none] S = .nx [some (false, .tup ps), none, none, none] S := by
          simp [exL, exS, evE, evEs, evB, evBs, evO, evI, evT, R.b, R.i, Rl.b, Ri.b, R.keep, Ro.seq, endR, okb, okd, freeze_no, no_nil, no_fz, no_no, deq_int, md1, md2, md3, at0, at1, at2, isiD, D.items, b_len_l, b_len_t, b_tup_l, b_tup_t, b_lst_l, b_lst_t, b_int, b_abs, b_add, b_sub, c_lt, c_le, c_gt, c_ge, c_eqi, c_nei, c_is, c_isn, i_lst, i_tup, List.getElem?_cons_zero, List.getElem?_cons_succ, List.set_cons_zero, List.set_cons_succ, wipeE, tgD, con_fig, q1, q2]
        rw [s1]
        show endR (exL tab (pg.run (n + 2)) [.for_ (.nm 1) (.ov (.var 0)) figB, .ret (.blt .all [.comp [3] (.nm 3) (.rg (.bin .sub (.blt .len [.var 0]) (.lit (.int 1)))) [] (.cmp .lt (.ix (.var 0) (.var 3)) (.ix (.var 0) (.bin .add (.var 3) (.lit (.int 1)))))])] [some (false, .tup ps), none, none, none] S) = _
        rw [exL_cons, exS_for (ds := ps) (S1 := S) (by simp [exL, exS, evE, evEs, evB, evBs, evO, evI, evT, R.b, R.i, Rl.b, Ri.b, R.keep, Ro.seq, endR, okb, okd, freeze_no, no_nil, no_fz, no_no, deq_int, md1, md2, md3, at0, at1, at2, isiD, D.items, b_len_l, b_len_t, b_tup_l, b_tup_t, b_lst_l, b_lst_t, b_int, b_abs, b_add, b_sub, c_lt, c_le, c_gt, c_ge, c_eqi, c_nei, c_is, c_isn, i_lst, i_tup, List.getElem?_cons_zero, List.getElem?_cons_succ, List.set_cons_zero, List.set_cons_succ, wipeE, tgD])]
        rw [freeze_no rfl]
        rcases fig_loop n (.tup ps) none none S rfl ps none hk with ⟨h3, a', e⟩ | ⟨h3, e⟩
        · rw [e]
          show endR (exL tab (pg.run (n + 2)) [.ret (.blt .all [.comp [3] (.nm 3) (.rg (.bin .sub (.blt .len [.var 0]) (.lit (.int 1)))) [] (.cmp .lt (.ix (.var 0) (.var 3)) (.ix (.var 0) (.bin .add (.var 3) (.lit (.int 1)))))])] [some (false, .tup ps), a', none, none] S) = _
          have q3 : -1000000 ≤ (ps.length : Int) - 1 ∧ (ps.length : Int) - 1 ≤ 1000000 := by omega
          have el : ((ps.length : Int) - 1).toNat = ps.length - 1 := by omega
          rw [exL_cons, exS]
          have ef : freezeE [some (false, .tup ps), a', none, none] (esc (.blt .all [.comp [3] (.nm 3) (.rg (.bin .sub (.blt .len [.var 0]) (.lit (.int 1)))) [] (.cmp .lt (.ix (.var 0) (.var 3)) (.ix (.var 0) (.bin .add (.var 3) (.lit (.int 1)))))])) = [some (false, .tup ps), a', none, none] := rfl
          rw [ef]
          have e2 : evE tab (pg.run (n + 2)) (.comp [3] (.nm 3) (.rg (.bin .sub (.blt .len [.var 0]) (.lit (.int 1)))) [] (.cmp .lt (.ix (.var 0) (.var 3)) (.ix (.var 0) (.bin .add (.var 3) (.lit (.int 1)))))) [some (false, .tup ps), a', none, none] S =
              .ok .fr (.lst ((List.range (ps.length - 1)).map fun k => .bl (dltb (ps[k]?.getD .non) (ps[k + 1]?.getD .non)))) S := by
            simp [exL, exS, evE, evEs, evB, evBs, evO, evI, evT, R.b, R.i, Rl.b, Ri.b, R.keep, Ro.seq, endR, okb, okd, freeze_no, no_nil, no_fz, no_no, deq_int, md1, md2, md3, at0, at1, at2, isiD, D.items, b_len_l, b_len_t, b_tup_l, b_tup_t, b_lst_l, b_lst_t, b_int, b_abs, b_add, b_sub, c_lt, c_le, c_gt, c_ge, c_eqi, c_nei, c_is, c_isn, i_lst, i_tup, List.getElem?_cons_zero, List.getElem?_cons_succ, List.set_cons_zero, List.set_cons_succ, wipeE, tgD, q3]
            rw [compL_rng (fun k => .bl (dltb (ps[k]?.getD .non) (ps[k + 1]?.getD .non))) ?g2]
            case g2 =>
              intro k hk
              have k1 : k < ps.length := by omega
              have k2 : k + 1 < ps.length := by omega
              have e1 := atI_in (xs := ps) k1
              have e2 : L2.atI ps ((k : Int) + 1) = some ps[k + 1] := atI_in (xs := ps) k2
              have e3 := lt_cel (List.all_eq_true.mp h3 _ (List.getElem_mem k1)) (List.all_eq_true.mp h3 _ (List.getElem_mem k2))
              rw [List.getElem?_eq_getElem k1, List.getElem?_eq_getElem k2]
              simp [exL, exS, evE, evEs, evB, evBs, evO, evI, evT, R.b, R.i, Rl.b, Ri.b, R.keep, Ro.seq, endR, okb, okd, freeze_no, no_nil, no_fz, no_no, deq_int, md1, md2, md3, at0, at1, at2, isiD, D.items, b_len_l, b_len_t, b_tup_l, b_tup_t, b_lst_l, b_lst_t, b_int, b_abs, b_add, b_sub, c_lt, c_le, c_gt, c_ge, c_eqi, c_nei, c_is, c_isn, i_lst, i_tup, List.getElem?_cons_zero, List.getElem?_cons_succ, List.set_cons_zero, List.set_cons_succ, wipeE, tgD, e1, e2, e3]
            rw [el]
          rw [evE, evBs, e2]
          show endR ((((bltD .all [.lst ((List.range (ps.length - 1)).map fun k => .bl (dltb (ps[k]?.getD .non) (ps[k + 1]?.getD .non)))] S)).keep _ fun m d S => .rt m d S).seq _) = _
          rw [b_all]
          simp [isTab, h1, h2, h3, asc, R.keep, Ro.seq, endR]
          intro i z
          cases z
        · rw [e]
          simp [isTab, h3, Ro.seq, endR]
      · have q1 : (1 : Int) ≤ (ps.length : Int) := by omega
        have q2 : ¬ (ps.length : Int) ≤ 30 := by omega
        simp [exL, exS, evE, evEs, evB, evBs, evO, evI, evT, R.b, R.i, Rl.b, Ri.b, R.keep, Ro.seq, endR, okb, okd, freeze_no, no_nil, no_fz, no_no, deq_int, md1, md2, md3, at0, at1, at2, isiD, D.items, b_len_l, b_len_t, b_tup_l, b_tup_t, b_lst_l, b_lst_t, b_int, b_abs, b_add, b_sub, c_lt, c_le, c_gt, c_ge, c_eqi, c_nei, c_is, c_isn, i_lst, i_tup, List.getElem?_cons_zero, List.getElem?_cons_succ, List.set_cons_zero, List.set_cons_succ, wipeE, tgD, con_fig, q1, q2, isTab, h2]
    · have q1 : ¬ (1 : Int) ≤ (ps.length : Int) := by omega
      simp [exL, exS, evE, evEs, evB, evBs, evO, evI, evT, R.b, R.i, Rl.b, Ri.b, R.keep, Ro.seq, endR, okb, okd, freeze_no, no_nil, no_fz, no_no, deq_int, md1, md2, md3, at0, at1, at2, isiD, D.items, b_len_l, b_len_t, b_tup_l, b_tup_t, b_lst_l, b_lst_t, b_int, b_abs, b_add, b_sub, c_lt, c_le, c_gt, c_ge, c_eqi, c_nei, c_is, c_isn, i_lst, i_tup, List.getElem?_cons_zero, List.getElem?_cons_succ, List.set_cons_zero, List.set_cons_succ, wipeE, tgD, con_fig, q1, isTab, h1]
  | _ => first | (cases h; done) | rfl
theorem check_figure (n : Nat) (d : Mp.D) (S : Sr) (h : d.ok 32 = true ∨ d = .dct []) : pg.run (n + 4) "check_figure" [d] S = if isTab 30 60 d = true then .ok .fz .non S else .exc (.exc "InvalidFigure" []) S := by
  rw [r_check_figure, b_check_figure]
  have e := is_figure n d S h
  cases h1 : isTab 30 60 d <;> simp [exL, exS, evE, evEs, evB, evBs, evO, evI, evT, R.b, R.i, Rl.b, Ri.b, R.keep, Ro.seq, endR, okb, okd, freeze_no, no_nil, no_fz, no_no, deq_int, md1, md2, md3, at0, at1, at2, isiD, D.items, b_len_l, b_len_t, b_tup_l, b_tup_t, b_lst_l, b_lst_t, b_int, b_abs, b_add, b_sub, c_lt, c_le, c_gt, c_ge, c_eqi, c_nei, c_is, c_isn, i_lst, i_tup, List.getElem?_cons_zero, List.getElem?_cons_succ, List.set_cons_zero, List.set_cons_succ, wipeE, tgD, e, h1]
def isSto (d : Mp.D) : Bool :=
  match d with
  | .lst ss => decide (1 ≤ ss.length) && decide (ss.length ≤ 6) && ss.all (isTab 12 20)
  | _ => false
theorem check_stock (n : Nat) (d : Mp.D) (S : Sr) (h : d.ok 33 = true ∨ d = .dct []) : pg.run (n + 5) "check_stock" [d] S = if isSto d = true then .ok .fz .non S else .exc (.exc "InvalidStock" []) S := by
  rw [r_check_stock, b_check_stock]
  rcases h with h | rfl
  rotate_left
  · rfl
  cases d with
  | lst ss =>
    have hk : D.oks ss 32 = true := h
    by_cases h1 : 1 ≤ ss.length
    · by_cases h2 : ss.length ≤ 6
      · have q1 : (1 : Int) ≤ (ss.length : Int) := by omega
        have q2 : (ss.length : Int) ≤ 6 := by omega
        simp [exL, exS, evE, evEs, evB, evBs, evO, evI, evT, R.b, R.i, Rl.b, Ri.b, R.keep, Ro.seq, endR, okb, okd, freeze_no, no_nil, no_fz, no_no, deq_int, md1, md2, md3, at0, at1, at2, isiD, D.items, b_len_l, b_len_t, b_tup_l, b_tup_t, b_lst_l, b_lst_t, b_int, b_abs, b_add, b_sub, c_lt, c_le, c_gt, c_ge, c_eqi, c_nei, c_is, c_isn, i_lst, i_tup, List.getElem?_cons_zero, List.getElem?_cons_succ, List.set_cons_zero, List.set_cons_succ, wipeE, tgD, con_sto, q1, q2]
        rw [compL_all (g := fun d => .bl (isTab 12 20 d)) ?g1]
        case g1 =>
          intro d hd
          have e := is_shape n d S (oks_mem hk hd)
          simp [exL, exS, evE, evEs, evB, evBs, evO, evI, evT, R.b, R.i, Rl.b, Ri.b, R.keep, Ro.seq, endR, okb, okd, freeze_no, no_nil, no_fz, no_no, deq_int, md1, md2, md3, at0, at1, at2, isiD, D.items, b_len_l, b_len_t, b_tup_l, b_tup_t, b_lst_l, b_lst_t, b_int, b_abs, b_add, b_sub, c_lt, c_le, c_gt, c_ge, c_eqi, c_nei, c_is, c_isn, i_lst, i_tup, List.getElem?_cons_zero, List.getElem?_cons_succ, List.set_cons_zero, List.set_cons_succ, wipeE, tgD, e]
        simp [exL, exS, evE, evEs, evB, evBs, evO, evI, evT, R.b, R.i, Rl.b, Ri.b, R.keep, Ro.seq, endR, okb, okd, freeze_no, no_nil, no_fz, no_no, deq_int, md1, md2, md3, at0, at1, at2, isiD, D.items, b_len_l, b_len_t, b_tup_l, b_tup_t, b_lst_l, b_lst_t, b_int, b_abs, b_add, b_sub, c_lt, c_le, c_gt, c_ge, c_eqi, c_nei, c_is, c_isn, i_lst, i_tup, List.getElem?_cons_zero, List.getElem?_cons_succ, List.set_cons_zero, List.set_cons_succ, wipeE, tgD, b_all]
        cases h3 : ss.all (isTab 12 20) <;> simp [exL, exS, evE, evEs, evB, evBs, evO, evI, evT, R.b, R.i, Rl.b, Ri.b, R.keep, Ro.seq, endR, okb, okd, freeze_no, no_nil, no_fz, no_no, deq_int, md1, md2, md3, at0, at1, at2, isiD, D.items, b_len_l, b_len_t, b_tup_l, b_tup_t, b_lst_l, b_lst_t, b_int, b_abs, b_add, b_sub, c_lt, c_le, c_gt, c_ge, c_eqi, c_nei, c_is, c_isn, i_lst, i_tup, List.getElem?_cons_zero, List.getElem?_cons_succ, List.set_cons_zero, List.set_cons_succ, wipeE, tgD, isSto, h1, h2, h3]
      · have q1 : (1 : Int) ≤ (ss.length : Int) := by omega
        have q2 : ¬ (ss.length : Int) ≤ 6 := by omega
        simp [exL, exS, evE, evEs, evB, evBs, evO, evI, evT, R.b, R.i, Rl.b, Ri.b, R.keep, Ro.seq, endR, okb, okd, freeze_no, no_nil, no_fz, no_no, deq_int, md1, md2, md3, at0, at1, at2, isiD, D.items, b_len_l, b_len_t, b_tup_l, b_tup_t, b_lst_l, b_lst_t, b_int, b_abs, b_add, b_sub, c_lt, c_le, c_gt, c_ge, c_eqi, c_nei, c_is, c_isn, i_lst, i_tup, List.getElem?_cons_zero, List.getElem?_cons_succ, List.set_cons_zero, List.set_cons_succ, wipeE, tgD, con_sto, q1, q2, isSto, h2]
    · have q1 : ¬ (1 : Int) ≤ (ss.length : Int) := by omega
      simp [exL, exS, evE, evEs, evB, evBs, evO, evI, evT, R.b, R.i, Rl.b, Ri.b, R.keep, Ro.seq, endR, okb, okd, freeze_no, no_nil, no_fz, no_no, deq_int, md1, md2, md3, at0, at1, at2, isiD, D.items, b_len_l, b_len_t, b_tup_l, b_tup_t, b_lst_l, b_lst_t, b_int, b_abs, b_add, b_sub, c_lt, c_le, c_gt, c_ge, c_eqi, c_nei, c_is, c_isn, i_lst, i_tup, List.getElem?_cons_zero, List.getElem?_cons_succ, List.set_cons_zero, List.set_cons_succ, wipeE, tgD, con_sto, q1, isSto, h1]
  | _ => first | (cases h; done) | rfl
end K28
set_option Elab.async false
set_option maxRecDepth 100000
set_option maxHeartbeats 4000000
/-! P28b: sums and their parts. -/
namespace K28
open PySem Mp
/-- a tuple or a list of cells -/
def holds (v : Mp.D) (cs : List Ce) : Prop := v = csD cs ∨ v = .lst (cs.map cD)
theorem at_corner (n : Nat) (v : Mp.D) (cs : List Ce) (S : Sr) (hv : holds v cs) (h0 : cs ≠ []) (nd : cs.Nodup) (hl : cs.length ≤ szMax) : pg.run (n + 1) "at_corner" [v] S = .ok .fz (csD (corner cs)) S := by
  have hx : (cs.map (·.1) : List Int) ≠ [] := fun z => h0 (List.map_eq_nil_iff.mp z)
  have hy : (cs.map (·.2) : List Int) ≠ [] := fun z => h0 (List.map_eq_nil_iff.mp z)
  have e1 : ∀ env : Mp.Env, env[0]? = some (some (false, v)) → env.length = 5 → evE tab (pg.run n) (.comp [3, 4] (.tp [3, 4]) (.ov (.var 0)) [] (.var 3)) env S = .ok .fr (.lst ((cs.map (·.1)).map .int)) S := by
    intro env he hlen
    rcases env with _ | ⟨a, _ | ⟨b, _ | ⟨c, _ | ⟨d, _ | ⟨e, _ | ⟨f, r⟩⟩⟩⟩⟩⟩ <;> simp at hlen
    simp at he
    subst he
    rcases hv with rfl | rfl
    · unfold csD
      simp [exL, exS, evE, evEs, evB, evBs, evO, evI, evT, R.b, R.i, Rl.b, Ri.b, R.keep, Ro.seq, endR, okb, okd, freeze_no, no_nil, no_fz, no_no, deq_int, md1, md2, md3, at0, at1, at2, isiD, D.items, b_len_l, b_len_t, b_tup_l, b_tup_t, b_lst_l, b_lst_t, b_int, b_abs, b_add, b_sub, c_lt, c_le, c_gt, c_ge, c_eqi, c_nei, c_is, c_isn, i_lst, i_tup, List.getElem?_cons_zero, List.getElem?_cons_succ, List.set_cons_zero, List.set_cons_succ, wipeE, tgD]
      rw [compL_of (f := cD) (g := fun c => some (.int c.1)) ?g]
      case g =>
        intro c hc
        unfold cD
        simp [exL, exS, evE, evEs, evB, evBs, evO, evI, evT, R.b, R.i, Rl.b, Ri.b, R.keep, Ro.seq, endR, okb, okd, freeze_no, no_nil, no_fz, no_no, deq_int, md1, md2, md3, at0, at1, at2, isiD, D.items, b_len_l, b_len_t, b_tup_l, b_tup_t, b_lst_l, b_lst_t, b_int, b_abs, b_add, b_sub, c_lt, c_le, c_gt, c_ge, c_eqi, c_nei, c_is, c_isn, i_lst, i_tup, List.getElem?_cons_zero, List.getElem?_cons_succ, List.set_cons_zero, List.set_cons_succ, wipeE, tgD]
      simp
    · simp [exL, exS, evE, evEs, evB, evBs, evO, evI, evT, R.b, R.i, Rl.b, Ri.b, R.keep, Ro.seq, endR, okb, okd, freeze_no, no_nil, no_fz, no_no, deq_int, md1, md2, md3, at0, at1, at2, isiD, D.items, b_len_l, b_len_t, b_tup_l, b_tup_t, b_lst_l, b_lst_t, b_int, b_abs, b_add, b_sub, c_lt, c_le, c_gt, c_ge, c_eqi, c_nei, c_is, c_isn, i_lst, i_tup, List.getElem?_cons_zero, List.getElem?_cons_succ, List.set_cons_zero, List.set_cons_succ, wipeE, tgD]
      rw [compL_of (f := cD) (g := fun c => some (.int c.1)) ?g2]
      case g2 =>
        intro c hc
        unfold cD
        simp [exL, exS, evE, evEs, evB, evBs, evO, evI, evT, R.b, R.i, Rl.b, Ri.b, R.keep, Ro.seq, endR, okb, okd, freeze_no, no_nil, no_fz, no_no, deq_int, md1, md2, md3, at0, at1, at2, isiD, D.items, b_len_l, b_len_t, b_tup_l, b_tup_t, b_lst_l, b_lst_t, b_int, b_abs, b_add, b_sub, c_lt, c_le, c_gt, c_ge, c_eqi, c_nei, c_is, c_isn, i_lst, i_tup, List.getElem?_cons_zero, List.getElem?_cons_succ, List.set_cons_zero, List.set_cons_succ, wipeE, tgD]
      simp
  have e2 : ∀ env : Mp.Env, env[0]? = some (some (false, v)) → env.length = 5 → evE tab (pg.run n) (.comp [3, 4] (.tp [3, 4]) (.ov (.var 0)) [] (.var 4)) env S = .ok .fr (.lst ((cs.map (·.2)).map .int)) S := by
    intro env he hlen
    rcases env with _ | ⟨a, _ | ⟨b, _ | ⟨c, _ | ⟨d, _ | ⟨e, _ | ⟨f, r⟩⟩⟩⟩⟩⟩ <;> simp at hlen
    simp at he
    subst he
    rcases hv with rfl | rfl
    · unfold csD
      simp [exL, exS, evE, evEs, evB, evBs, evO, evI, evT, R.b, R.i, Rl.b, Ri.b, R.keep, Ro.seq, endR, okb, okd, freeze_no, no_nil, no_fz, no_no, deq_int, md1, md2, md3, at0, at1, at2, isiD, D.items, b_len_l, b_len_t, b_tup_l, b_tup_t, b_lst_l, b_lst_t, b_int, b_abs, b_add, b_sub, c_lt, c_le, c_gt, c_ge, c_eqi, c_nei, c_is, c_isn, i_lst, i_tup, List.getElem?_cons_zero, List.getElem?_cons_succ, List.set_cons_zero, List.set_cons_succ, wipeE, tgD]
      rw [compL_of (f := cD) (g := fun c => some (.int c.2)) ?g]
      case g =>
        intro c hc
        unfold cD
        simp [exL, exS, evE, evEs, evB, evBs, evO, evI, evT, R.b, R.i, Rl.b, Ri.b, R.keep, Ro.seq, endR, okb, okd, freeze_no, no_nil, no_fz, no_no, deq_int, md1, md2, md3, at0, at1, at2, isiD, D.items, b_len_l, b_len_t, b_tup_l, b_tup_t, b_lst_l, b_lst_t, b_int, b_abs, b_add, b_sub, c_lt, c_le, c_gt, c_ge, c_eqi, c_nei, c_is, c_isn, i_lst, i_tup, List.getElem?_cons_zero, List.getElem?_cons_succ, List.set_cons_zero, List.set_cons_succ, wipeE, tgD]
      simp
    · simp [exL, exS, evE, evEs, evB, evBs, evO, evI, evT, R.b, R.i, Rl.b, Ri.b, R.keep, Ro.seq, endR, okb, okd, freeze_no, no_nil, no_fz, no_no, deq_int, md1, md2, md3, at0, at1, at2, isiD, D.items, b_len_l, b_len_t, b_tup_l, b_tup_t, b_lst_l, b_lst_t, b_int, b_abs, b_add, b_sub, c_lt, c_le, c_gt, c_ge, c_eqi, c_nei, c_is, c_isn, i_lst, i_tup, List.getElem?_cons_zero, List.getElem?_cons_succ, List.set_cons_zero, List.set_cons_succ, wipeE, tgD]
      rw [compL_of (f := cD) (g := fun c => some (.int c.2)) ?g2]
      case g2 =>
        intro c hc
        unfold cD
        simp [exL, exS, evE, evEs, evB, evBs, evO, evI, evT, R.b, R.i, Rl.b, Ri.b, R.keep, Ro.seq, endR, okb, okd, freeze_no, no_nil, no_fz, no_no, deq_int, md1, md2, md3, at0, at1, at2, isiD, D.items, b_len_l, b_len_t, b_tup_l, b_tup_t, b_lst_l, b_lst_t, b_int, b_abs, b_add, b_sub, c_lt, c_le, c_gt, c_ge, c_eqi, c_nei, c_is, c_isn, i_lst, i_tup, List.getElem?_cons_zero, List.getElem?_cons_succ, List.set_cons_zero, List.set_cons_succ, wipeE, tgD]
      simp
  let m : Ce := (mnL (cs.map (·.1)), mnL (cs.map (·.2)))
  have e3 : evE tab (pg.run n) (.comp [3, 4] (.tp [3, 4]) (.ov (.var 0)) [] (.tup [.bin .sub (.var 3) (.var 1), .bin .sub (.var 4) (.var 2)])) [some (false, v), some (false, .int m.1), some (false, .int m.2), none, none] S =
      .ok .fr (.lst ((cs.map fun c => subC c m).map cD)) S := by
    rcases hv with rfl | rfl
    · unfold csD
      simp [exL, exS, evE, evEs, evB, evBs, evO, evI, evT, R.b, R.i, Rl.b, Ri.b, R.keep, Ro.seq, endR, okb, okd, freeze_no, no_nil, no_fz, no_no, deq_int, md1, md2, md3, at0, at1, at2, isiD, D.items, b_len_l, b_len_t, b_tup_l, b_tup_t, b_lst_l, b_lst_t, b_int, b_abs, b_add, b_sub, c_lt, c_le, c_gt, c_ge, c_eqi, c_nei, c_is, c_isn, i_lst, i_tup, List.getElem?_cons_zero, List.getElem?_cons_succ, List.set_cons_zero, List.set_cons_succ, wipeE, tgD]
      rw [compL_of (f := cD) (g := fun c => some (cD (subC c m))) ?g]
      case g =>
        intro c hc
        unfold cD subC
        simp [exL, exS, evE, evEs, evB, evBs, evO, evI, evT, R.b, R.i, Rl.b, Ri.b, R.keep, Ro.seq, endR, okb, okd, freeze_no, no_nil, no_fz, no_no, deq_int, md1, md2, md3, at0, at1, at2, isiD, D.items, b_len_l, b_len_t, b_tup_l, b_tup_t, b_lst_l, b_lst_t, b_int, b_abs, b_add, b_sub, c_lt, c_le, c_gt, c_ge, c_eqi, c_nei, c_is, c_isn, i_lst, i_tup, List.getElem?_cons_zero, List.getElem?_cons_succ, List.set_cons_zero, List.set_cons_succ, wipeE, tgD]
      simp
    · simp [exL, exS, evE, evEs, evB, evBs, evO, evI, evT, R.b, R.i, Rl.b, Ri.b, R.keep, Ro.seq, endR, okb, okd, freeze_no, no_nil, no_fz, no_no, deq_int, md1, md2, md3, at0, at1, at2, isiD, D.items, b_len_l, b_len_t, b_tup_l, b_tup_t, b_lst_l, b_lst_t, b_int, b_abs, b_add, b_sub, c_lt, c_le, c_gt, c_ge, c_eqi, c_nei, c_is, c_isn, i_lst, i_tup, List.getElem?_cons_zero, List.getElem?_cons_succ, List.set_cons_zero, List.set_cons_succ, wipeE, tgD]
      rw [compL_of (f := cD) (g := fun c => some (cD (subC c m))) ?g2]
      case g2 =>
        intro c hc
        unfold cD subC
        simp [exL, exS, evE, evEs, evB, evBs, evO, evI, evT, R.b, R.i, Rl.b, Ri.b, R.keep, Ro.seq, endR, okb, okd, freeze_no, no_nil, no_fz, no_no, deq_int, md1, md2, md3, at0, at1, at2, isiD, D.items, b_len_l, b_len_t, b_tup_l, b_tup_t, b_lst_l, b_lst_t, b_int, b_abs, b_add, b_sub, c_lt, c_le, c_gt, c_ge, c_eqi, c_nei, c_is, c_isn, i_lst, i_tup, List.getElem?_cons_zero, List.getElem?_cons_succ, List.set_cons_zero, List.set_cons_succ, wipeE, tgD]
      simp
  have nd2 : (cs.map fun c => subC c m).Nodup := by
    refine List.Pairwise.map _ (fun a b hab z => hab ?_) nd
    obtain ⟨a1, a2⟩ := a
    obtain ⟨b1, b2⟩ := b
    unfold subC at z
    simp only [Prod.mk.injEq] at z ⊢
    omega
  have es := sort_cs nd2 (by rw [List.length_map]; exact hl)
  rw [r_at_corner]
  have hb : b_at_corner = [.asgT (.tp [1, 2]) (.tup [.blt .min [.comp [3, 4] (.tp [3, 4]) (.ov (.var 0)) [] (.var 3)], .blt .min [.comp [3, 4] (.tp [3, 4]) (.ov (.var 0)) [] (.var 4)]]),
    .ret (.blt .tuple [.blt .sorted [.comp [3, 4] (.tp [3, 4]) (.ov (.var 0)) [] (.tup [.bin .sub (.var 3) (.var 1), .bin .sub (.var 4) (.var 2)])]])] := rfl
  rw [hb, exL_cons]
  have s1 : exS tab (pg.run n) (.asgT (.tp [1, 2]) (.tup [.blt .min [.comp [3, 4] (.tp [3, 4]) (.ov (.var 0)) [] (.var 3)], .blt .min [.comp [3, 4] (.tp [3, 4]) (.ov (.var 0)) [] (.var 4)]])) [some (false, v), none, none, none, none] S =
      .nx [some (false, v), some (false, .int m.1), some (false, .int m.2), none, none] S := by
    have e1' := e1 [some (false, v), none, none, none, none] rfl rfl
    have e2' := e2 [some (false, v), none, none, none, none] rfl rfl
    rw [exS]
    have ef : freezeE [some (false, v), none, none, none, none] (esc (.tup [.blt .min [.comp [3, 4] (.tp [3, 4]) (.ov (.var 0)) [] (.var 3)], .blt .min [.comp [3, 4] (.tp [3, 4]) (.ov (.var 0)) [] (.var 4)]])) = [some (false, v), none, none, none, none] := rfl
    have f1 : evE tab (pg.run n) (.blt .min [.comp [3, 4] (.tp [3, 4]) (.ov (.var 0)) [] (.var 3)]) [some (false, v), none, none, none, none] S = .ok .fz (.int m.1) S := by
      rw [evE, evBs.eq_def]
      dsimp only
      rw [e1']
      exact b_min hx
    have f2 : evE tab (pg.run n) (.blt .min [.comp [3, 4] (.tp [3, 4]) (.ov (.var 0)) [] (.var 4)]) [some (false, v), none, none, none, none] S = .ok .fz (.int m.2) S := by
      rw [evE, evBs.eq_def]
      dsimp only
      rw [e2']
      exact b_min hy
    rw [ef, evE, evEs.eq_def]
    dsimp only
    rw [f1]
    dsimp only
    rw [evEs.eq_def]
    dsimp only
    rw [f2]
    rfl
  rw [s1]
  show endR (exL tab (pg.run n) [.ret (.blt .tuple [.blt .sorted [.comp [3, 4] (.tp [3, 4]) (.ov (.var 0)) [] (.tup [.bin .sub (.var 3) (.var 1), .bin .sub (.var 4) (.var 2)])]])] [some (false, v), some (false, .int m.1), some (false, .int m.2), none, none] S) = _
  rw [exL_cons, exS]
  · have ef : freezeE [some (false, v), some (false, .int m.1), some (false, .int m.2), none, none] (esc (.blt .tuple [.blt .sorted [.comp [3, 4] (.tp [3, 4]) (.ov (.var 0)) [] (.tup [.bin .sub (.var 3) (.var 1), .bin .sub (.var 4) (.var 2)])]])) = [some (false, v), some (false, .int m.1), some (false, .int m.2), none, none] := rfl
    have f3 : evE tab (pg.run n) (.blt .sorted [.comp [3, 4] (.tp [3, 4]) (.ov (.var 0)) [] (.tup [.bin .sub (.var 3) (.var 1), .bin .sub (.var 4) (.var 2)])]) [some (false, v), some (false, .int m.1), some (false, .int m.2), none, none] S = .ok .fr (.lst ((corner cs).map cD)) S := by
      rw [evE, evBs.eq_def]
      dsimp only
      rw [e3]
      exact b_sort es
    rw [ef, evE, evBs.eq_def]
    dsimp only
    rw [f3]
    rfl
  · intro i z
    cases z
theorem sum_of (n : Nat) (v w : Mp.D) (a b : List Ce) (S : Sr) (hv : holds v a) (hw : holds w b) (hl : (prd a b).length < 1199) : pg.run (n + 1) "sum_of" [v, w] S = .ok .fr (.lst ((srt (prd a b)).map cD)) S := by
  have hs := sset_cs hl
  have hz : (prd a b).length ≤ szMax := Nat.le_trans (Nat.le_of_lt hl) (by decide)
  rw [r_sum_of]
  have hb : b_sum_of = [.ret (.sset (.comp2 [2, 3, 4, 5] [4, 5] (.tp [2, 3]) (.ov (.var 0)) [] (.tp [4, 5]) (.ov (.var 1)) [] (.tup [.bin .add (.var 2) (.var 4), .bin .add (.var 3) (.var 5)])))] := rfl
  rw [hb, exL_cons, exS]
  rotate_left
  · intro i z
    cases z
  have ef : freezeE [some (false, v), some (false, w), none, none, none, none] (esc (.sset (.comp2 [2, 3, 4, 5] [4, 5] (.tp [2, 3]) (.ov (.var 0)) [] (.tp [4, 5]) (.ov (.var 1)) [] (.tup [.bin .add (.var 2) (.var 4), .bin .add (.var 3) (.var 5)])))) = [some (false, v), some (false, w), none, none, none, none] := rfl
  have e1 : evE tab (pg.run n) (.comp2 [2, 3, 4, 5] [4, 5] (.tp [2, 3]) (.ov (.var 0)) [] (.tp [4, 5]) (.ov (.var 1)) [] (.tup [.bin .add (.var 2) (.var 4), .bin .add (.var 3) (.var 5)])) [some (false, v), some (false, w), none, none, none, none] S = .ok .fr (.lst ((prd a b).map cD)) S := by
    have hi : ∀ (u : Mp.D) (cs : List Ce), holds u cs → u.items = some (cs.map cD) := fun u cs h => by
      rcases h with rfl | rfl <;> rfl
    have h1 := hi v a hv
    have h2 := hi w b hw
    have i1 : evI tab (pg.run n) (.ov (.var 0)) [some (false, v), some (false, w), none, none, none, none] S = .ok false (a.map cD) S := by
      simp [evI, evE, R.i, h1, md1]
    refine compE2 i1 ?_ (by rw [List.length_map]; exact hz)
    refine compL2_of (f := cD) (g := fun p => b.map (addC p)) (h := cD) fun p hp => ?_
    have i2 : evI tab (pg.run n) (.ov (.var 1)) [some (false, v), some (false, w), some (false, .int p.1), some (false, .int p.2), none, none] S = .ok false (b.map cD) S := by
      simp [evI, evE, R.i, h2, md1]
    have step : turn2 tab (pg.run n) [2, 3, 4, 5] [4, 5] (.tp [2, 3]) [] (.tp [4, 5]) (.ov (.var 1)) [] (.tup [.bin .add (.var 2) (.var 4), .bin .add (.var 3) (.var 5)]) [some (false, v), some (false, w), none, none, none, none] (cD p) S =
        match evI tab (pg.run n) (.ov (.var 1)) [some (false, v), some (false, w), some (false, .int p.1), some (false, .int p.2), none, none] S with
        | .ok false ds' S => compL (turnE tab (pg.run n) [4, 5] (.tp [4, 5]) [] (.tup [.bin .add (.var 2) (.var 4), .bin .add (.var 3) (.var 5)]) [some (false, v), some (false, w), some (false, .int p.1), some (false, .int p.2), none, none]) ds' S
        | _ => none := rfl
    rw [step, i2]
    dsimp only
    rw [compL_of (f := cD) (g := fun q => some (cD (addC p q))) fun q hq => rfl]
    simp
  rw [ef, evE, e1]
  simp only [R.b, D.items, hs]
  rfl
/-- the cells to which a part may be moved within a figure -/
def restOf (f : List Ce) (p0 : Ce) (pr : List Ce) : List Ce := (f.map fun c => subC c p0).filter fun m => (p0 :: pr).all fun q => decide (addC m q ∈ f)
theorem rows_cs (f : List Ce) : rowsD (f.map cD) = some (f.map row2) := by
  rw [cDs_row]
  exact rows_tup _
theorem rest_of (n : Nat) (w : Mp.D) (f : List Ce) (p0 : Ce) (pr : List Ce) (S : Sr) (hw : w = csD (p0 :: pr)) (hf : f.length < 1199) : pg.run (n + 1) "rest_of" [csD f, w] S = .ok .fr (.lst ((restOf f p0 pr).map cD)) S := by
  subst hw
  rw [r_rest_of]
  have hb : b_rest_of = [.asg 2 (.mset (.var 0)),
    .asgT (.tp [3, 4]) (.ix (.var 1) (.lit (.int 0))),
    .asg 5 (.comp [6, 7] (.tp [6, 7]) (.ov (.var 0)) [] (.tup [.bin .sub (.var 6) (.var 3), .bin .sub (.var 7) (.var 4)])),
    .ret (.comp [8] (.nm 8) (.ov (.var 5)) [.blt .all [.comp [9, 10] (.tp [9, 10]) (.ov (.var 1)) [] (.cmp .in_ (.tup [.bin .add (.ix (.var 8) (.lit (.int 0))) (.var 9), .bin .add (.ix (.var 8) (.lit (.int 1))) (.var 10)]) (.var 2))]] (.var 8))] := rfl
  rw [hb]
  let P : Mp.D := csD (p0 :: pr)
  let I : Mp.D := .ts (f.map row2)
  have s1 : exS tab (pg.run n) (.asg 2 (.mset (.var 0))) [some (false, csD f), some (false, P), none, none, none, none, none, none, none, none, none] S = .nx [some (false, csD f), some (false, P), some (false, I), none, none, none, none, none, none, none, none] S := by
    have hl : BigOk (f.map row2) := .inl (by rw [List.length_map]; exact hf)
    have e : evE tab (pg.run n) (.mset (.var 0)) [some (false, csD f), some (false, P), none, none, none, none, none, none, none, none, none] S = .ok .fz I S := by
      rw [evE, evE]
      show (match rowsD (f.map cD) with | some ls => if BigOk ls then R.ok .fz (.ts ls) S else .bad | none => .bad) = _
      rw [rows_cs]
      exact if_pos hl
    rw [exS]
    show (evE tab (pg.run n) (.mset (.var 0)) [some (false, csD f), some (false, P), none, none, none, none, none, none, none, none, none] S).keep _ _ = _
    rw [e]
    rfl
  have s2 : exS tab (pg.run n) (.asgT (.tp [3, 4]) (.ix (.var 1) (.lit (.int 0)))) [some (false, csD f), some (false, P), some (false, I), none, none, none, none, none, none, none, none] S = .nx [some (false, csD f), some (false, P), some (false, I), some (false, .int p0.1), some (false, .int p0.2), none, none, none, none, none, none] S := by
    have e : evE tab (pg.run n) (.ix (.var 1) (.lit (.int 0))) [some (false, csD f), some (false, P), some (false, I), none, none, none, none, none, none, none, none] S = .ok .fz (cD p0) S := by
      rw [evE, evE]
      show okd (L2.atI (cD p0 :: pr.map cD) 0) S = _
      rw [at0]
      rfl
    rw [exS]
    show (evE tab (pg.run n) (.ix (.var 1) (.lit (.int 0))) [some (false, csD f), some (false, P), some (false, I), none, none, none, none, none, none, none, none] S).keep _ _ = _
    rw [e]
    rfl
  let M : List Ce := f.map fun c => subC c p0
  have s3 : exS tab (pg.run n) (.asg 5 (.comp [6, 7] (.tp [6, 7]) (.ov (.var 0)) [] (.tup [.bin .sub (.var 6) (.var 3), .bin .sub (.var 7) (.var 4)]))) [some (false, csD f), some (false, P), some (false, I), some (false, .int p0.1), some (false, .int p0.2), none, none, none, none, none, none] S =
      .nx [some (false, csD f), some (false, P), some (false, I), some (false, .int p0.1), some (false, .int p0.2), some (true, .lst (M.map cD)), none, none, none, none, none] S := by
    have e : evE tab (pg.run n) (.comp [6, 7] (.tp [6, 7]) (.ov (.var 0)) [] (.tup [.bin .sub (.var 6) (.var 3), .bin .sub (.var 7) (.var 4)])) [some (false, csD f), some (false, P), some (false, I), some (false, .int p0.1), some (false, .int p0.2), none, none, none, none, none, none] S = .ok .fr (.lst (M.map cD)) S := by
      refine compE (br := false) (ds := f.map cD) (S1 := S) rfl ?_
      rw [compL_of (f := cD) (g := fun c => some (cD (subC c p0))) fun q hq => rfl]
      show some (f.filterMap (fun c => some (cD (subC c p0))), S) = some ((f.map fun c => subC c p0).map cD, S)
      rw [List.map_map, List.filterMap_eq_map']
      rfl
    rw [exS]
    show (evE tab (pg.run n) (.comp [6, 7] (.tp [6, 7]) (.ov (.var 0)) [] (.tup [.bin .sub (.var 6) (.var 3), .bin .sub (.var 7) (.var 4)])) [some (false, csD f), some (false, P), some (false, I), some (false, .int p0.1), some (false, .int p0.2), none, none, none, none, none, none] S).keep _ _ = _
    rw [e]
    rfl
  refine congrArg endR (seq_step s1 (seq_step s2 (seq_step s3 ?_)) : _ = Ro.rt .fr (.lst ((restOf f p0 pr).map cD)) S)
  rw [exL_cons, exS]
  rotate_left
  · intro i z
    cases z
  have e4 : evE tab (pg.run n) (.comp [8] (.nm 8) (.ov (.var 5)) [.blt .all [.comp [9, 10] (.tp [9, 10]) (.ov (.var 1)) [] (.cmp .in_ (.tup [.bin .add (.ix (.var 8) (.lit (.int 0))) (.var 9), .bin .add (.ix (.var 8) (.lit (.int 1))) (.var 10)]) (.var 2))]] (.var 8))
      [some (false, csD f), some (false, P), some (false, I), some (false, .int p0.1), some (false, .int p0.2), some (true, .lst (M.map cD)), none, none, none, none, none] S = .ok .fr (.lst ((restOf f p0 pr).map cD)) S := by
    refine compE (br := true) (ds := M.map cD) (S1 := S) rfl ?_
    let q : Ce → Bool := fun m => (p0 :: pr).all fun q => decide (addC m q ∈ f)
    rw [compL_of (f := cD) (g := fun m => if q m = true then some (cD m) else none) fun m hm => ?_]
    · rw [filterMap_if]
      rfl
    · have i1 : evE tab (pg.run n) (.comp [9, 10] (.tp [9, 10]) (.ov (.var 1)) [] (.cmp .in_ (.tup [.bin .add (.ix (.var 8) (.lit (.int 0))) (.var 9), .bin .add (.ix (.var 8) (.lit (.int 1))) (.var 10)]) (.var 2)))
          [some (false, csD f), some (false, P), some (false, I), some (false, .int p0.1), some (false, .int p0.2), some (true, .lst (M.map cD)), none, none, some (false, cD m), none, none] S = .ok .fr (.lst ((p0 :: pr).map fun q => .bl (decide (addC m q ∈ f)))) S := by
        refine compE (br := false) (ds := (p0 :: pr).map cD) (S1 := S) rfl ?_
        rw [compL_of (f := cD) (g := fun q => some (.bl (decide (addC m q ∈ f)))) fun q hq => ?_]
        · rw [List.filterMap_eq_map']
        · have a0 : L2.atI [Mp.D.int m.1, .int m.2] 0 = some (.int m.1) := at0
          have a1 : L2.atI [Mp.D.int m.1, .int m.2] 1 = some (.int m.2) := at1
          have c1 : cmpD .in_ (.tup [.int (m.1 + q.1), .int (m.2 + q.2)]) I = some (decide (addC m q ∈ f)) := by
            show some (decide ([m.1 + q.1, m.2 + q.2] ∈ f.map row2)) = _
            congr 1
            refine decide_eq_decide.mpr ?_
            rw [List.mem_map]
            constructor
            · rintro ⟨c, hc, e⟩
              have e' : c = addC m q := row2_inj.mp e
              rw [← e']
              exact hc
            · intro h
              exact ⟨_, h, rfl⟩
          unfold turnE
          simp [exL, exS, evE, evEs, evB, evBs, evO, evI, evT, R.b, R.i, Rl.b, Ri.b, R.keep, Ro.seq, endR, okb, okd, freeze_no, no_nil, no_fz, no_no, deq_int, md1, md2, md3, at0, at1, at2, isiD, D.items, b_len_l, b_len_t, b_tup_l, b_tup_t, b_lst_l, b_lst_t, b_int, b_abs, b_add, b_sub, c_lt, c_le, c_gt, c_ge, c_eqi, c_nei, c_is, c_isn, i_lst, i_tup, List.getElem?_cons_zero, List.getElem?_cons_succ, List.set_cons_zero, List.set_cons_succ, wipeE, tgD, cD, a0, a1, c1]
      unfold turnE
      show (match evT tab (pg.run n) [.blt .all [.comp [9, 10] (.tp [9, 10]) (.ov (.var 1)) [] (.cmp .in_ (.tup [.bin .add (.ix (.var 8) (.lit (.int 0))) (.var 9), .bin .add (.ix (.var 8) (.lit (.int 1))) (.var 10)]) (.var 2))]]
          [some (false, csD f), some (false, P), some (false, I), some (false, .int p0.1), some (false, .int p0.2), some (true, .lst (M.map cD)), none, none, some (false, cD m), none, none] S with
        | .ok true S => match evE tab (pg.run n) (.var 8) [some (false, csD f), some (false, P), some (false, I), some (false, .int p0.1), some (false, .int p0.2), some (true, .lst (M.map cD)), none, none, some (false, cD m), none, none] S with
          | .ok mm x S => if mm = Md.br then none else some (some x, S)
          | _ => none
        | .ok false S => some (none, S)
        | .bad => none) = _
      have t1 : evE tab (pg.run n) (.blt .all [.comp [9, 10] (.tp [9, 10]) (.ov (.var 1)) [] (.cmp .in_ (.tup [.bin .add (.ix (.var 8) (.lit (.int 0))) (.var 9), .bin .add (.ix (.var 8) (.lit (.int 1))) (.var 10)]) (.var 2))])
          [some (false, csD f), some (false, P), some (false, I), some (false, .int p0.1), some (false, .int p0.2), some (true, .lst (M.map cD)), none, none, some (false, cD m), none, none] S = .ok .fz (.bl (q m)) S := by
        rw [evE, evBs.eq_def]
        dsimp only
        rw [i1]
        exact b_all (fun q => decide (addC m q ∈ f)) (p0 :: pr)
      rw [evT, t1]
      cases hq : q m with
      | true => rfl
      | false => rfl
  show ((evE tab (pg.run n) (.comp [8] (.nm 8) (.ov (.var 5)) [.blt .all [.comp [9, 10] (.tp [9, 10]) (.ov (.var 1)) [] (.cmp .in_ (.tup [.bin .add (.ix (.var 8) (.lit (.int 0))) (.var 9), .bin .add (.ix (.var 8) (.lit (.int 1))) (.var 10)]) (.var 2))]] (.var 8))
      [some (false, csD f), some (false, P), some (false, I), some (false, .int p0.1), some (false, .int p0.2), some (true, .lst (M.map cD)), none, none, none, none, none] S).keep _ _).seq _ = _
  rw [e4]
  rfl
end K28
set_option Elab.async false
set_option maxRecDepth 100000
set_option maxHeartbeats 4000000
/-! P28m: figures that are moved, sums, corners. -/
namespace K28
open Mp
theorem add_sub (a b : Ce) : addC (subC a b) b = a := by
  unfold addC subC
  ext <;> dsimp only <;> omega
theorem sub_add (a b : Ce) : subC (addC a b) b = a := by
  unfold addC subC
  ext <;> dsimp only <;> omega
theorem add_com (a b : Ce) : addC a b = addC b a := by
  unfold addC
  ext <;> dsimp only <;> omega
theorem add_ass (a b c : Ce) : addC (addC a b) c = addC a (addC b c) := by
  unfold addC
  ext <;> dsimp only <;> omega
theorem add_can {a b c : Ce} (h : addC a c = addC b c) : a = b := by
  rw [← sub_add a c, h, sub_add]
theorem add_zero (a : Ce) : addC a (0, 0) = a := by
  unfold addC
  ext <;> dsimp only <;> omega
/-- b is a, moved -/
def Mv (a b : List Ce) : Prop := ∃ t, ∀ c, c ∈ b ↔ ∃ d ∈ a, addC d t = c
theorem Mv.of {a b : List Ce} (h : ∀ c, c ∈ b ↔ c ∈ a) : Mv a b := ⟨(0, 0), fun c => ⟨fun z => ⟨c, (h c).mp z, add_zero c⟩, fun ⟨d, hd, e⟩ => by
  rw [add_zero] at e
  exact (h c).mpr (e ▸ hd)⟩⟩
theorem Mv.refl (a : List Ce) : Mv a a := .of fun _ => Iff.rfl
theorem Mv.symm {a b : List Ce} : Mv a b → Mv b a := fun ⟨t, h⟩ => ⟨(-t.1, -t.2), fun c => by
  have inv : ∀ d : Ce, addC (addC d t) (-t.1, -t.2) = d := fun d => by
    unfold addC
    ext <;> dsimp only <;> omega
  constructor
  · intro hc
    exact ⟨addC c t, (h _).mpr ⟨c, hc, rfl⟩, inv c⟩
  · rintro ⟨d, hd, rfl⟩
    obtain ⟨e, he, rfl⟩ := (h d).mp hd
    rw [inv]
    exact he⟩
theorem Mv.trans {a b c : List Ce} : Mv a b → Mv b c → Mv a c := fun ⟨t, h⟩ ⟨u, k⟩ => ⟨addC t u, fun x => by
  rw [k]
  constructor
  · rintro ⟨d, hd, rfl⟩
    obtain ⟨e, he, rfl⟩ := (h d).mp hd
    exact ⟨e, he, (add_ass e t u).symm⟩
  · rintro ⟨d, hd, rfl⟩
    exact ⟨addC d t, (h _).mpr ⟨d, hd, rfl⟩, add_ass d t u⟩⟩
theorem Mv.sum {a a' b b' : List Ce} : Mv a a' → Mv b b' → Mv (prd a b) (prd a' b') := fun ⟨t, h⟩ ⟨u, k⟩ => ⟨addC t u, fun x => by
  have mix : ∀ p q : Ce, addC (addC p t) (addC q u) = addC (addC p q) (addC t u) := fun p q => by
    unfold addC
    ext <;> dsimp only <;> omega
  rw [mem_prd]
  constructor
  · rintro ⟨p, hp, q, hq, rfl⟩
    obtain ⟨p1, hp1, rfl⟩ := (h _).mp hp
    obtain ⟨q1, hq1, rfl⟩ := (k _).mp hq
    exact ⟨addC p1 q1, mem_prd.mpr ⟨p1, hp1, q1, hq1, rfl⟩, (mix p1 q1).symm⟩
  · rintro ⟨d, hd, rfl⟩
    obtain ⟨p, hp, q, hq, rfl⟩ := mem_prd.mp hd
    exact ⟨addC p t, (h _).mpr ⟨p, hp, rfl⟩, addC q u, (k _).mpr ⟨q, hq, rfl⟩, mix p q⟩⟩
theorem Mv.srt_r {a b : List Ce} (h : Mv a b) : Mv a (srt b) := h.trans (.of fun _ => mem_srt)
theorem prd_com {a b : List Ce} {c : Ce} : c ∈ prd a b ↔ c ∈ prd b a := by
  rw [mem_prd, mem_prd]
  constructor <;> rintro ⟨p, hp, q, hq, rfl⟩ <;> exact ⟨q, hq, p, hp, add_com _ _⟩
theorem prd_ass {a b d : List Ce} {c : Ce} : c ∈ prd (prd a b) d ↔ c ∈ prd a (prd b d) := by
  simp only [mem_prd]
  constructor
  · rintro ⟨_, ⟨p, hp, q, hq, rfl⟩, r, hr, rfl⟩
    exact ⟨p, hp, addC q r, ⟨q, hq, r, hr, rfl⟩, (add_ass p q r).symm⟩
  · rintro ⟨p, hp, _, ⟨q, hq, r, hr, rfl⟩, rfl⟩
    exact ⟨addC p q, ⟨p, hp, q, hq, rfl⟩, r, hr, add_ass p q r⟩
theorem prd_same {a a' b b' : List Ce} (h : ∀ c, c ∈ a ↔ c ∈ a') (k : ∀ c, c ∈ b ↔ c ∈ b') {c : Ce} : c ∈ prd a b ↔ c ∈ prd a' b' := by
  simp only [mem_prd, h, k]
theorem prd_ne {a b : List Ce} (ha : a ≠ []) (hb : b ≠ []) : prd a b ≠ [] := by
  obtain ⟨p, hp⟩ := List.exists_mem_of_ne_nil a ha
  obtain ⟨q, hq⟩ := List.exists_mem_of_ne_nil b hb
  exact fun z => by
    have := mem_prd.mpr ⟨p, hp, q, hq, rfl⟩
    rw [z] at this
    cases this
theorem srt_ne {a : List Ce} (ha : a ≠ []) : srt a ≠ [] := by
  obtain ⟨p, hp⟩ := List.exists_mem_of_ne_nil a ha
  exact fun z => by
    have := mem_srt.mpr hp
    rw [z] at this
    cases this
theorem Mv.ne {a b : List Ce} (h : Mv a b) (ha : a ≠ []) : b ≠ [] := by
  obtain ⟨t, h⟩ := h
  obtain ⟨p, hp⟩ := List.exists_mem_of_ne_nil a ha
  exact fun z => by
    have := (h (addC p t)).mpr ⟨p, hp, rfl⟩
    rw [z] at this
    cases this
/-! ### corners -/
def mn (a : List Ce) : Ce := (mnL (a.map (·.1)), mnL (a.map (·.2)))
theorem mem_corner {a : List Ce} {c : Ce} : c ∈ corner a ↔ addC c (mn a) ∈ a := by
  unfold corner
  rw [mem_srt, List.mem_map]
  constructor
  · rintro ⟨d, hd, rfl⟩
    rw [show addC (subC d (mnL (a.map (·.1)), mnL (a.map (·.2)))) (mn a) = d from add_sub d (mn a)]
    exact hd
  · intro h
    exact ⟨_, h, sub_add c (mn a)⟩
theorem corner_mv (a : List Ce) : Mv (corner a) a := ⟨mn a, fun c => by
  constructor
  · intro h
    exact ⟨subC c (mn a), mem_corner.mpr (by rw [add_sub]; exact h), add_sub c (mn a)⟩
  · rintro ⟨d, hd, rfl⟩
    exact mem_corner.mp hd⟩
theorem mnL_is {l : List Int} {m : Int} (h : m ∈ l) (k : ∀ x ∈ l, m ≤ x) : mnL l = m :=
  Int.le_antisymm (mnL_le h) (k _ (mnL_mem (List.ne_nil_of_mem h)))
theorem mn_mv {a b : List Ce} {t : Ce} (ha : a ≠ []) (h : ∀ c, c ∈ b ↔ ∃ d ∈ a, addC d t = c) : mn b = addC (mn a) t := by
  have hx : (a.map (·.1)) ≠ [] := fun z => ha (List.map_eq_nil_iff.mp z)
  have hy : (a.map (·.2)) ≠ [] := fun z => ha (List.map_eq_nil_iff.mp z)
  unfold mn addC
  ext
  · refine mnL_is ?_ fun x hx2 => ?_
    · obtain ⟨p, hp, e⟩ := List.mem_map.mp (mnL_mem hx)
      exact List.mem_map.mpr ⟨addC p t, (h _).mpr ⟨p, hp, rfl⟩, by rw [← e]; rfl⟩
    · obtain ⟨c, hc, rfl⟩ := List.mem_map.mp hx2
      obtain ⟨d, hd, rfl⟩ := (h c).mp hc
      have := mnL_le (List.mem_map.mpr ⟨d, hd, rfl⟩ : d.1 ∈ a.map (·.1))
      show _ + t.1 ≤ d.1 + t.1
      omega
  · refine mnL_is ?_ fun x hx2 => ?_
    · obtain ⟨p, hp, e⟩ := List.mem_map.mp (mnL_mem hy)
      exact List.mem_map.mpr ⟨addC p t, (h _).mpr ⟨p, hp, rfl⟩, by rw [← e]; rfl⟩
    · obtain ⟨c, hc, rfl⟩ := List.mem_map.mp hx2
      obtain ⟨d, hd, rfl⟩ := (h c).mp hc
      have := mnL_le (List.mem_map.mpr ⟨d, hd, rfl⟩ : d.2 ∈ a.map (·.2))
      show _ + t.2 ≤ d.2 + t.2
      omega
/-- two lists of the same cells in order are the same -/
theorem asc_ext {a b : List Ce} (ha : a.Pairwise ltC) (hb : b.Pairwise ltC) (h : ∀ c, c ∈ a ↔ c ∈ b) : a = b := by
  rw [← srt_id ha, ← srt_id hb]
  exact srt_same h
/-- what is moved has the same corner -/
theorem corner_eq {a b : List Ce} (ha : a ≠ []) (h : Mv a b) : corner a = corner b := by
  obtain ⟨t, h⟩ := h
  have hm := mn_mv ha h
  refine asc_ext (srt_asc _) (srt_asc _) fun c => ?_
  rw [mem_corner, mem_corner, hm, h]
  constructor
  · intro z
    exact ⟨_, z, by rw [add_ass]⟩
  · rintro ⟨d, hd, e⟩
    rw [← add_ass] at e
    rw [← add_can e]
    exact hd
theorem corner_ne {a : List Ce} (ha : a ≠ []) : corner a ≠ [] := (corner_mv a).symm.ne ha
theorem corner_iff {a b : List Ce} (ha : a ≠ []) : corner a = corner b ↔ Mv a b :=
  ⟨fun h => (corner_mv a).symm.trans (h ▸ corner_mv b), corner_eq ha⟩
theorem corner_asc (a : List Ce) : (corner a).Pairwise ltC := srt_asc _
theorem corner_idem {a : List Ce} (ha : a ≠ []) : corner (corner a) = corner a := corner_eq (corner_ne ha) (corner_mv a)
/-! ### how many -/
theorem mv_len {a b : List Ce} (ha : a.Nodup) (hb : b.Nodup) (h : Mv a b) : a.length = b.length := by
  obtain ⟨t, h⟩ := h
  have e : b.Perm (a.map fun d => addC d t) := by
    refine (List.perm_ext_iff_of_nodup hb ?_).mpr fun c => by rw [h, List.mem_map]
    exact List.Pairwise.map _ (fun x y hxy z => hxy (add_can z)) ha
  rw [e.length_eq, List.length_map]
theorem sum_more {a s : List Ce} (ha : a ≠ []) (na : a.Nodup) {p q : Ce} (hp : p ∈ s) (hq : q ∈ s) (ne : p ≠ q) : a.length < (srt (prd a s)).length := by
  have key : ∀ p q : Ce, p ∈ s → q ∈ s → ltC p q → a.length < (srt (prd a s)).length := by
    intro p q hp hq lt
    have hs : srt a ≠ [] := srt_ne ha
    have top : ∀ l : List Ce, l ≠ [] → l.Pairwise ltC → ∃ m ∈ l, ∀ c ∈ l, c = m ∨ ltC c m := by
      intro l
      induction l with
      | nil => intro h; exact absurd rfl h
      | cons x r ih =>
        intro _ hl
        rw [List.pairwise_cons] at hl
        cases r with
        | nil => exact ⟨x, List.mem_cons_self, fun c hc => .inl (List.mem_singleton.mp hc)⟩
        | cons y r =>
          obtain ⟨m, hm, k⟩ := ih (by simp) hl.2
          refine ⟨m, List.mem_cons_of_mem _ hm, fun c hc => ?_⟩
          rcases List.mem_cons.mp hc with rfl | hc
          · exact .inr (hl.1 m hm)
          · exact k c hc
    obtain ⟨m, hm, big⟩ := top (srt a) hs (srt_asc a)
    have hm := mem_srt.mp hm
    have new : addC m q ∉ a.map fun c => addC c p := by
      intro z
      obtain ⟨c, hc, e⟩ := List.mem_map.mp z
      rcases big c (mem_srt.mpr hc) with rfl | h
      · unfold addC ltC at *
        simp only [Prod.mk.injEq] at e
        omega
      · unfold addC ltC at *
        simp only [Prod.mk.injEq] at e
        omega
    have nd : (addC m q :: a.map fun c => addC c p).Nodup := List.nodup_cons.mpr ⟨new, List.Pairwise.map _ (fun x y hxy z => hxy (add_can z)) na⟩
    have := List.Nodup.length_le_of_subset nd (l₂ := srt (prd a s)) fun c hc => by
      rw [mem_srt]
      rcases List.mem_cons.mp hc with rfl | hc
      · exact mem_prd.mpr ⟨m, hm, q, hq, rfl⟩
      · obtain ⟨d, hd, rfl⟩ := List.mem_map.mp hc
        exact mem_prd.mpr ⟨d, hd, p, hp, rfl⟩
    rw [List.length_cons, List.length_map] at this
    exact this
  rcases tri_C p q with h | h | h
  · exact key p q hp hq h
  · exact absurd h ne
  · exact key q p hq hp h
end K28
set_option Elab.async false
set_option maxRecDepth 100000
set_option maxHeartbeats 4000000
/-! P28n: sums of lists of numbers; lists in order; summands. -/
namespace K28
open Mp
/-! ### a number put into a list in order -/
def insN (k : Nat) : List Nat → List Nat
  | [] => [k]
  | x :: r => if k ≤ x then k :: x :: r else x :: insN k r
theorem insN_perm (k : Nat) : ∀ l, (insN k l).Perm (k :: l)
  | [] => .refl _
  | x :: r => by
    unfold insN
    split
    · exact .refl _
    · exact ((insN_perm k r).cons x).trans (.swap k x r)
theorem insN_len (k : Nat) (l : List Nat) : (insN k l).length = l.length + 1 := (insN_perm k l).length_eq
theorem insN_asc (k : Nat) : ∀ {l : List Nat}, l.Pairwise (· ≤ ·) → (insN k l).Pairwise (· ≤ ·)
  | [], _ => List.pairwise_singleton _ _
  | x :: r, h => by
    rw [List.pairwise_cons] at h
    unfold insN
    split
    · rename_i c
      refine List.pairwise_cons.mpr ⟨fun y hy => ?_, List.pairwise_cons.mpr h⟩
      rcases List.mem_cons.mp hy with rfl | hy
      · exact c
      · exact Nat.le_trans c (h.1 y hy)
    · rename_i c
      refine List.pairwise_cons.mpr ⟨fun y hy => ?_, insN_asc k h.2⟩
      rcases List.mem_cons.mp ((insN_perm k r).mem_iff.mp hy) with rfl | hy
      · omega
      · exact h.1 y hy
theorem insN_head {k : Nat} {l : List Nat} (h : (k :: l).Pairwise (· ≤ ·)) : insN k l = k :: l := by
  cases l with
  | nil => rfl
  | cons x r =>
    unfold insN
    rw [if_pos ((List.pairwise_cons.mp h).1 x List.mem_cons_self)]
theorem cons_lt {x y : Nat} {a b : List Nat} : x :: a < y :: b ↔ x < y ∨ x = y ∧ a < b := List.cons_lt_cons_iff
theorem insN_lt (k : Nat) : ∀ {a b : List Nat}, a.length = b.length → a < b → insN k a < insN k b
  | [], [], _, h => absurd h (List.lt_irrefl _)
  | x :: a, y :: b, hl, h => by
    have hl' : a.length = b.length := by simpa using hl
    unfold insN
    rcases cons_lt.mp h with c | ⟨rfl, c⟩
    · split <;> split
      · exact cons_lt.mpr (.inr ⟨rfl, cons_lt.mpr (.inl c)⟩)
      · omega
      · exact cons_lt.mpr (.inl (by omega))
      · exact cons_lt.mpr (.inl c)
    · split
      · exact cons_lt.mpr (.inr ⟨rfl, cons_lt.mpr (.inr ⟨rfl, c⟩)⟩)
      · exact cons_lt.mpr (.inr ⟨rfl, insN_lt k hl' c⟩)
theorem tri_N : ∀ a b : List Nat, a < b ∨ a = b ∨ b < a
  | [], [] => .inr (.inl rfl)
  | [], y :: b => .inl (List.nil_lt_cons _ _)
  | x :: a, [] => .inr (.inr (List.nil_lt_cons _ _))
  | x :: a, y :: b => by
    rcases Nat.lt_trichotomy x y with c | rfl | c
    · exact .inl (cons_lt.mpr (.inl c))
    · rcases tri_N a b with d | rfl | d
      · exact .inl (cons_lt.mpr (.inr ⟨rfl, d⟩))
      · exact .inr (.inl rfl)
      · exact .inr (.inr (cons_lt.mpr (.inr ⟨rfl, d⟩)))
    · exact .inr (.inr (cons_lt.mpr (.inl c)))
theorem insN_le (k : Nat) {a b : List Nat} (hl : a.length = b.length) (h : ¬ b < a) : ¬ insN k b < insN k a := by
  rcases tri_N a b with c | rfl | c
  · exact fun z => List.lt_irrefl _ (List.lt_trans z (insN_lt k hl c))
  · exact List.lt_irrefl _
  · exact absurd c h
/-! ### sums -/
section
variable (ss : List (List Ce))
def sh (k : Nat) : List Ce := ss.getD k []
def tot : List Nat → List Ce
  | [] => [(0, 0)]
  | k :: r => prd (tot r) (sh ss k)
def cs (l : List Nat) : List Ce := corner (tot ss l)
/-- the stock: shapes in order -/
def Stk : Prop := ∀ s ∈ ss, s ≠ [] ∧ s.Pairwise ltC
def Vd (l : List Nat) : Prop := ∀ k ∈ l, k < ss.length
/-- none of them a single cell -/
def Bg (l : List Nat) : Prop := ∀ k ∈ l, 2 ≤ (sh ss k).length
end
section
variable {ss : List (List Ce)}
theorem sh_mem {k : Nat} (h : k < ss.length) : sh ss k ∈ ss := by
  unfold sh
  rw [List.getD_eq_getElem?_getD, List.getElem?_eq_getElem h]
  exact List.getElem_mem h
theorem tot_ne (hs : Stk ss) : ∀ {l : List Nat}, Vd ss l → tot ss l ≠ []
  | [], _ => by simp [tot]
  | k :: r, h => prd_ne (tot_ne hs fun x hx => h x (List.mem_cons_of_mem _ hx)) (hs _ (sh_mem (h k List.mem_cons_self))).1
theorem tot_perm {l m : List Nat} (h : l.Perm m) : ∀ c, c ∈ tot ss l ↔ c ∈ tot ss m := by
  induction h with
  | nil => exact fun _ => Iff.rfl
  | cons k _ ih => exact fun c => prd_same ih fun _ => Iff.rfl
  | swap a b l =>
    intro c
    show c ∈ prd (prd (tot ss l) (sh ss a)) (sh ss b) ↔ c ∈ prd (prd (tot ss l) (sh ss b)) (sh ss a)
    rw [prd_ass, prd_ass]
    exact prd_same (fun _ => Iff.rfl) fun _ => prd_com
  | trans _ _ i1 i2 => exact fun c => (i1 c).trans (i2 c)
theorem cs_perm (hs : Stk ss) {l m : List Nat} (h : l.Perm m) (v : Vd ss l) : cs ss l = cs ss m := corner_eq (tot_ne hs v) (.of fun c => (tot_perm h c).symm)
theorem cs_ne (hs : Stk ss) {l : List Nat} (v : Vd ss l) : cs ss l ≠ [] := corner_ne (tot_ne hs v)
theorem cs_nil : cs ss [] = [(0, 0)] := by
  show corner [(0, 0)] = [(0, 0)]
  decide
/-- one more -/
theorem cs_step (hs : Stk ss) {k : Nat} {l : List Nat} (v : Vd ss l) (hk : k < ss.length) : corner (srt (prd (cs ss l) (sh ss k))) = cs ss (k :: l) := by
  have n1 := cs_ne hs v
  have n2 := (hs _ (sh_mem hk)).1
  exact corner_eq (srt_ne (prd_ne n1 n2)) ((Mv.of fun c => mem_srt.symm).trans ((corner_mv (tot ss l)).sum (Mv.refl _)))
theorem cs_ins (hs : Stk ss) {k : Nat} {l : List Nat} (v : Vd ss l) (hk : k < ss.length) : cs ss (insN k l) = cs ss (k :: l) :=
  cs_perm hs (insN_perm k l) fun x hx => (List.mem_cons.mp ((insN_perm k l).mem_iff.mp hx)).elim (fun e => e ▸ hk) (v x)
theorem two_of {s : List Ce} (h : 2 ≤ s.length) (p : s.Pairwise ltC) : ∃ a ∈ s, ∃ b ∈ s, a ≠ b := by
  rcases s with _ | ⟨a, _ | ⟨b, r⟩⟩
  · simp at h
  · simp at h
  · refine ⟨a, List.mem_cons_self, b, List.mem_cons_of_mem _ List.mem_cons_self, fun z => ?_⟩
    have := (List.pairwise_cons.mp p).1 b List.mem_cons_self
    rw [z] at this
    exact irr_C b this
theorem cs_more (hs : Stk ss) {k : Nat} {l : List Nat} (v : Vd ss l) (hk : k < ss.length) (hb : 2 ≤ (sh ss k).length) : (cs ss l).length < (cs ss (k :: l)).length := by
  rw [← cs_step hs v hk]
  obtain ⟨a, ha, b, hb2, ne⟩ := two_of hb (hs _ (sh_mem hk)).2
  have h1 := sum_more (cs_ne hs v) (asc_nodup (corner_asc _)) ha hb2 ne
  have h2 := mv_len (asc_nodup (corner_asc _)) (asc_nodup (srt_asc _)) (corner_mv (srt (prd (cs ss l) (sh ss k))))
  rw [h2]
  exact h1
/-- a single cell changes nothing -/
theorem cs_single (hs : Stk ss) {k : Nat} {l : List Nat} (v : Vd ss l) (hk : k < ss.length) (hb : ¬ 2 ≤ (sh ss k).length) : cs ss (k :: l) = cs ss l := by
  obtain ⟨c, e⟩ : ∃ c, sh ss k = [c] := by
    have h0 := (hs _ (sh_mem hk)).1
    rcases z : sh ss k with _ | ⟨a, _ | ⟨b, r⟩⟩
    · exact absurd z h0
    · exact ⟨a, rfl⟩
    · rw [z] at hb
      simp at hb
  refine (corner_eq (tot_ne hs v) ⟨c, fun x => ?_⟩).symm
  show x ∈ prd (tot ss l) (sh ss k) ↔ _
  rw [mem_prd, e]
  constructor
  · rintro ⟨p, hp, q, hq, rfl⟩
    rw [List.mem_singleton.mp hq]
    exact ⟨p, hp, rfl⟩
  · rintro ⟨p, hp, rfl⟩
    exact ⟨p, hp, c, List.mem_singleton.mpr rfl, rfl⟩
end
/-! ### summands -/
def OnW (w p : List Ce) : Prop := ∃ d, ∀ c, c ∈ w ↔ c ∈ prd p d
def isSum (w p : List Ce) : Bool :=
  match p with
  | [] => false
  | p0 :: pr => decide (restOf w p0 pr ≠ []) && decide (srt (prd (p0 :: pr) (restOf w p0 pr)) = w)
theorem mem_rest {w : List Ce} {p0 : Ce} {pr : List Ce} {m : Ce} : m ∈ restOf w p0 pr ↔ ∀ q ∈ p0 :: pr, addC m q ∈ w := by
  unfold restOf
  rw [List.mem_filter, List.all_eq_true]
  constructor
  · rintro ⟨_, h⟩ q hq
    exact of_decide_eq_true (h q hq)
  · intro h
    exact ⟨List.mem_map.mpr ⟨addC m p0, h p0 List.mem_cons_self, sub_add m p0⟩, fun q hq => decide_eq_true (h q hq)⟩
theorem isSum_iff {w p : List Ce} (hw : w.Pairwise ltC) (h0 : w ≠ []) (hp : p ≠ []) : isSum w p = true ↔ OnW w p := by
  cases p with
  | nil => exact absurd rfl hp
  | cons p0 pr =>
    unfold isSum
    dsimp only
    rw [Bool.and_eq_true, decide_eq_true_iff, decide_eq_true_iff]
    constructor
    · rintro ⟨_, h⟩
      refine ⟨restOf w p0 pr, fun c => ?_⟩
      rw [← mem_srt (cs := prd _ _), h]
    · rintro ⟨d, h⟩
      have sub : ∀ m ∈ d, m ∈ restOf w p0 pr := fun m hm => mem_rest.mpr fun q hq => by
        rw [h, add_com]
        exact mem_prd.mpr ⟨q, hq, m, hm, rfl⟩
      constructor
      · obtain ⟨c, hc⟩ := List.exists_mem_of_ne_nil w h0
        obtain ⟨_, _, m, hm, _⟩ := mem_prd.mp ((h c).mp hc)
        exact List.ne_nil_of_mem (sub m hm)
      · refine asc_ext (srt_asc _) hw fun c => ?_
        rw [mem_srt]
        constructor
        · intro hc
          obtain ⟨q, hq, m, hm, rfl⟩ := mem_prd.mp hc
          rw [add_com]
          exact mem_rest.mp hm q hq
        · intro hc
          obtain ⟨q, hq, m, hm, rfl⟩ := mem_prd.mp ((h c).mp hc)
          exact mem_prd.mpr ⟨q, hq, m, sub m hm, rfl⟩
theorem onW_self (w : List Ce) : OnW w w := ⟨[(0, 0)], fun c => by
  rw [mem_prd]
  constructor
  · intro h
    exact ⟨c, h, (0, 0), List.mem_singleton.mpr rfl, add_zero c⟩
  · rintro ⟨p, hp, q, hq, rfl⟩
    rw [List.mem_singleton.mp hq, add_zero]
    exact hp⟩
theorem onW_tail {ss : List (List Ce)} (hs : Stk ss) {w : List Ce} {k : Nat} {l : List Nat} (v : Vd ss l) (hk : k < ss.length) (h : OnW w (cs ss (k :: l))) : OnW w (cs ss l) := by
  obtain ⟨d, h⟩ := h
  have mv : Mv (prd (cs ss l) (sh ss k)) (cs ss (k :: l)) := ((corner_mv (tot ss l)).sum (Mv.refl _)).trans (corner_mv (tot ss (k :: l))).symm
  obtain ⟨t, mv⟩ := mv
  refine ⟨prd (sh ss k) (d.map fun x => addC x t), fun c => ?_⟩
  rw [h, mem_prd, mem_prd]
  have ar : ∀ p q x : Ce, addC (addC (addC p q) t) x = addC p (addC q (addC x t)) := fun p q x => by
    unfold addC
    ext <;> dsimp only <;> omega
  constructor
  · rintro ⟨y, hy, x, hx, rfl⟩
    obtain ⟨z, hz, rfl⟩ := (mv y).mp hy
    obtain ⟨p, hp, q, hq, rfl⟩ := mem_prd.mp hz
    exact ⟨p, hp, addC q (addC x t), mem_prd.mpr ⟨q, hq, addC x t, List.mem_map.mpr ⟨x, hx, rfl⟩, rfl⟩, (ar p q x).symm⟩
  · rintro ⟨p, hp, z, hz, rfl⟩
    obtain ⟨q, hq, y, hy, rfl⟩ := mem_prd.mp hz
    obtain ⟨x, hx, rfl⟩ := List.mem_map.mp hy
    exact ⟨addC (addC p q) t, (mv _).mpr ⟨addC p q, mem_prd.mpr ⟨p, hp, q, hq, rfl⟩, rfl⟩, x, hx, ar p q x⟩
theorem onW_le {w p : List Ce} (hw : w.Pairwise ltC) (hp : p.Pairwise ltC) (h0 : w ≠ []) (h : OnW w p) : p.length ≤ w.length := by
  obtain ⟨d, h⟩ := h
  obtain ⟨c, hc⟩ := List.exists_mem_of_ne_nil w h0
  obtain ⟨_, _, m, hm, _⟩ := mem_prd.mp ((h c).mp hc)
  have nd : (p.map fun q => addC q m).Nodup := List.Pairwise.map _ (fun x y hxy z => hxy (add_can z)) (asc_nodup hp)
  have := List.Nodup.length_le_of_subset nd (l₂ := w) fun x hx => by
    obtain ⟨q, hq, rfl⟩ := List.mem_map.mp hx
    exact (h _).mpr (mem_prd.mpr ⟨q, hq, m, hm, rfl⟩)
  rw [List.length_map] at this
  exact this
end K28
set_option Elab.async false
set_option maxRecDepth 100000
set_option maxHeartbeats 4000000
/-! P28o: the search, round by round. -/
namespace K28
open Mp
abbrev En := List Ce × List Nat
def look : List En → List Ce → Option (List Nat)
  | [], _ => none
  | p :: r, C => if p.1 = C then some p.2 else look r C
def putA (L : List En) (C : List Ce) (m : List Nat) : List En :=
  if (look L C).isSome then L.map fun p => if p.1 = C then (p.1, m) else p else L ++ [(C, m)]
theorem look_app {C : List Ce} {m : List Nat} {D : List Ce} : ∀ {L : List En}, look L C = none → look (L ++ [(C, m)]) D = if D = C then some m else look L D
  | [], _ => by
    show (if C = D then some m else none) = _
    by_cases h : D = C
    · rw [if_pos h.symm, if_pos h]
    · rw [if_neg (Ne.symm h), if_neg h]
      rfl
  | p :: r, hn => by
    rw [look] at hn
    split at hn
    · cases hn
    · rename_i hp
      show (if p.1 = D then some p.2 else look (r ++ [(C, m)]) D) = if D = C then some m else if p.1 = D then some p.2 else look r D
      rw [look_app hn]
      by_cases h : D = C
      · rw [if_neg (fun z => hp (z.trans h)), if_pos h, if_pos h]
      · rw [if_neg h, if_neg h]
theorem look_map {C : List Ce} {m : List Nat} {D : List Ce} : ∀ {L : List En}, look (L.map fun p => if p.1 = C then (p.1, m) else p) D = if D = C then (look L C).map (fun _ => m) else look L D
  | [] => by
    show (none : Option (List Nat)) = _
    split <;> rfl
  | p :: r => by
    rw [List.map_cons, look, look_map, look, look]
    by_cases hp : p.1 = C
    · rw [if_pos hp]
      dsimp only
      by_cases h : D = C
      · rw [if_pos (hp.trans h.symm), if_pos h, if_pos hp]
        rfl
      · rw [if_neg (fun z => h (z.symm.trans hp)), if_neg h, if_neg h, if_neg (fun z => h (z.symm.trans hp))]
    · rw [if_neg hp]
      by_cases h : D = C
      · rw [if_neg (fun z => hp (z.trans h)), if_pos h, if_pos h, if_neg hp]
      · rw [if_neg h, if_neg h]
theorem look_put {L : List En} {C : List Ce} {m : List Nat} {D : List Ce} : look (putA L C m) D = if D = C then some m else look L D := by
  unfold putA
  split
  · rename_i h
    rw [look_map]
    split
    · obtain ⟨x, hx⟩ := Option.isSome_iff_exists.mp h
      rw [hx]
      rfl
    · rfl
  · rename_i h
    exact look_app (by simpa using h)
theorem look_mem {C : List Ce} {m : List Nat} : ∀ {L : List En}, look L C = some m → (C, m) ∈ L
  | [], h => by cases h
  | p :: r, h => by
    rw [look] at h
    split at h
    · rename_i e
      cases h
      rw [← e]
      exact List.mem_cons_self
    · exact List.mem_cons_of_mem _ (look_mem h)
/-- each key once -/
def KN (L : List En) : Prop := ∀ p ∈ L, look L p.1 = some p.2
theorem KN.put {L : List En} (h : KN L) (C : List Ce) (m : List Nat) : KN (putA L C m) := by
  intro p hp
  rw [look_put]
  unfold putA at hp
  split at hp
  · obtain ⟨q, hq, rfl⟩ := List.mem_map.mp hp
    by_cases e : q.1 = C
    · rw [if_pos e, if_pos e]
    · rw [if_neg e, if_neg e]
      exact h q hq
  · rename_i hn
    rcases List.mem_append.mp hp with z | z
    · by_cases e : p.1 = C
      · have := h p z
        rw [e] at this
        rw [this] at hn
        exact absurd rfl hn
      · rw [if_neg e]
        exact h p z
    · rw [List.mem_singleton.mp z, if_pos rfl]
def add1 (L : List En) (c : En) : List En :=
  match look L c.1 with
  | some x => if c.2 < x then putA L c.1 c.2 else L
  | none => putA L c.1 c.2
def Least (L : List En) (done : List En) : Prop := ∀ C, (∀ m, look L C = some m → (C, m) ∈ done ∧ ∀ m', (C, m') ∈ done → ¬ m' < m) ∧ (look L C = none → ∀ m', (C, m') ∉ done)
theorem Least.add {L done : List En} (h : Least L done) (k : KN L) (c : En) : Least (add1 L c) (done ++ [c]) ∧ KN (add1 L c) := by
  obtain ⟨C, m⟩ := c
  have mem : ∀ D m', (D, m') ∈ done ++ [(C, m)] → (D, m') ∈ done ∨ D = C ∧ m' = m := fun D m' z => by
    rcases List.mem_append.mp z with y | y
    · exact .inl y
    · have := List.mem_singleton.mp y
      injection this with a b
      exact .inr ⟨a, b⟩
  have old : ∀ D m', (D, m') ∈ done → (D, m') ∈ done ++ [(C, m)] := fun D m' z => List.mem_append_left _ z
  have new : (C, m) ∈ done ++ [(C, m)] := List.mem_append_right _ (List.mem_singleton.mpr rfl)
  have putc : (∀ m', (C, m') ∈ done → ¬ m' < m) → Least (putA L C m) (done ++ [(C, m)]) := fun q D => by
    refine ⟨fun x hx => ?_, fun hx x z => ?_⟩
    · rw [look_put] at hx
      split at hx
      · rename_i e
        cases hx
        subst e
        refine ⟨new, fun m' z => ?_⟩
        rcases mem _ _ z with y | ⟨_, rfl⟩
        · exact q m' y
        · exact List.lt_irrefl _
      · rename_i e
        obtain ⟨h1, h2⟩ := (h D).1 x hx
        exact ⟨old _ _ h1, fun m' z => (mem _ _ z).elim (h2 m') fun y => absurd y.1 e⟩
    · rw [look_put] at hx
      split at hx
      · cases hx
      · rename_i e
        rcases mem _ _ z with y | y
        · exact (h D).2 hx x y
        · exact e y.1
  unfold add1
  dsimp only
  cases hl : look L C with
  | none =>
    dsimp only
    exact ⟨putc fun m' z => absurd z ((h C).2 hl m'), k.put C m⟩
  | some x =>
    dsimp only
    obtain ⟨h1, h2⟩ := (h C).1 x hl
    split
    · rename_i lt
      exact ⟨putc fun m' z y => h2 m' z (List.lt_trans y lt), k.put C m⟩
    · rename_i nlt
      refine ⟨fun D => ⟨fun y hy => ?_, fun hy y z => ?_⟩, k⟩
      · obtain ⟨q1, q2⟩ := (h D).1 y hy
        refine ⟨old _ _ q1, fun m' z => ?_⟩
        rcases mem _ _ z with u | ⟨rfl, rfl⟩
        · exact q2 m' u
        · rw [hl] at hy
          cases hy
          exact nlt
      · rcases mem _ _ z with u | ⟨rfl, rfl⟩
        · exact (h D).2 hy y u
        · rw [hl] at hy
          cases hy
theorem Least.fold : ∀ (rest done L : List En), Least L done → KN L → Least (rest.foldl add1 L) (done ++ rest) ∧ KN (rest.foldl add1 L)
  | [], done, L, h, k => by
    rw [List.append_nil]
    exact ⟨h, k⟩
  | c :: rest, done, L, h, k => by
    obtain ⟨h1, k1⟩ := h.add k c
    have := Least.fold rest (done ++ [c]) (add1 L c) h1 k1
    rw [List.append_assoc] at this
    exact this
section
variable (w : List Ce) (ss : List (List Ce))
/-- what a pair and a shape give -/
def cand1 (p : En) (k : Nat) : Option En :=
  if corner (srt (prd p.1 (sh ss k))) ≠ p.1 ∧ isSum w (corner (srt (prd p.1 (sh ss k)))) = true then some (corner (srt (prd p.1 (sh ss k))), insN k p.2) else none
def cands (found : List En) : List En := found.flatMap fun p => (List.range ss.length).filterMap (cand1 w ss p)
def rnd (found : List En) : List En := (cands w ss found).foldl add1 []
def srch : Nat → List En → Option (Option (List Nat))
  | 0, _ => none
  | f + 1, L => if L = [] then some none else match look L w with
    | some l => some (some l)
    | none => srch f (rnd w ss L)
/-- a list of n numbers of shapes that are no single cells -/
structure Ent (n : Nat) (l : List Nat) : Prop where
  len : l.length = n
  asc : l.Pairwise (· ≤ ·)
  vd : Vd ss l
  bg : Bg ss l
structure Lv (n : Nat) (L : List En) : Prop where
  kn : KN L
  best : ∀ C m, look L C = some m → Ent ss n m ∧ cs ss m = C ∧ OnW w C ∧ ∀ m', Ent ss n m' → cs ss m' = C → ¬ m' < m
  all : ∀ m, Ent ss n m → OnW w (cs ss m) → (look L (cs ss m)).isSome = true
end
section
variable {w : List Ce} {ss : List (List Ce)}
theorem rnd_least (L : List En) : Least (rnd w ss L) (cands w ss L) ∧ KN (rnd w ss L) := by
  have := Least.fold (cands w ss L) [] [] (fun C => ⟨fun m h => (nomatch h), fun _ m2 h => (nomatch h)⟩) (fun p h => (nomatch h))
  exact this
theorem mem_cands {L : List En} {C : List Ce} {m : List Nat} : (C, m) ∈ cands w ss L ↔ ∃ p ∈ L, ∃ k, k < ss.length ∧ corner (srt (prd p.1 (sh ss k))) = C ∧ C ≠ p.1 ∧ isSum w C = true ∧ m = insN k p.2 := by
  unfold cands
  rw [List.mem_flatMap]
  constructor
  · rintro ⟨p, hp, h⟩
    obtain ⟨k, hk, e⟩ := List.mem_filterMap.mp h
    unfold cand1 at e
    split at e
    · rename_i c
      cases e
      exact ⟨p, hp, k, List.mem_range.mp hk, rfl, c.1, c.2, rfl⟩
    · cases e
  · rintro ⟨p, hp, k, hk, rfl, h1, h2, rfl⟩
    refine ⟨p, hp, List.mem_filterMap.mpr ⟨k, List.mem_range.mpr hk, ?_⟩⟩
    unfold cand1
    rw [if_pos ⟨h1, h2⟩]
theorem Ent.tail {n k : Nat} {l : List Nat} (e : Ent ss (n + 1) (k :: l)) : Ent ss n l ∧ k < ss.length ∧ 2 ≤ (sh ss k).length :=
  ⟨⟨by have := e.len; simpa using this, (List.pairwise_cons.mp e.asc).2, fun x hx => e.vd x (List.mem_cons_of_mem _ hx), fun x hx => e.bg x (List.mem_cons_of_mem _ hx)⟩, e.vd k List.mem_cons_self, e.bg k List.mem_cons_self⟩
theorem Lv.step (hs : Stk ss) (hw : w.Pairwise ltC) (h0 : w ≠ []) {n : Nat} {L : List En} (v : Lv w ss n L) : Lv w ss (n + 1) (rnd w ss L) := by
  obtain ⟨ls, kn⟩ := rnd_least (w := w) (ss := ss) L
  -- a longer list gives a candidate
  have gives : ∀ k l, Ent ss (n + 1) (k :: l) → OnW w (cs ss (k :: l)) → ∃ m3, (cs ss (k :: l), insN k m3) ∈ cands w ss L ∧ m3.length = l.length ∧ ¬ l < m3 := fun k l e on => by
    obtain ⟨e2, hk, hb⟩ := e.tail
    have on2 := onW_tail hs e2.vd hk on
    obtain ⟨m3, h3⟩ := Option.isSome_iff_exists.mp (v.all l e2 on2)
    obtain ⟨b1, b2, _, b4⟩ := v.best _ _ h3
    have st := cs_step hs e2.vd hk
    refine ⟨m3, mem_cands.mpr ⟨(cs ss l, m3), look_mem h3, k, hk, st, fun z => ?_, ?_, rfl⟩, by rw [b1.len, e2.len], b4 l e2 rfl⟩
    · have := cs_more hs e2.vd hk hb
      have z : cs ss (k :: l) = cs ss l := z
      rw [z] at this
      omega
    · exact (isSum_iff hw h0 (cs_ne hs e.vd)).mpr on
  refine ⟨kn, fun C m hl => ?_, fun m e on => ?_⟩
  · obtain ⟨q1, q2⟩ := (ls C).1 m hl
    obtain ⟨p, hp, k, hk, hC, hne, hsum, rfl⟩ := mem_cands.mp q1
    obtain ⟨C0, m0⟩ := p
    obtain ⟨b1, b2, _, _⟩ := v.best C0 m0 (v.kn _ hp)
    subst b2
    have st := cs_step hs b1.vd hk
    have hC : corner (srt (prd (cs ss m0) (sh ss k))) = C := hC
    rw [st] at hC
    have hb : 2 ≤ (sh ss k).length := Classical.byContradiction fun z => hne (hC.symm.trans (cs_single hs b1.vd hk z))
    have vd1 : Vd ss (k :: m0) := fun x hx => (List.mem_cons.mp hx).elim (fun e => e ▸ hk) (b1.vd x)
    have ent : Ent ss (n + 1) (insN k m0) := by
      refine ⟨by rw [insN_len, b1.len], insN_asc k b1.asc, fun x hx => vd1 x ((insN_perm k m0).mem_iff.mp hx), fun x hx => ?_⟩
      rcases List.mem_cons.mp ((insN_perm k m0).mem_iff.mp hx) with rfl | z
      · exact hb
      · exact b1.bg x z
    have onC : OnW w C := (isSum_iff hw h0 (by rw [← hC]; exact cs_ne hs vd1)).mp hsum
    refine ⟨ent, (cs_ins hs b1.vd hk).trans hC, onC, fun m' e' c' lt => ?_⟩
    cases m' with
    | nil => have := e'.len; simp at this
    | cons k' l' =>
      obtain ⟨m3, i1, i2, i3⟩ := gives k' l' e' (by rw [c']; exact onC)
      rw [c'] at i1
      have n1 := q2 _ i1
      have n2 := insN_le k' i2 i3
      rw [insN_head e'.asc] at n2
      rcases tri_N (insN k' m3) (insN k m0) with z | z | z
      · exact n1 z
      · rw [← z] at lt
        exact n2 lt
      · exact n2 (List.lt_trans lt z)
  · cases m with
    | nil => have := e.len; simp at this
    | cons k l =>
      obtain ⟨m3, i1, _, _⟩ := gives k l e on
      cases hn : look (rnd w ss L) (cs ss (k :: l)) with
      | some _ => rfl
      | none => exact absurd i1 ((ls _).2 hn _)
theorem Lv.zero (hs : Stk ss) (h0 : OnW w [(0, 0)]) : Lv w ss 0 [([(0, 0)], [])] := by
  have nilE : Ent ss 0 [] := ⟨rfl, .nil, nofun, nofun⟩
  refine ⟨fun p hp => ?_, fun C m h => ?_, fun m e _ => ?_⟩
  · rw [List.mem_singleton.mp hp]
    rfl
  · rw [look] at h
    split at h
    · rename_i e
      have e : [(0, 0)] = C := e
      cases h
      subst e
      refine ⟨nilE, cs_nil, h0, fun m' e' _ => ?_⟩
      rw [List.eq_nil_of_length_eq_zero e'.len]
      exact List.lt_irrefl _
    · cases h
  · rw [List.eq_nil_of_length_eq_zero e.len, cs_nil]
    rfl
theorem cs_len (hs : Stk ss) : ∀ {l : List Nat}, Vd ss l → Bg ss l → l.length + 1 ≤ (cs ss l).length
  | [], _, _ => by
    rw [cs_nil]
    decide
  | k :: l, v, b => by
    have v2 : Vd ss l := fun x hx => v x (List.mem_cons_of_mem _ hx)
    have := cs_more hs v2 (v k List.mem_cons_self) (b k List.mem_cons_self)
    have := cs_len hs v2 fun x hx => b x (List.mem_cons_of_mem _ hx)
    rw [List.length_cons]
    omega
/-- what the search gives -/
def Res (w : List Ce) (ss : List (List Ce)) : Option (List Nat) → Prop
  | some l => Ent ss l.length l ∧ cs ss l = w ∧ (∀ m, Ent ss l.length m → cs ss m = w → ¬ m < l) ∧ ∀ j, j < l.length → ∀ m, Ent ss j m → cs ss m ≠ w
  | none => ∀ j m, Ent ss j m → cs ss m ≠ w
theorem on_suffix (hs : Stk ss) {n : Nat} : ∀ (d : Nat) {m : List Nat}, Ent ss (n + d) m → OnW w (cs ss m) → ∃ m2, Ent ss n m2 ∧ OnW w (cs ss m2)
  | 0, m, e, on => ⟨m, e, on⟩
  | d + 1, m, e, on => by
    cases m with
    | nil => have := e.len; simp at this
    | cons k l =>
      obtain ⟨e2, hk, _⟩ := Ent.tail (n := n + d) e
      exact on_suffix hs d e2 (onW_tail hs e2.vd hk on)
theorem srch_ok (hs : Stk ss) (hw : w.Pairwise ltC) (h0 : w ≠ []) : ∀ (f n : Nat) (L : List En), Lv w ss n L → (∀ j, j < n → ∀ m, Ent ss j m → cs ss m ≠ w) → 1 ≤ f → w.length + 1 ≤ n + f → ∃ r, srch w ss f L = some r ∧ Res w ss r
  | 0, _, _, _, _, h, _ => by omega
  | f + 1, n, L, v, no, _, hf => by
    rw [srch]
    by_cases hL : L = []
    · refine ⟨none, if_pos hL, fun j m e c => ?_⟩
      subst hL
      rcases Nat.lt_or_ge j n with z | z
      · exact no j z m e c
      · obtain ⟨m2, e2, on2⟩ := on_suffix (w := w) hs (n := n) (j - n) (m := m) (by rw [show n + (j - n) = j by omega]; exact e) (by rw [c]; exact onW_self w)
        have := v.all m2 e2 on2
        cases this
    · rw [if_neg hL]
      have small : n + 1 ≤ w.length := by
        obtain ⟨p, hp⟩ := List.exists_mem_of_ne_nil L hL
        obtain ⟨b1, b2, b3, _⟩ := v.best _ _ (v.kn p hp)
        have q1 := cs_len hs b1.vd b1.bg
        have q2 := onW_le hw (by rw [← b2]; exact corner_asc _ : p.1.Pairwise ltC) h0 b3
        rw [b2, b1.len] at q1
        omega
      cases hl : look L w with
      | some l =>
        dsimp only
        obtain ⟨b1, b2, _, b4⟩ := v.best _ _ hl
        have len := b1.len
        refine ⟨some l, rfl, ?_⟩
        subst len
        exact ⟨b1, b2, b4, no⟩
      | none =>
        dsimp only
        refine srch_ok hs hw h0 f (n + 1) _ (v.step hs hw h0) (fun j hj m e c => ?_) (by omega) (by omega)
        rcases Nat.lt_or_ge j n with z | z
        · exact no j z m e c
        · obtain rfl : j = n := by omega
          have := v.all m e (by rw [c]; exact onW_self w)
          rw [c, hl] at this
          cases this
end
end K28
set_option Elab.async false
set_option maxRecDepth 100000
set_option maxHeartbeats 4000000
/-! P28p: the shortest list, the least of these. -/
namespace K28
open Mp
section
variable {w : List Ce} {ss : List (List Ce)}
theorem cs_filter (hs : Stk ss) : ∀ {m : List Nat}, Vd ss m → cs ss (m.filter fun k => decide (2 ≤ (sh ss k).length)) = cs ss m
  | [], _ => rfl
  | k :: r, v => by
    have v2 : Vd ss r := fun x hx => v x (List.mem_cons_of_mem _ hx)
    have hk := v k List.mem_cons_self
    have ih := cs_filter hs v2
    rw [List.filter_cons]
    by_cases hb : 2 ≤ (sh ss k).length
    · rw [if_pos (decide_eq_true hb), ← cs_step hs v2 hk, ← cs_step hs (fun x hx => v2 x (List.mem_filter.mp hx).1) hk, ih]
    · rw [if_neg (by rw [decide_eq_true_iff]; exact hb), ih, cs_single hs v2 hk hb]
/-- what fewest_sums promises -/
def Full (w : List Ce) (ss : List (List Ce)) : Option (List Nat) → Prop
  | some l => Vd ss l ∧ l.Pairwise (· ≤ ·) ∧ cs ss l = w ∧ ∀ m, Vd ss m → m.Pairwise (· ≤ ·) → cs ss m = w → l.length < m.length ∨ l.length = m.length ∧ ¬ m < l
  | none => ∀ m, Vd ss m → m.Pairwise (· ≤ ·) → cs ss m ≠ w
theorem full_of (hs : Stk ss) {r : Option (List Nat)} (h : Res w ss r) : Full w ss r := by
  have cut : ∀ m, Vd ss m → m.Pairwise (· ≤ ·) → cs ss m = w → Ent ss (m.filter fun k => decide (2 ≤ (sh ss k).length)).length (m.filter fun k => decide (2 ≤ (sh ss k).length)) ∧ cs ss (m.filter fun k => decide (2 ≤ (sh ss k).length)) = w :=
    fun m v a c => ⟨⟨rfl, a.filter _, fun x hx => v x (List.mem_filter.mp hx).1, fun x hx => of_decide_eq_true (List.mem_filter.mp hx).2⟩, (cs_filter hs v).trans c⟩
  cases r with
  | none => exact fun m v a c => h _ _ (cut m v a c).1 (cut m v a c).2
  | some l =>
    obtain ⟨h1, h2, h3, h4⟩ := h
    refine ⟨h1.vd, h1.asc, h2, fun m v a c => ?_⟩
    obtain ⟨e, ce⟩ := cut m v a c
    have le : (m.filter fun k => decide (2 ≤ (sh ss k).length)).length ≤ m.length := List.length_filter_le _ _
    generalize hm : (m.filter fun k => decide (2 ≤ (sh ss k).length)) = m2 at e ce le
    have ge : l.length ≤ m2.length := Nat.le_of_not_lt fun z => h4 _ z m2 e ce
    rcases Nat.lt_or_ge l.length m.length with z | z
    · exact .inl z
    · have eq : m2.length = m.length := by omega
      have same : m2 = m := by
        rw [← hm]
        exact List.filter_eq_self.mpr ((List.length_filter_eq_length_iff).mp (by rw [hm]; exact eq))
      subst same
      have el : l.length = m2.length := by omega
      exact .inr ⟨el, h3 m2 (by rw [el]; exact e) ce⟩
abbrev L0 : List En := [([(0, 0)], [])]
theorem on_zero (w : List Ce) : OnW w [(0, 0)] := ⟨w, fun c => by
  rw [mem_prd]
  constructor
  · intro h
    exact ⟨(0, 0), List.mem_singleton.mpr rfl, c, h, by rw [add_com, add_zero]⟩
  · rintro ⟨p, hp, q, hq, rfl⟩
    rw [List.mem_singleton.mp hp, add_com, add_zero]
    exact hq⟩
theorem fewest_full (hs : Stk ss) (hw : w.Pairwise ltC) (h0 : w ≠ []) {f : Nat} (hf : w.length + 1 ≤ f) : ∃ r, srch w ss f L0 = some r ∧ Full w ss r := by
  obtain ⟨r, h1, h2⟩ := srch_ok hs hw h0 f 0 L0 (Lv.zero hs (on_zero w)) (fun j hj => absurd hj (Nat.not_lt_zero _)) (by omega) (by omega)
  exact ⟨r, h1, full_of hs h2⟩
/-- the answer is the only one -/
theorem full_one {r r2 : Option (List Nat)} (h : Full w ss r) (h2 : Full w ss r2) : r = r2 := by
  cases r with
  | none =>
    cases r2 with
    | none => rfl
    | some m => exact absurd h2.2.2.1 (h m h2.1 h2.2.1)
  | some l =>
    cases r2 with
    | none => exact absurd h.2.2.1 (h2 l h.1 h.2.1)
    | some m =>
      have a := h.2.2.2 m h2.1 h2.2.1 h2.2.2.1
      have b := h2.2.2.2 l h.1 h.2.1 h.2.2.1
      have c : ¬ m < l := by
        rcases a with a | a
        · rcases b with b | b <;> omega
        · exact a.2
      have d : ¬ l < m := by
        rcases b with b | b
        · rcases a with a | a <;> omega
        · exact b.2
      rcases tri_N l m with z | rfl | z
      · exact absurd z d
      · rfl
      · exact absurd z c
/-- moved shapes change nothing -/
theorem cs_moved {ss2 : List (List Ce)} (hs : Stk ss) (hl : ss2.length = ss.length) (h : ∀ k, k < ss.length → Mv (sh ss k) (sh ss2 k)) : ∀ {m : List Nat}, Vd ss m → Mv (tot ss m) (tot ss2 m)
  | [], _ => Mv.refl _
  | k :: r, v => (cs_moved hs hl h fun x hx => v x (List.mem_cons_of_mem _ hx)).sum (h k (v k List.mem_cons_self))
theorem full_moved {ss2 : List (List Ce)} (hs : Stk ss) (hl : ss2.length = ss.length) (h : ∀ k, k < ss.length → Mv (sh ss k) (sh ss2 k)) {r : Option (List Nat)} (hr : Full w ss2 r) : Full w ss r := by
  have vd : ∀ {m : List Nat}, Vd ss m ↔ Vd ss2 m := fun {m} => by
    unfold Vd
    rw [hl]
  have same : ∀ {m : List Nat}, Vd ss m → cs ss m = cs ss2 m := fun {m} v => corner_eq (tot_ne hs v) (cs_moved hs hl h v)
  cases r with
  | none => exact fun m v a => by rw [same v]; exact hr m (vd.mp v) a
  | some l =>
    obtain ⟨h1, h2, h3, h4⟩ := hr
    refine ⟨vd.mpr h1, h2, by rw [same (vd.mpr h1)]; exact h3, fun m v a c => h4 m (vd.mp v) a (by rw [← same v]; exact c)⟩
end
end K28
set_option Elab.async false
set_option maxRecDepth 100000
set_option maxHeartbeats 4000000
/-! P28c: calls, keys, summands as they are evaluated. -/
namespace K28
open PySem Mp
abbrev Sl := Option (Bool × Mp.D)
section
variable {T : Tab} {call : Str → List Mp.D → Sr → R} {env : Mp.Env} {S S1 S2 : Sr} {f : Str} {x y : Xp} {m m2 : Md} {d d2 : Mp.D}
theorem ev_call1 (h : evE T call x env S = .ok m d S1) (hm : m ≠ .br) : evE T call (.call f [x]) env S = call f [d] S1 := by
  rw [evE, evEs.eq_def]
  dsimp only
  rw [h]
  dsimp only
  rw [if_neg hm, evEs.eq_def]
  rfl
theorem ev_call2 (h : evE T call x env S = .ok m d S1) (hm : m ≠ .br) (h2 : evE T call y env S1 = .ok m2 d2 S2) (hm2 : m2 ≠ .br) : evE T call (.call f [x, y]) env S = call f [d, d2] S2 := by
  rw [evE, evEs.eq_def]
  dsimp only
  rw [h]
  dsimp only
  rw [if_neg hm, evEs.eq_def]
  dsimp only
  rw [h2]
  dsimp only
  rw [if_neg hm2, evEs.eq_def]
  rfl
end
/-- a cell, a figure as keys -/
def ckey (c : Ce) : NestedKey := .tup [.num c.1, .num c.2]
def keyC (cs : List Ce) : NestedKey := .tup (cs.map ckey)
theorem nk_pds : ∀ cs : List Ce, nkPs (D.pds (cs.map cD)) = some (cs.map ckey)
  | [] => by rw [List.map_nil, D.pds, nkPs]; rfl
  | c :: cs => by
    rw [List.map_cons, D.pds, nkPs, nk_pds cs]
    rfl
theorem depth_cs : ∀ cs : List Ce, NestedKey.depthAll (cs.map ckey) ≤ 1
  | [] => by simp [NestedKey.depthAll]
  | c :: cs => by
    have := depth_cs cs
    rw [List.map_cons, NestedKey.depthAll]
    have h : (ckey c).depth = 1 := by simp [ckey, NestedKey.depth, NestedKey.depthAll]
    omega
theorem nk_cs (cs : List Ce) : (csD cs).nk = some (keyC cs) := by
  show (if (csD cs).ok 60 = true then match nkP (csD cs).pd with
    | some k => if k.depth ≤ 8 then some k else none
    | none => none else none) = _
  rw [if_pos (ok_csD 58 cs)]
  have e : nkP (csD cs).pd = some (keyC cs) := by
    show nkP (D.pd (.tup (cs.map cD))) = _
    rw [D.pd, nkP, nk_pds]
    rfl
  rw [e]
  dsimp only
  rw [if_pos]
  show (NestedKey.tup (cs.map ckey)).depth ≤ 8
  rw [NestedKey.depth]
  have := depth_cs cs
  omega
theorem ckey_inj {p q : Ce} (h : ckey p = ckey q) : p = q := by
  obtain ⟨a, b⟩ := p
  obtain ⟨c, d⟩ := q
  unfold ckey at h
  injection h with h
  injection h with h1 h2
  injection h2 with h2 h3
  injection h1 with h1
  injection h2 with h2
  dsimp only at h1 h2
  rw [h1, h2]
theorem ckeys_inj : ∀ {a b : List Ce}, a.map ckey = b.map ckey → a = b
  | [], [], _ => rfl
  | [], _ :: _, h => by cases h
  | _ :: _, [], h => by cases h
  | p :: a, q :: b, h => by
    rw [List.map_cons, List.map_cons] at h
    injection h with h1 h2
    rw [ckey_inj h1, ckeys_inj h2]
theorem keyC_inj {a b : List Ce} (h : keyC a = keyC b) : a = b := by
  unfold keyC at h
  injection h with h
  exact ckeys_inj h
theorem eqb_cs (a b : List Ce) : D.eqb (csD a) (csD b) = decide (a = b) := by
  show D.eqbs (a.map cD) (b.map cD) = _
  rw [cDs_row, cDs_row, eqbs_rows]
  refine decide_eq_decide.mpr ⟨fun h => ?_, fun h => by rw [h]⟩
  exact (List.map_inj_right (fun x y h => row2_inj.mp h)).mp h
theorem ne_cs (a b : List Ce) : cmpD .ne (csD a) (csD b) = some (!decide (a = b)) := by
  show (if (csD a).ok 60 && (csD b).ok 60 then some (D.eqb (csD a) (csD b)) else none).map (!·) = _
  rw [ok_csD, ok_csD, eqb_cs]
  rfl
theorem sort_1 (k : Int) : sortD [.int k] = some [.int k] := by
  unfold sortD
  simp [allAlike, sortable, D.oks, D.ok, PySem.W.alike, D.pd, szMax]
abbrev en (a0 a1 a2 a3 a4 a5 a6 a7 a8 a9 a10 : Sl) : Mp.Env := [a0, a1, a2, a3, a4, a5, a6, a7, a8, a9, a10]
def cond3 : Xp := .bool true [.cmp .ne (.var 9) (.var 5), .call "is_summand" [.var 2, .var 9], .cmp .lt (.var 10) (.dget (.var 4) (.var 9) (.bin .add (.var 10) (.lst [.lit (.int 0)])))]
def inB : List Mp.St := [
        .asg 9 (.call "at_corner" [.call "sum_of" [.var 5, .var 8]]),
        .asg 10 (.blt .sorted [.bin .add (.var 6) (.lst [.var 7])]),
        .ite cond3 [.put 4 (.var 9) (.var 10)] []]
theorem ev_and {T : Tab} {call : Str → List Mp.D → Sr → R} {e e' : Xp} {es : List Xp} {env : Mp.Env} {S S1 : Sr} {b : Bool} (h : evE T call e env S = .ok .fz (.bl b) S1) :
    evE T call (.bool true (e :: e' :: es)) env S = if b = true then evB T call true (e' :: es) env S1 else .ok .fz (.bl b) S1 := by
  rw [evE, evB.eq_def]
  dsimp only
  rw [h]
  rfl
theorem evB_and {T : Tab} {call : Str → List Mp.D → Sr → R} {e e' : Xp} {es : List Xp} {env : Mp.Env} {S S1 : Sr} {b : Bool} (h : evE T call e env S = .ok .fz (.bl b) S1) :
    evB T call true (e :: e' :: es) env S = if b = true then evB T call true (e' :: es) env S1 else .ok .fz (.bl b) S1 := by
  rw [evB.eq_def]
  dsimp only
  rw [h]
  rfl
theorem rest_le (w : List Ce) (p0 : Ce) (pr : List Ce) : (restOf w p0 pr).length ≤ w.length := by
  unfold restOf
  exact Nat.le_trans (List.length_filter_le _ _) (by rw [List.length_map]; exact Nat.le_refl _)
theorem part_le {w : List Ce} {p0 : Ce} {pr : List Ce} (nd : (p0 :: pr).Nodup) (h : restOf w p0 pr ≠ []) : (p0 :: pr).length ≤ w.length := by
  obtain ⟨m, hm⟩ := List.exists_mem_of_ne_nil _ h
  have q := mem_rest.mp hm
  have n2 : ((p0 :: pr).map fun q => addC m q).Nodup := List.Pairwise.map _ (fun x y hxy z => hxy (add_can (c := m) (by rw [add_com x, add_com y]; exact z))) nd
  have := List.Nodup.length_le_of_subset n2 (l₂ := w) fun x hx => by
    obtain ⟨y, hy, rfl⟩ := List.mem_map.mp hx
    exact q y hy
  rw [List.length_map] at this
  exact this
theorem deq_lst (a b : List Ce) : cmpD .eq (.lst (a.map cD)) (.lst (b.map cD)) = some (decide (a = b)) := by
  show (if (Mp.D.lst (a.map cD)).ok 60 && (Mp.D.lst (b.map cD)).ok 60 then some (D.eqb (.lst (a.map cD)) (.lst (b.map cD))) else none) = _
  have ok : ∀ l : List Ce, (Mp.D.lst (l.map cD)).ok 60 = true := fun l => oks_cs 58 l
  rw [ok, ok]
  exact congrArg some (eqb_cs a b)
theorem is_summand (n : Nat) (w p : List Ce) (S : Sr) (hw : w.length ≤ 30) (hp : p ≠ []) (nd : p.Nodup) : pg.run (n + 2) "is_summand" [csD w, csD p] S = .ok .fz (.bl (isSum w p)) S := by
  cases p with
  | nil => exact absurd rfl hp
  | cons p0 pr =>
  rw [r_is_summand]
  have hb : b_is_summand = [.asg 2 (.call "rest_of" [.var 0, .var 1]), .ret (.bool true [.cmp .gt (.blt .len [.var 2]) (.lit (.int 0)), .cmp .eq (.call "sum_of" [.var 1, .var 2]) (.blt .list [.var 0])])] := rfl
  have e1 := rest_of n (csD (p0 :: pr)) w p0 pr S rfl (by omega)
  have rl := rest_le w p0 pr
  have pl := part_le (w := w) nd
  unfold isSum
  dsimp only
  generalize restOf w p0 pr = R at e1 rl pl
  rw [hb]
  have s1 : exS tab (pg.run (n + 1)) (.asg 2 (.call "rest_of" [.var 0, .var 1])) [some (false, csD w), some (false, csD (p0 :: pr)), none] S = .nx [some (false, csD w), some (false, csD (p0 :: pr)), some (true, .lst (R.map cD))] S := by
    rw [exS]
    have e : evE tab (pg.run (n + 1)) (.call "rest_of" [.var 0, .var 1]) [some (false, csD w), some (false, csD (p0 :: pr)), none] S = .ok .fr (.lst (R.map cD)) S := (ev_call2 (m := .fz) (m2 := .fz) rfl (by decide) rfl (by decide)).trans e1
    show (evE tab (pg.run (n + 1)) (.call "rest_of" [.var 0, .var 1]) [some (false, csD w), some (false, csD (p0 :: pr)), none] S).keep _ _ = _
    rw [e]
    rfl
  refine congrArg endR (seq_step s1 ?_ : _ = Ro.rt .fz (.bl (decide (R ≠ []) && decide (srt (prd (p0 :: pr) R) = w))) S)
  refine seq_rt ?_
  rw [exS]
  rotate_left
  · intro i z
    cases z
  let env : Mp.Env := [some (false, csD w), some (false, csD (p0 :: pr)), some (false, .lst (R.map cD))]
  have c1 : evE tab (pg.run (n + 1)) (.cmp .gt (.blt .len [.var 2]) (.lit (.int 0))) env S = .ok .fz (.bl (decide (R ≠ []))) S := by
    show okb (some (decide ((0 : Int) < ((R.map cD).length : Int)))) S = _
    rw [List.length_map]
    have : decide ((0 : Int) < (R.length : Int)) = decide (R ≠ []) := by
      refine decide_eq_decide.mpr ⟨fun h z => ?_, fun h => ?_⟩
      · rw [z] at h
        simp at h
      · have := List.length_pos_iff.mpr h
        omega
    rw [this]
    rfl
  have fin : evE tab (pg.run (n + 1)) (.bool true [.cmp .gt (.blt .len [.var 2]) (.lit (.int 0)), .cmp .eq (.call "sum_of" [.var 1, .var 2]) (.blt .list [.var 0])]) env S = .ok .fz (.bl (decide (R ≠ []) && decide (srt (prd (p0 :: pr) R) = w))) S := by
    rw [ev_and c1]
    by_cases hR : R = []
    · rw [decide_eq_false (fun z => z hR)]
      rfl
    · rw [decide_eq_true hR, if_pos rfl]
      have hl : (prd (p0 :: pr) R).length < 1199 := by
        rw [prd_len]
        have h1 := pl hR
        have : (p0 :: pr).length * R.length ≤ 30 * 30 := Nat.mul_le_mul (by omega) (by omega)
        omega
      have e2 := sum_of n (csD (p0 :: pr)) (.lst (R.map cD)) (p0 :: pr) R S (.inl rfl) (.inr rfl) hl
      have c2 : evE tab (pg.run (n + 1)) (.call "sum_of" [.var 1, .var 2]) env S = .ok .fr (.lst ((srt (prd (p0 :: pr) R)).map cD)) S := (ev_call2 (m := .fz) (m2 := .fz) rfl (by decide) rfl (by decide)).trans e2
      have c3 : evE tab (pg.run (n + 1)) (.cmp .eq (.call "sum_of" [.var 1, .var 2]) (.blt .list [.var 0])) env S = .ok .fz (.bl (decide (srt (prd (p0 :: pr) R) = w))) S := by
        rw [evE, c2]
        show okb (cmpD .eq (.lst ((srt (prd (p0 :: pr) R)).map cD)) (.lst (w.map cD))) S = _
        rw [deq_lst]
        rfl
      rw [evB.eq_def]
      dsimp only
      rw [c3]
      rfl
  show (evE tab (pg.run (n + 1)) (.bool true [.cmp .gt (.blt .len [.var 2]) (.lit (.int 0)), .cmp .eq (.call "sum_of" [.var 1, .var 2]) (.blt .list [.var 0])]) env S).keep _ _ = _
  rw [fin]
  rfl
end K28
set_option Elab.async false
set_option maxRecDepth 100000
set_option maxHeartbeats 4000000
/-! P28d: the pairs as data. -/
namespace K28
open PySem Mp
def intsN (l : List Nat) : List Int := l.map fun (k : Nat) => (k : Int)
def numD (l : List Nat) : Mp.D := .lst ((intsN l).map .int)
def enD (L : List En) : List (Mp.D × Mp.D) := L.map fun p => (csD p.1, numD p.2)
theorem lookD_en (C : List Ce) : ∀ L : List En, lookD (enD L) (keyC C) = (look L C).map numD
  | [] => rfl
  | p :: r => by
    show (if (csD p.1).nk = some (keyC C) then some (numD p.2) else lookD (enD r) (keyC C)) = _
    rw [nk_cs, look, lookD_en C r]
    by_cases h : p.1 = C
    · rw [if_pos (by rw [h]), if_pos h]
      rfl
    · rw [if_neg (fun z => h (keyC_inj (Option.some.inj z))), if_neg h]
theorem putD_en (L : List En) (C : List Ce) (m : List Nat) : putD (enD L) (csD C) (keyC C) (numD m) = enD (putA L C m) := by
  unfold putD putA
  rw [lookD_en, Option.isSome_map]
  split
  · unfold enD
    rw [List.map_map, List.map_map]
    refine List.map_congr_left fun p _ => ?_
    show (if (csD p.1).nk = some (keyC C) then (csD p.1, numD m) else (csD p.1, numD p.2)) = (csD (if p.1 = C then (p.1, m) else p).1, numD (if p.1 = C then (p.1, m) else p).2)
    rw [nk_cs]
    by_cases h : p.1 = C
    · rw [if_pos (by rw [h]), if_pos h]
    · rw [if_neg (fun z => h (keyC_inj (Option.some.inj z))), if_neg h]
  · unfold enD
    rw [List.map_append]
    rfl
theorem intsN_lt : ∀ a b : List Nat, intsN a < intsN b ↔ a < b
  | [], [] => ⟨fun h => absurd h (List.lt_irrefl _), fun h => absurd h (List.lt_irrefl _)⟩
  | [], y :: b => ⟨fun _ => List.nil_lt_cons _ _, fun _ => List.nil_lt_cons _ _⟩
  | x :: a, [] => ⟨fun h => absurd h (List.not_lt_nil _), fun h => absurd h (List.not_lt_nil _)⟩
  | x :: a, y :: b => by
    show (x : Int) :: intsN a < (y : Int) :: intsN b ↔ _
    rw [List.cons_lt_cons_iff, List.cons_lt_cons_iff, intsN_lt a b]
    constructor
    · rintro (h | ⟨h, k⟩)
      · exact .inl (by omega)
      · exact .inr ⟨by omega, k⟩
    · rintro (h | ⟨h, k⟩)
      · exact .inl (by omega)
      · exact .inr ⟨by omega, k⟩
theorem intsN_inj {a b : List Nat} : intsN a = intsN b ↔ a = b := List.map_inj_right fun x y h => by omega
theorem ok_ints (n : Nat) : ∀ l : List Int, D.oks (l.map .int) n = true
  | [] => rfl
  | x :: l => by
    rw [List.map_cons, D.oks, ok_ints n l]
    rfl
theorem alike_num (a b : List Int) : PySem.W.alike (Mp.D.lst (a.map .int)).pd (Mp.D.lst (b.map .int)).pd = true := by
  show PySem.W.alikeAll (D.pds (a.map .int)) (D.pds (b.map .int)) = true
  rw [pds_ints, pds_ints]
  exact PySem.W.alike_ints a b
theorem lt_num (a b : List Nat) : cmpD .lt (numD a) (numD b) = some (decide (a < b)) := by
  show (if cmpOk (numD a) (numD b) then some (dltb (numD a) (numD b)) else none) = _
  have h1 : cmpOk (numD a) (numD b) = true := by
    unfold cmpOk numD
    rw [alike_num]
    have k : ∀ l : List Int, (Mp.D.lst (l.map .int)).ok 60 = true := fun l => ok_ints 59 l
    rw [k, k]
    rfl
  rw [h1, if_pos rfl]
  have h2 : dltb (numD a) (numD b) = dltb (tupD (intsN a)) (tupD (intsN b)) := rfl
  rw [h2, dltb_tup]
  exact congrArg some (decide_eq_decide.mpr (intsN_lt a b))
theorem sortD_ints (xs ys : List Int) (p : ys.Perm xs) (h : ys.Pairwise (· ≤ ·)) (hl : xs.length ≤ szMax) : sortD (xs.map .int) = some (ys.map .int) := by
  have hd : ∀ x y : Int, dle (.int x) (.int y) = decide (x ≤ y) := fun x y => congrFun (congrFun (PySem.W.dataLe_int fun b : Int => b) x) y
  unfold sortD
  have c1 : D.oks (xs.map .int) 60 = true := ok_ints 60 xs
  have c2 : allAlike (xs.map .int) = true := by
    unfold allAlike
    rw [List.all_eq_true]
    intro a ha
    rw [List.all_eq_true]
    intro b hb
    obtain ⟨x, _, rfl⟩ := List.mem_map.mp ha
    obtain ⟨y, _, rfl⟩ := List.mem_map.mp hb
    rfl
  have c3 : sortable (xs.map .int) = true := by
    unfold sortable
    rw [Bool.or_eq_true]
    refine .inr (List.all_eq_true.mpr fun a ha => ?_)
    obtain ⟨x, _, rfl⟩ := List.mem_map.mp ha
    rfl
  rw [c1, c2, c3, if_pos (by simp [hl])]
  have e : (xs.map Mp.D.int).mergeSort dle = (xs.mergeSort fun a b => decide (a ≤ b)).map .int := by
    refine (List.map_mergeSort fun a _ b _ => ?_).symm
    exact (hd a b).symm
  rw [e]
  have s : (xs.mergeSort fun a b => decide (a ≤ b)) = ys := by
    have p1 := List.mergeSort_perm xs fun a b : Int => decide (a ≤ b)
    have q1 := List.pairwise_mergeSort (le := fun a b : Int => decide (a ≤ b)) (fun a b c h1 h2 => by simp only [decide_eq_true_eq] at *; omega) (fun a b => by simp only [Bool.or_eq_true, decide_eq_true_eq]; omega) xs
    exact (p1.trans p.symm).eq_of_pairwise (fun a b _ _ h1 h2 => by have h1 := of_decide_eq_true h1; have h2 := of_decide_eq_true h2; omega) q1 (h.imp fun {a b} z => decide_eq_true z)
  rw [s]
theorem sort_ins (k : Nat) (l : List Nat) (h : l.Pairwise (· ≤ ·)) (hl : l.length ≤ 1000) : sortD (((intsN l).map .int) ++ [.int (k : Int)]) = some ((intsN (insN k l)).map .int) := by
  have e : ((intsN l).map Mp.D.int) ++ [.int (k : Int)] = (intsN l ++ [(k : Int)]).map .int := by
    rw [List.map_append]
    rfl
  rw [e]
  refine sortD_ints _ _ ?_ ?_ (by unfold intsN szMax; simp; omega)
  · have p := (insN_perm k l).map fun (k : Nat) => (k : Int)
    exact p.trans (List.perm_append_singleton _ _).symm
  · exact List.Pairwise.map _ (fun a b z => by omega) (insN_asc k h)
end K28
set_option Elab.async false
set_option maxRecDepth 100000
set_option maxHeartbeats 4000000
/-! P28e: one shape after one pair. -/
namespace K28
open PySem Mp
def stepE (w : List Ce) (ss : List (List Ce)) (p : En) (L : List En) (k : Nat) : List En :=
  match cand1 w ss p k with
  | some c => add1 L c
  | none => L
theorem in_turn (n : Nat) (w C s : List Ce) (ss : List (List Ce)) (l : List Nat) (k : Nat) (L : List En) (a0 a1 a3 a7 a8 a9 a10 : Sl) (S : Sr) (hs : sh ss k = s) (hw : w.length ≤ 30) (c0 : C ≠ []) (s0 : s ≠ []) (hz : (prd C s).length < 1199) (la : l.Pairwise (· ≤ ·)) (ll : l.length ≤ 900)
    (hL : L.length < szMax) : ∃ b9 b10, bodyF tab (pg.run (n + 3)) (.tp [7, 8]) inB (.tup [.int (k : Int), csD s]) (en a0 a1 (some (false, csD w)) a3 (some (true, .dic (enD L))) (some (false, csD C)) (some (false, numD l)) a7 a8 a9 a10) S =
      .nx (en a0 a1 (some (false, csD w)) a3 (some (true, .dic (enD (stepE w ss (C, l) L k)))) (some (false, csD C)) (some (false, numD l)) (some (false, .int (k : Int))) (some (false, csD s)) b9 b10) S := by
  have e1 := sum_of (n + 2) (csD C) (csD s) C s S (.inl rfl) (.inl rfl) hz
  have ne : srt (prd C s) ≠ [] := srt_ne (prd_ne c0 s0)
  have le : (srt (prd C s)).length ≤ szMax := by
    have h1 : (srt (prd C s)).length ≤ (prd C s).length := (asc_nodup (srt_asc _)).length_le_of_subset fun c hc => mem_srt.mp hc
    have : (1199 : Nat) ≤ szMax := by decide
    omega
  have e2 := at_corner (n + 2) (.lst ((srt (prd C s)).map cD)) (srt (prd C s)) S (.inr rfl) ne (asc_nodup (srt_asc _)) le
  have hA0 : corner (srt (prd C s)) ≠ [] := corner_ne ne
  have hAn : (corner (srt (prd C s))).Nodup := asc_nodup (corner_asc _)
  have hstep : stepE w ss (C, l) L k = match (if corner (srt (prd C s)) ≠ C ∧ isSum w (corner (srt (prd C s))) = true then some (corner (srt (prd C s)), insN k l) else none : Option En) with
    | some c => add1 L c
    | none => L := by
    unfold stepE cand1
    rw [hs]
  generalize corner (srt (prd C s)) = A at e2 hA0 hAn hstep
  let env1 : Mp.Env := en a0 a1 (some (false, csD w)) a3 (some (true, .dic (enD L))) (some (false, csD C)) (some (false, numD l)) (some (false, .int (k : Int))) (some (false, csD s)) a9 a10
  have s1 : exS tab (pg.run (n + 3)) (.asg 9 (.call "at_corner" [.call "sum_of" [.var 5, .var 8]])) env1 S = .nx (en a0 a1 (some (false, csD w)) a3 (some (true, .dic (enD L))) (some (false, csD C)) (some (false, numD l)) (some (false, .int (k : Int))) (some (false, csD s)) (some (false, csD A)) a10) S := by
    have c1 : evE tab (pg.run (n + 3)) (.call "sum_of" [.var 5, .var 8]) env1 S = .ok .fr (.lst ((srt (prd C s)).map cD)) S := (ev_call2 (m := .fz) (m2 := .fz) rfl (by decide) rfl (by decide)).trans e1
    have c2 : evE tab (pg.run (n + 3)) (.call "at_corner" [.call "sum_of" [.var 5, .var 8]]) env1 S = .ok .fz (csD A) S := (ev_call1 c1 (by decide)).trans e2
    rw [exS]
    show (evE tab (pg.run (n + 3)) (.call "at_corner" [.call "sum_of" [.var 5, .var 8]]) env1 S).keep _ _ = _
    rw [c2]
    rfl
  let env2 : Mp.Env := en a0 a1 (some (false, csD w)) a3 (some (true, .dic (enD L))) (some (false, csD C)) (some (false, numD l)) (some (false, .int (k : Int))) (some (false, csD s)) (some (false, csD A)) a10
  let env3 : Mp.Env := en a0 a1 (some (false, csD w)) a3 (some (true, .dic (enD L))) (some (false, csD C)) (some (false, numD l)) (some (false, .int (k : Int))) (some (false, csD s)) (some (false, csD A)) (some (true, numD (insN k l)))
  have s2 : exS tab (pg.run (n + 3)) (.asg 10 (.blt .sorted [.bin .add (.var 6) (.lst [.var 7])])) env2 S = .nx env3 S := by
    have c1 : evE tab (pg.run (n + 3)) (.bin .add (.var 6) (.lst [.var 7])) env2 S = .ok .fr (.lst ((intsN l).map Mp.D.int ++ [Mp.D.int (k : Int)])) S := by
      rw [evE]
      show (if Bop.add = .add ∧ ((intsN l).map Mp.D.int).length + 1 ≤ szMax then R.ok .fr (.lst ((intsN l).map Mp.D.int ++ [Mp.D.int (k : Int)])) S else .bad) = _
      refine if_pos ⟨rfl, ?_⟩
      rw [List.length_map]
      unfold intsN
      rw [List.length_map]
      have : (1199 : Nat) ≤ szMax := by decide
      omega
    have c2 : evE tab (pg.run (n + 3)) (.blt .sorted [.bin .add (.var 6) (.lst [.var 7])]) env2 S = .ok .fr (numD (insN k l)) S := by
      rw [evE, evBs.eq_def]
      dsimp only
      rw [c1]
      exact b_sort (sort_ins k l la (by omega))
    rw [exS]
    show (evE tab (pg.run (n + 3)) (.blt .sorted [.bin .add (.var 6) (.lst [.var 7])]) env2 S).keep _ _ = _
    rw [c2]
    rfl
  let q : Bool := !decide (A = C) && (isSum w A && match look L A with | some x => decide (insN k l < x) | none => true)
  have c3 : evE tab (pg.run (n + 3)) cond3 env3 S = .ok .fz (.bl q) S := by
    have f1 : evE tab (pg.run (n + 3)) (.cmp .ne (.var 9) (.var 5)) env3 S = .ok .fz (.bl (!decide (A = C))) S := by
      rw [evE]
      show okb (cmpD .ne (csD A) (csD C)) S = _
      rw [ne_cs]
      rfl
    have f2 : evE tab (pg.run (n + 3)) (.call "is_summand" [.var 2, .var 9]) env3 S = .ok .fz (.bl (isSum w A)) S :=
      (ev_call2 (m := .fz) (m2 := .fz) (d := csD w) (d2 := csD A) rfl (by decide) rfl (by decide)).trans (is_summand (n + 1) w A S hw hA0 hAn)
    have f3 : evE tab (pg.run (n + 3)) (.dget (.var 4) (.var 9) (.bin .add (.var 10) (.lst [.lit (.int 0)]))) env3 S = .ok (match look L A with | some _ => .fz | none => .fr) (match look L A with | some x => numD x | none => .lst ((intsN (insN k l)).map Mp.D.int ++ [Mp.D.int 0])) S := by
      have c1 : evE tab (pg.run (n + 3)) (.bin .add (.var 10) (.lst [.lit (.int 0)])) env3 S = .ok .fr (.lst ((intsN (insN k l)).map Mp.D.int ++ [Mp.D.int 0])) S := by
        rw [evE]
        show (if Bop.add = .add ∧ ((intsN (insN k l)).map Mp.D.int).length + 1 ≤ szMax then R.ok .fr (.lst ((intsN (insN k l)).map Mp.D.int ++ [Mp.D.int 0])) S else .bad) = _
        refine if_pos ⟨rfl, ?_⟩
        rw [List.length_map]
        unfold intsN
        rw [List.length_map, insN_len]
        have : (1199 : Nat) ≤ szMax := by decide
        omega
      rw [evE]
      show (match (csD A).nk with
        | some k2 => (evE tab (pg.run (n + 3)) (.bin .add (.var 10) (.lst [.lit (.int 0)])) env3 S).b fun (md : Md) z S => if md = Md.br then R.bad else match lookD (enD L) k2 with
          | some v => R.ok Md.fz v S
          | none => R.ok md z S
        | none => R.bad) = _
      rw [nk_cs]
      dsimp only
      rw [c1]
      show (match lookD (enD L) (keyC A) with
        | some v => R.ok .fz v S
        | none => R.ok .fr (.lst ((intsN (insN k l)).map Mp.D.int ++ [Mp.D.int 0])) S) = _
      rw [lookD_en]
      cases look L A <;> rfl
    have f4 : evE tab (pg.run (n + 3)) (.cmp .lt (.var 10) (.dget (.var 4) (.var 9) (.bin .add (.var 10) (.lst [.lit (.int 0)])))) env3 S = .ok .fz (.bl (match look L A with | some x => decide (insN k l < x) | none => true)) S := by
      rw [evE]
      show (evE tab (pg.run (n + 3)) (.dget (.var 4) (.var 9) (.bin .add (.var 10) (.lst [.lit (.int 0)]))) env3 S).b (fun _ y S => okb (cmpD .lt (numD (insN k l)) y) S) = _
      rw [f3]
      cases look L A with
      | some x =>
        show okb (cmpD .lt (numD (insN k l)) (numD x)) S = _
        rw [lt_num]
        rfl
      | none =>
        have e : (Mp.D.lst ((intsN (insN k l)).map Mp.D.int ++ [Mp.D.int 0])) = numD (insN k l ++ [0]) := by
          unfold numD intsN
          simp
        show okb (cmpD .lt (numD (insN k l)) (.lst ((intsN (insN k l)).map Mp.D.int ++ [Mp.D.int 0]))) S = _
        rw [e, lt_num]
        have : insN k l < insN k l ++ [0] := by
          generalize insN k l = x
          induction x with
          | nil => exact List.nil_lt_cons _ _
          | cons y x ih => exact cons_lt.mpr (.inr ⟨rfl, ih⟩)
        rw [decide_eq_true this]
        rfl
    unfold cond3
    rw [ev_and f1]
    show _ = R.ok .fz (.bl (!decide (A = C) && (isSum w A && match look L A with | some x => decide (insN k l < x) | none => true))) S
    cases hz1 : (!decide (A = C)) with
    | false => rfl
    | true =>
      rw [if_pos rfl, evB_and f2]
      cases hz2 : isSum w A with
      | false => rfl
      | true =>
        rw [if_pos rfl, evB.eq_def]
        dsimp only
        rw [f4]
        rfl
  refine ⟨some (false, csD A), some (!q, numD (insN k l)), ?_⟩
  show exL tab (pg.run (n + 3)) inB env1 S = _
  refine seq_step s1 (seq_step s2 (seq_step (env' := en a0 a1 (some (false, csD w)) a3 (some (true, .dic (enD (stepE w ss (C, l) L k)))) (some (false, csD C)) (some (false, numD l)) (some (false, .int (k : Int))) (some (false, csD s)) (some (false, csD A)) (some (!q, numD (insN k l)))) (S' := S) ?_ rfl))
  rw [exS]
  show (match evE tab (pg.run (n + 3)) cond3 env3 S with
    | .ok _ (.bl true) S => exL tab (pg.run (n + 3)) [.put 4 (.var 9) (.var 10)] env3 S
    | .ok _ (.bl false) S => exL tab (pg.run (n + 3)) [] env3 S
    | .exc x S => .ex x env3 S
    | _ => .bad) = _
  rw [c3]
  have hput : exL tab (pg.run (n + 3)) [.put 4 (.var 9) (.var 10)] env3 S = .nx (en a0 a1 (some (false, csD w)) a3 (some (true, .dic (enD (putA L A (insN k l))))) (some (false, csD C)) (some (false, numD l)) (some (false, .int (k : Int))) (some (false, csD s)) (some (false, csD A)) (some (false, numD (insN k l)))) S := by
    refine seq_step (S' := S) ?_ rfl
    rw [exS]
    show (match (csD A).nk with
      | some nk => if (enD L).length < szMax then Ro.nx (en a0 a1 (some (false, csD w)) a3 (some (true, .dic (putD (enD L) (csD A) nk (numD (insN k l))))) (some (false, csD C)) (some (false, numD l)) (some (false, .int (k : Int))) (some (false, csD s)) (some (false, csD A)) (some (false, numD (insN k l)))) S else .bad
      | none => .bad) = _
    rw [nk_cs]
    dsimp only
    rw [if_pos (by unfold enD; rw [List.length_map]; exact hL), putD_en]
  cases hq : q with
  | true =>
    dsimp only
    rw [hput]
    have hq : (!decide (A = C) && (isSum w A && match look L A with | some x => decide (insN k l < x) | none => true)) = true := hq
    rw [Bool.and_eq_true, Bool.and_eq_true, Bool.not_eq_true', decide_eq_false_iff_not] at hq
    obtain ⟨q1, q2, q3⟩ := hq
    rw [if_pos ⟨q1, q2⟩] at hstep
    dsimp only at hstep
    rw [hstep]
    unfold add1
    dsimp only
    cases hl : look L A with
    | none => rfl
    | some x =>
      rw [hl] at q3
      dsimp only at q3 ⊢
      rw [if_pos (of_decide_eq_true q3)]
      rfl
  | false =>
    dsimp only
    have hq : (!decide (A = C) && (isSum w A && match look L A with | some x => decide (insN k l < x) | none => true)) = false := hq
    have same : stepE w ss (C, l) L k = L := by
      rw [hstep]
      split
      · rename_i c hc
        split at hc
        · rename_i hh
          cases hc
          unfold add1
          dsimp only
          cases hl : look L A with
          | none =>
            rw [hl, hh.2, decide_eq_false hh.1] at hq
            cases hq
          | some x =>
            rw [hl, hh.2, decide_eq_false hh.1] at hq
            dsimp only
            rw [if_neg (of_decide_eq_false (by simpa using hq))]
        · cases hc
      · rfl
    rw [same]
    rfl
end K28
set_option Elab.async false
set_option maxRecDepth 100000
set_option maxHeartbeats 4000000
/-! P28f: all shapes after one pair; all pairs. -/
namespace K28
open PySem Mp
abbrev runE (w : List Ce) (ss : List (List Ce)) (p : En) (L : List En) (i : Nat) : List En := (List.range i).foldl (stepE w ss p) L
theorem runE_all (w : List Ce) (ss : List (List Ce)) (p : En) (L : List En) : runE w ss p L ss.length = ((List.range ss.length).filterMap (cand1 w ss p)).foldl add1 L := by
  have e : stepE w ss p = fun x y => match cand1 w ss p y with | some b => add1 x b | none => x := by
    funext x y
    unfold stepE
    cases cand1 w ss p y <;> rfl
  rw [List.foldl_filterMap]
  show (List.range ss.length).foldl (stepE w ss p) L = _
  rw [e]
  refine congrArg (fun f => List.foldl f L (List.range ss.length)) ?_
  funext x y
  cases cand1 w ss p y <;> rfl
theorem enum_at {ss : List (List Ce)} {i : Nat} {d : Mp.D} (h : (enumD (ss.map csD))[i]? = some d) : i < ss.length ∧ d = .tup [.int (i : Int), csD (sh ss i)] := by
  have hi : i < ss.length := by
    have := (List.getElem?_eq_some_iff.mp h).1
    unfold enumD at this
    simpa using this
  refine ⟨hi, ?_⟩
  have e : (ss.map csD)[i]? = some (csD (sh ss i)) := by
    rw [List.getElem?_map, List.getElem?_eq_getElem hi]
    unfold sh
    rw [List.getD_eq_getElem?_getD, List.getElem?_eq_getElem hi]
    rfl
  rw [enumD_at e] at h
  exact (Option.some.inj h).symm
theorem in_loop (n : Nat) (w C : List Ce) (ss : List (List Ce)) (l : List Nat) (L : List En) (a0 a3 a7 a8 a9 a10 : Sl) (S : Sr) (hs : Stk ss) (hw : w.length ≤ 30) (c0 : C ≠ []) (hz : ∀ s ∈ ss, (prd C s).length < 1199) (la : l.Pairwise (· ≤ ·)) (ll : l.length ≤ 900)
    (hL : ∀ i, i ≤ ss.length → (runE w ss (C, l) L i).length < szMax) :
    ∃ b7 b8 b9 b10, exS tab (pg.run (n + 3)) (.for_ (.tp [7, 8]) (.enum (.var 1)) inB) (en a0 (some (false, .lst (ss.map csD))) (some (false, csD w)) a3 (some (true, .dic (enD L))) (some (false, csD C)) (some (false, numD l)) a7 a8 a9 a10) S =
      .nx (en a0 (some (false, .lst (ss.map csD))) (some (false, csD w)) a3 (some (true, .dic (enD (runE w ss (C, l) L ss.length)))) (some (false, csD C)) (some (false, numD l)) b7 b8 b9 b10) S := by
  have key := forL_inv (f := bodyF tab (pg.run (n + 3)) (.tp [7, 8]) inB) (fun i env S' => S' = S ∧ ∃ b7 b8 b9 b10, env = en a0 (some (false, .lst (ss.map csD))) (some (false, csD w)) a3 (some (true, .dic (enD (runE w ss (C, l) L i)))) (some (false, csD C)) (some (false, numD l)) b7 b8 b9 b10)
    (enumD (ss.map csD)) 0 (env := en a0 (some (false, .lst (ss.map csD))) (some (false, csD w)) a3 (some (true, .dic (enD L))) (some (false, csD C)) (some (false, numD l)) a7 a8 a9 a10) (S := S) ⟨rfl, a7, a8, a9, a10, rfl⟩ ?_
  · obtain ⟨env', S', e, rfl, b7, b8, b9, b10, rfl⟩ := key
    refine ⟨b7, b8, b9, b10, ?_⟩
    rw [exS_for (ds := enumD (ss.map csD)) (S1 := S') rfl]
    have z : 0 + (enumD (ss.map csD)).length = ss.length := by
      unfold enumD
      simp
    rw [z] at e
    exact e
  · rintro i d env S' hd ⟨rfl, b7, b8, b9, b10, rfl⟩
    obtain ⟨hi, rfl⟩ := enum_at hd
    rw [Nat.zero_add]
    have hm := sh_mem (ss := ss) hi
    obtain ⟨c9, c10, e⟩ := in_turn n w C (sh ss i) ss l i (runE w ss (C, l) L i) a0 (some (false, .lst (ss.map csD))) a3 b7 b8 b9 b10 S' rfl hw c0 (hs _ hm).1 (hz _ hm) la ll (hL i (Nat.le_of_lt hi))
    have step : runE w ss (C, l) L (i + 1) = stepE w ss (C, l) (runE w ss (C, l) L i) i := by
      unfold runE
      rw [List.range_succ, List.foldl_append]
      rfl
    exact ⟨_, S', .inl e, rfl, some (false, .int (i : Int)), some (false, csD (sh ss i)), c9, c10, by rw [step]⟩
end K28
set_option Elab.async false
set_option maxRecDepth 100000
set_option maxHeartbeats 4000000
/-! P28g: all pairs; a round. -/
namespace K28
open PySem Mp
theorem runE_any (w : List Ce) (ss : List (List Ce)) (p : En) (L : List En) (i : Nat) : runE w ss p L i = ((List.range i).filterMap (cand1 w ss p)).foldl add1 L := by
  have e : stepE w ss p = fun x y => match cand1 w ss p y with | some b => add1 x b | none => x := by
    funext x y
    unfold stepE
    cases cand1 w ss p y <;> rfl
  rw [List.foldl_filterMap]
  show (List.range i).foldl (stepE w ss p) L = _
  rw [e]
  refine congrArg (fun f => List.foldl f L (List.range i)) ?_
  funext x y
  cases cand1 w ss p y <;> rfl
def outB : List Mp.St := [.for_ (.tp [7, 8]) (.enum (.var 1)) inB]
/-- the candidates of the first i pairs -/
def candT (w : List Ce) (ss : List (List Ce)) (F : List En) (i : Nat) : List En := cands w ss (F.take i)
theorem out_loop (n : Nat) (w : List Ce) (ss : List (List Ce)) (F : List En) (a0 : Sl) (b : Bool) (a5 a6 a7 a8 a9 a10 : Sl) (S : Sr) (hs : Stk ss) (hw : w.length ≤ 30) (hF : ∀ p ∈ F, p.1 ≠ [] ∧ (∀ s ∈ ss, (prd p.1 s).length < 1199) ∧ p.2.Pairwise (· ≤ ·) ∧ p.2.length ≤ 900)
    (hB : ∀ done : List En, (∀ c ∈ done, c ∈ cands w ss F) → (done.foldl add1 []).length < szMax) :
    ∃ b5 b6 b7 b8 b9 b10, exS tab (pg.run (n + 3)) (.for_ (.tp [5, 6]) (.items (.var 3)) outB) (en a0 (some (false, .lst (ss.map csD))) (some (false, csD w)) (some (b, .dic (enD F))) (some (true, .dic [])) a5 a6 a7 a8 a9 a10) S =
      .nx (en a0 (some (false, .lst (ss.map csD))) (some (false, csD w)) (some (false, .dic (enD F))) (some (true, .dic (enD (rnd w ss F)))) b5 b6 b7 b8 b9 b10) S := by
  let ds : List Mp.D := (enD F).map fun p => .tup [p.1, p.2]
  have at_i : ∀ {i : Nat} {d : Mp.D}, ds[i]? = some d → ∃ p, F[i]? = some p ∧ d = .tup [csD p.1, numD p.2] := fun {i d} h => by
    have h : (((F.map fun p => (csD p.1, numD p.2))).map fun p => Mp.D.tup [p.1, p.2])[i]? = some d := h
    rw [List.map_map, List.getElem?_map] at h
    cases hp : F[i]? with
    | none => rw [hp] at h; cases h
    | some p =>
      rw [hp] at h
      cases h
      exact ⟨p, rfl, rfl⟩
  have key := forL_inv (f := bodyF tab (pg.run (n + 3)) (.tp [5, 6]) outB) (fun i env S' => S' = S ∧ ∃ b5 b6 b7 b8 b9 b10, env = en a0 (some (false, .lst (ss.map csD))) (some (false, csD w)) (some (false, .dic (enD F))) (some (true, .dic (enD ((candT w ss F i).foldl add1 [])))) b5 b6 b7 b8 b9 b10)
    ds 0 (env := en a0 (some (false, .lst (ss.map csD))) (some (false, csD w)) (some (false, .dic (enD F))) (some (true, .dic [])) a5 a6 a7 a8 a9 a10) (S := S) ⟨rfl, a5, a6, a7, a8, a9, a10, rfl⟩ ?_
  · obtain ⟨env', S', e, rfl, b5, b6, b7, b8, b9, b10, rfl⟩ := key
    refine ⟨b5, b6, b7, b8, b9, b10, ?_⟩
    have z : 0 + ds.length = F.length := by
      show 0 + ((enD F).map fun p => Mp.D.tup [p.1, p.2]).length = _
      unfold enD
      simp
    rw [z] at e
    have fin : candT w ss F F.length = cands w ss F := by
      unfold candT
      rw [List.take_length]
    rw [fin] at e
    have hfr : freezeE (en a0 (some (false, .lst (ss.map csD))) (some (false, csD w)) (some (b, .dic (enD F))) (some (true, .dic [])) a5 a6 a7 a8 a9 a10) (escF (.items (.var 3))) = en a0 (some (false, .lst (ss.map csD))) (some (false, csD w)) (some (false, .dic (enD F))) (some (true, .dic [])) a5 a6 a7 a8 a9 a10 := by
      cases b <;> rfl
    rw [exS_for (ds := ds) (S1 := S') (by rw [hfr]; rfl), hfr]
    exact e
  · rintro i d env S' hd ⟨rfl, b5, b6, b7, b8, b9, b10, rfl⟩
    obtain ⟨p, hp, rfl⟩ := at_i hd
    rw [Nat.zero_add]
    have hm := List.mem_of_getElem? hp
    obtain ⟨q1, q2, q3, q4⟩ := hF p hm
    have sub : ∀ j, ∀ c ∈ candT w ss F i ++ (List.range j).filterMap (cand1 w ss p), j ≤ ss.length → c ∈ cands w ss F := fun j c hc hj => by
      unfold cands
      rw [List.mem_flatMap]
      rcases List.mem_append.mp hc with z | z
      · unfold candT cands at z
        rw [List.mem_flatMap] at z
        obtain ⟨x, hx, hc⟩ := z
        exact ⟨x, List.mem_of_mem_take hx, hc⟩
      · obtain ⟨k, hk, e⟩ := List.mem_filterMap.mp z
        exact ⟨p, hm, List.mem_filterMap.mpr ⟨k, List.mem_range.mpr (Nat.lt_of_lt_of_le (List.mem_range.mp hk) hj), e⟩⟩
    have run : ∀ j, runE w ss p ((candT w ss F i).foldl add1 []) j = (candT w ss F i ++ (List.range j).filterMap (cand1 w ss p)).foldl add1 [] := fun j => by
      rw [runE_any, List.foldl_append]
    obtain ⟨c7, c8, c9, c10, e⟩ := in_loop n w p.1 ss p.2 ((candT w ss F i).foldl add1 []) a0 (some (false, .dic (enD F))) b7 b8 b9 b10 S' hs hw q1 q2 q3 q4 (fun j hj => by
      show (runE w ss p _ j).length < szMax
      rw [run]
      exact hB _ fun c hc => sub j c hc hj)
    have next : runE w ss p ((candT w ss F i).foldl add1 []) ss.length = (candT w ss F (i + 1)).foldl add1 [] := by
      rw [run]
      unfold candT cands
      rw [List.take_succ, hp, List.flatMap_append]
      simp
    have e' : exS tab (pg.run (n + 3)) (.for_ (.tp [7, 8]) (.enum (.var 1)) inB) (en a0 (some (false, .lst (ss.map csD))) (some (false, csD w)) (some (false, .dic (enD F))) (some (true, .dic (enD ((candT w ss F i).foldl add1 [])))) (some (false, csD p.1)) (some (false, numD p.2)) b7 b8 b9 b10) S' =
      .nx (en a0 (some (false, .lst (ss.map csD))) (some (false, csD w)) (some (false, .dic (enD F))) (some (true, .dic (enD ((candT w ss F (i + 1)).foldl add1 [])))) (some (false, csD p.1)) (some (false, numD p.2)) c7 c8 c9 c10) S' := by
      rw [e]
      show Ro.nx (en a0 _ _ _ (some (true, .dic (enD (runE w ss p ((candT w ss F i).foldl add1 []) ss.length)))) _ _ _ _ _ _) S' = _
      rw [next]
    exact ⟨_, S', .inl (seq_step e' rfl), rfl, some (false, csD p.1), some (false, numD p.2), c7, c8, c9, c10, rfl⟩
end K28
set_option Elab.async false
set_option maxRecDepth 100000
set_option maxHeartbeats 4000000
/-! P28h: how many entries a round can have. -/
namespace K28
open Mp
theorem look_keys {L : List En} {C : List Ce} : look L C = none → C ∉ L.map (·.1) := fun h z => by
  obtain ⟨p, hp, rfl⟩ := List.mem_map.mp z
  induction L with
  | nil => cases hp
  | cons q r ih =>
    rw [look] at h
    split at h
    · cases h
    · rename_i ne
      rcases List.mem_cons.mp hp with rfl | hp
      · exact ne rfl
      · exact ih hp h (List.mem_map.mpr ⟨p, hp, rfl⟩)
theorem keys_put {L : List En} {C : List Ce} {m : List Nat} (h : (L.map (·.1)).Nodup) : ((putA L C m).map (·.1)).Nodup := by
  unfold putA
  split
  · rw [List.map_map]
    have e : (fun p : En => p.1) ∘ (fun p : En => if p.1 = C then (p.1, m) else p) = fun p => p.1 := by
      funext p
      show (if p.1 = C then (p.1, m) else p).1 = p.1
      split <;> rfl
    rw [e]
    exact h
  · rename_i hn
    rw [List.map_append, List.nodup_append]
    refine ⟨h, List.nodup_cons.mpr ⟨List.not_mem_nil, List.nodup_nil⟩, fun a ha b hb e => ?_⟩
    have hb : b ∈ [C] := hb
    rw [List.mem_singleton] at hb
    subst hb
    subst e
    exact look_keys (by simpa using hn) ha
theorem keys_add {L : List En} (c : En) (h : (L.map (·.1)).Nodup) : ((add1 L c).map (·.1)).Nodup := by
  unfold add1
  split
  · split
    · exact keys_put h
    · exact h
  · exact keys_put h
theorem keys_fold : ∀ (done L : List En), (L.map (·.1)).Nodup → ((done.foldl add1 L).map (·.1)).Nodup
  | [], _, h => h
  | c :: r, L, h => keys_fold r (add1 L c) (keys_add c h)
/-- a number for a list of numbers below four -/
def code (m : List Nat) : Nat := m.count 0 + 31 * m.count 1 + 961 * m.count 2 + 29791 * m.count 3
theorem code_lt {m : List Nat} (h : m.length ≤ 30) : code m < 923521 := by
  have c0 : m.count 0 ≤ m.length := List.count_le_length
  have c1 : m.count 1 ≤ m.length := List.count_le_length
  have c2 : m.count 2 ≤ m.length := List.count_le_length
  have c3 : m.count 3 ≤ m.length := List.count_le_length
  unfold code
  omega
theorem code_perm {a b : List Nat} (ha : a.length ≤ 30) (hb : b.length ≤ 30) (va : ∀ x ∈ a, x < 4) (vb : ∀ x ∈ b, x < 4) (h : code a = code b) : a.Perm b := by
  rw [List.perm_iff_count]
  have a0 : a.count 0 ≤ a.length := List.count_le_length
  have a1 : a.count 1 ≤ a.length := List.count_le_length
  have a2 : a.count 2 ≤ a.length := List.count_le_length
  have a3 : a.count 3 ≤ a.length := List.count_le_length
  have b0 : b.count 0 ≤ b.length := List.count_le_length
  have b1 : b.count 1 ≤ b.length := List.count_le_length
  have b2 : b.count 2 ≤ b.length := List.count_le_length
  have b3 : b.count 3 ≤ b.length := List.count_le_length
  unfold code at h
  intro x
  by_cases hx : x < 4
  · have : x = 0 ∨ x = 1 ∨ x = 2 ∨ x = 3 := by omega
    rcases this with rfl | rfl | rfl | rfl <;> omega
  · rw [List.count_eq_zero.mpr fun z => hx (va x z), List.count_eq_zero.mpr fun z => hx (vb x z)]
section
variable {w : List Ce} {ss : List (List Ce)}
theorem round_len (hs : Stk ss) (h4 : ss.length ≤ 4) {done : List En} (h : ∀ c ∈ done, c.2.length ≤ 30 ∧ Vd ss c.2 ∧ cs ss c.2 = c.1) : (done.foldl add1 []).length < szMax := by
  have nd : ((done.foldl add1 []).map (·.1)).Nodup := keys_fold done [] List.nodup_nil
  have ls := (Least.fold done [] [] (fun C => ⟨fun m h => (nomatch h), fun _ m2 h => (nomatch h)⟩) (fun p h => (nomatch h)))
  obtain ⟨le, kn⟩ := ls
  have mem : ∀ p ∈ done.foldl add1 [], p ∈ done := fun p hp => ((le p.1).1 p.2 (kn p hp)).1
  generalize done.foldl add1 [] = R at nd mem
  have cn : (R.map fun p => code p.2).Nodup := by
    rw [List.Nodup, List.pairwise_map] at nd ⊢
    refine nd.imp_of_mem fun {a b} ha hb ne e => ne ?_
    obtain ⟨a1, a2, a3⟩ := h a (mem a ha)
    obtain ⟨b1, b2, b3⟩ := h b (mem b hb)
    have := code_perm a1 b1 (fun x hx => Nat.lt_of_lt_of_le (a2 x hx) h4) (fun x hx => Nat.lt_of_lt_of_le (b2 x hx) h4) e
    exact a3.symm.trans ((cs_perm hs this a2).trans b3)
  have := cn.length_le_of_subset (l₂ := List.range 923521) fun x hx => by
    obtain ⟨p, hp, rfl⟩ := List.mem_map.mp hx
    exact List.mem_range.mpr (code_lt (h p (mem p hp)).1)
  rw [List.length_map, List.length_range] at this
  exact Nat.lt_of_le_of_lt this (by unfold szMax; omega)
/-- all candidates of a level -/
theorem cand_ok (hs : Stk ss) (hw : w.Pairwise ltC) (h0 : w ≠ []) (hl : w.length ≤ 30) {n : Nat} {L : List En} (v : Lv w ss n L) : ∀ c ∈ cands w ss L, c.2.length ≤ 30 ∧ Vd ss c.2 ∧ cs ss c.2 = c.1 := by
  rintro ⟨C, m⟩ hc
  obtain ⟨p, hp, k, hk, hC, hne, hsum, rfl⟩ := mem_cands.mp hc
  obtain ⟨C0, m0⟩ := p
  obtain ⟨b1, b2, b3, _⟩ := v.best C0 m0 (v.kn _ hp)
  subst b2
  have st := cs_step hs b1.vd hk
  have hC : corner (srt (prd (cs ss m0) (sh ss k))) = C := hC
  rw [st] at hC
  have vd1 : Vd ss (k :: m0) := fun x hx => (List.mem_cons.mp hx).elim (fun e => e ▸ hk) (b1.vd x)
  have le := onW_le hw (corner_asc _) h0 b3
  have ln : m0.length + 1 ≤ (cs ss m0).length := cs_len hs b1.vd b1.bg
  have le : (cs ss m0).length ≤ w.length := le
  refine ⟨?_, fun x hx => vd1 x ((insN_perm k m0).mem_iff.mp hx), (cs_ins hs b1.vd hk).trans hC⟩
  show (insN k m0).length ≤ 30
  rw [insN_len]
  omega
end
end K28
set_option Elab.async false
set_option maxRecDepth 100000
set_option maxHeartbeats 4000000
/-! P28i: the rounds, one after the other. -/
namespace K28
open PySem Mp
def gtE : Xp := .cmp .gt (.blt .len [.var 3]) (.lit (.int 0))
def whB : List Mp.St := [
  .ite (.cmp .in_ (.var 2) (.var 3)) [.ret (.ix (.var 3) (.var 2))] [],
  .asg 4 .dic0,
  .for_ (.tp [5, 6]) (.items (.var 3)) outB,
  .asg 3 (.var 4)]
theorem gt_ok (n : Nat) (L1 : List En) (b : Bool) (x0 x1 x2 a4 a5 a6 a7 a8 a9 a10 : Sl) (S : Sr) : evE tab (pg.run (n + 3)) gtE (en x0 x1 x2 (some (b, .dic (enD L1))) a4 a5 a6 a7 a8 a9 a10) S = .ok .fz (.bl (decide (L1 ≠ []))) S := by
  have h1 : evE tab (pg.run (n + 3)) gtE (en x0 x1 x2 (some (b, .dic (enD L1))) a4 a5 a6 a7 a8 a9 a10) S = okb (some (decide ((0 : Int) < ((enD L1).length : Int)))) S := by
    cases b <;> rfl
  rw [h1]
  have : decide ((0 : Int) < ((enD L1).length : Int)) = decide (L1 ≠ []) := by
    unfold enD
    rw [List.length_map]
    refine decide_eq_decide.mpr ⟨fun h z => ?_, fun h => ?_⟩
    · rw [z] at h
      simp at h
    · have := List.length_pos_iff.mpr h
      omega
  rw [this]
  rfl
theorem in_ok (n : Nat) (w : List Ce) (L1 : List En) (b : Bool) (x0 x1 a4 a5 a6 a7 a8 a9 a10 : Sl) (S : Sr) : evE tab (pg.run (n + 3)) (.cmp .in_ (.var 2) (.var 3)) (en x0 x1 (some (false, csD w)) (some (b, .dic (enD L1))) a4 a5 a6 a7 a8 a9 a10) S = .ok .fz (.bl (look L1 w).isSome) S := by
  have h1 : evE tab (pg.run (n + 3)) (.cmp .in_ (.var 2) (.var 3)) (en x0 x1 (some (false, csD w)) (some (b, .dic (enD L1))) a4 a5 a6 a7 a8 a9 a10) S = okb (match (csD w).nk with | some k => some (lookD (enD L1) k).isSome | none => none) S := by
    cases b <;> (rw [evE]; rfl)
  rw [h1, nk_cs]
  dsimp only
  rw [lookD_en]
  cases look L1 w <;> rfl
theorem ix_ok (n : Nat) (w : List Ce) (L1 : List En) (l : List Nat) (h : look L1 w = some l) (b : Bool) (x0 x1 a4 a5 a6 a7 a8 a9 a10 : Sl) (S : Sr) : evE tab (pg.run (n + 3)) (.ix (.var 3) (.var 2)) (en x0 x1 (some (false, csD w)) (some (b, .dic (enD L1))) a4 a5 a6 a7 a8 a9 a10) S = .ok .fz (numD l) S := by
  have h1 : evE tab (pg.run (n + 3)) (.ix (.var 3) (.var 2)) (en x0 x1 (some (false, csD w)) (some (b, .dic (enD L1))) a4 a5 a6 a7 a8 a9 a10) S = okd (match (csD w).nk with | some k => lookD (enD L1) k | none => none) S := by
    cases b <;> (rw [evE]; rfl)
  rw [h1, nk_cs]
  dsimp only
  rw [lookD_en, h]
  rfl
def outR (r : Option (List Nat)) (o : Ro) (S : Sr) : Ro := match r with | some l => .rt .fz (numD l) S | none => o
section
variable {w : List Ce} {ss : List (List Ce)}
theorem lv_hF (hs : Stk ss) (h12 : ∀ s ∈ ss, s.length ≤ 12) (hw : w.Pairwise ltC) (h0 : w ≠ []) (hl : w.length ≤ 30) {n : Nat} {L : List En} (v : Lv w ss n L) :
    ∀ p ∈ L, p.1 ≠ [] ∧ (∀ s ∈ ss, (prd p.1 s).length < 1199) ∧ p.2.Pairwise (· ≤ ·) ∧ p.2.length ≤ 900 := by
  rintro ⟨C, m⟩ hp
  obtain ⟨b1, b2, b3, _⟩ := v.best C m (v.kn _ hp)
  subst b2
  have le : (cs ss m).length ≤ w.length := onW_le hw (corner_asc _) h0 b3
  have ln : m.length + 1 ≤ (cs ss m).length := cs_len hs b1.vd b1.bg
  refine ⟨cs_ne hs b1.vd, fun s h => ?_, b1.asc, by show m.length ≤ 900; omega⟩
  have h12 := h12 s h
  show (prd (cs ss m) s).length < 1199
  have : (prd (cs ss m) s).length = (cs ss m).length * s.length := prd_len _ _
  rw [this]
  have := Nat.mul_le_mul (show (cs ss m).length ≤ 30 by omega) h12
  omega
theorem whl_srch (n : Nat) (a0 : Sl) (S : Sr) (hs : Stk ss) (h4 : ss.length ≤ 4) (h12 : ∀ s ∈ ss, s.length ≤ 12) (hw : w.Pairwise ltC) (h0 : w ≠ []) (hl : w.length ≤ 30) (r : Option (List Nat)) :
    ∀ (f k j : Nat) (L : List En) (b : Bool) (a4 a5 a6 a7 a8 a9 a10 : Sl), Lv w ss j L → srch w ss f L = some r → f ≤ k →
    ∃ b3 b4 b5 b6 b7 b8 b9 b10, whlL (fun env S => evE tab (pg.run (n + 3)) gtE env S) (fun env S => exL tab (pg.run (n + 3)) whB env S) k (en a0 (some (false, .lst (ss.map csD))) (some (false, csD w)) (some (b, .dic (enD L))) a4 a5 a6 a7 a8 a9 a10) S =
      outR r (.nx (en a0 (some (false, .lst (ss.map csD))) (some (false, csD w)) b3 b4 b5 b6 b7 b8 b9 b10) S) S
  | 0, _, _, L, _, _, _, _, _, _, _, _, _, h, _ => by cases h
  | f + 1, 0, _, _, _, _, _, _, _, _, _, _, _, _, hk => by omega
  | f + 1, k + 1, j, [], b, a4, a5, a6, a7, a8, a9, a10, v, h, hk => by
    rw [srch, if_pos rfl] at h
    cases h
    refine ⟨some (b, .dic (enD [])), a4, a5, a6, a7, a8, a9, a10, ?_⟩
    rw [whlL]
    have c1 := gt_ok n [] b a0 (some (false, .lst (ss.map csD))) (some (false, csD w)) a4 a5 a6 a7 a8 a9 a10 S
    rw [c1]
    rfl
  | f + 1, k + 1, j, p :: L, b, a4, a5, a6, a7, a8, a9, a10, v, h, hk => by
    rw [srch, if_neg (by simp)] at h
    generalize hL : p :: L = L1 at v h
    have hne : L1 ≠ [] := by rw [← hL]; simp
    rw [whlL]
    let E : Mp.Env := en a0 (some (false, .lst (ss.map csD))) (some (false, csD w)) (some (b, .dic (enD L1))) a4 a5 a6 a7 a8 a9 a10
    have c1 : evE tab (pg.run (n + 3)) gtE E S = .ok .fz (.bl true) S := by
      have := gt_ok n L1 b a0 (some (false, .lst (ss.map csD))) (some (false, csD w)) a4 a5 a6 a7 a8 a9 a10 S
      rw [decide_eq_true hne] at this
      exact this
    have ci : evE tab (pg.run (n + 3)) (.cmp .in_ (.var 2) (.var 3)) E S = .ok .fz (.bl (look L1 w).isSome) S := in_ok n w L1 b _ _ _ _ _ _ _ _ _ S
    have i1 : exS tab (pg.run (n + 3)) (.ite (.cmp .in_ (.var 2) (.var 3)) [.ret (.ix (.var 3) (.var 2))] []) E S = if (look L1 w).isSome = true then exL tab (pg.run (n + 3)) [.ret (.ix (.var 3) (.var 2))] E S else exL tab (pg.run (n + 3)) [] E S := by
      rw [exS]
      show (match evE tab (pg.run (n + 3)) (.cmp .in_ (.var 2) (.var 3)) E S with
        | .ok _ (.bl true) S => exL tab (pg.run (n + 3)) [.ret (.ix (.var 3) (.var 2))] E S
        | .ok _ (.bl false) S => exL tab (pg.run (n + 3)) [] E S
        | .exc x S => .ex x E S
        | _ => .bad) = _
      rw [ci]
      cases look L1 w <;> rfl
    cases hk2 : look L1 w with
    | some l =>
      rw [hk2] at h i1
      cases h
      refine ⟨none, none, none, none, none, none, none, none, ?_⟩
      have b1 : exL tab (pg.run (n + 3)) whB E S = .rt .fz (numD l) S := by
        refine seq_rt ?_
        rw [i1, if_pos (show (some l).isSome = true from rfl)]
        refine seq_rt ?_
        rw [exS]
        rotate_left
        · intro i z
          cases z
        have cx : evE tab (pg.run (n + 3)) (.ix (.var 3) (.var 2)) E S = .ok .fz (numD l) S := ix_ok n w L1 l hk2 b _ _ _ _ _ _ _ _ _ S
        show (evE tab (pg.run (n + 3)) (.ix (.var 3) (.var 2)) E S).keep _ _ = _
        rw [cx]
        rfl
      show (match evE tab (pg.run (n + 3)) gtE E S with
        | .ok _ (.bl true) S => _
        | .ok _ (.bl false) S => _
        | .exc x S => _
        | _ => _) = _
      rw [c1]
      dsimp only
      rw [b1]
      rfl
    | none =>
      rw [hk2] at h i1
      have h : srch w ss f (rnd w ss L1) = some r := h
      obtain ⟨b5, b6, b7, b8, b9, b10, eo⟩ := out_loop n w ss L1 a0 b a5 a6 a7 a8 a9 a10 S hs hl (lv_hF hs h12 hw h0 hl v) fun done hd => round_len hs h4 fun c hc => cand_ok hs hw h0 hl v c (hd c hc)
      have b1 : exL tab (pg.run (n + 3)) whB E S = .nx (en a0 (some (false, .lst (ss.map csD))) (some (false, csD w)) (some (false, .dic (enD (rnd w ss L1)))) (some (false, .dic (enD (rnd w ss L1)))) b5 b6 b7 b8 b9 b10) S := by
        refine seq_step (env' := E) (S' := S) (i1.trans (if_neg (by simp))) ?_
        refine seq_step (env' := en a0 (some (false, .lst (ss.map csD))) (some (false, csD w)) (some (b, .dic (enD L1))) (some (true, .dic [])) a5 a6 a7 a8 a9 a10) (S' := S) rfl ?_
        exact seq_step eo rfl
      obtain ⟨c3, c4, c5, c6, c7, c8, c9, c10, e⟩ := whl_srch n a0 S hs h4 h12 hw h0 hl r f k (j + 1) (rnd w ss L1) false (some (false, .dic (enD (rnd w ss L1)))) b5 b6 b7 b8 b9 b10 (v.step hs hw h0) h (by omega)
      refine ⟨c3, c4, c5, c6, c7, c8, c9, c10, ?_⟩
      show (match evE tab (pg.run (n + 3)) gtE E S with
        | .ok _ (.bl true) S => _
        | .ok _ (.bl false) S => _
        | .exc x S => _
        | _ => _) = _
      rw [c1]
      dsimp only
      rw [b1]
      exact e
end
end K28
set_option Elab.async false
set_option maxRecDepth 100000
set_option maxHeartbeats 4000000
/-! P28j: fewest_sums. -/
namespace K28
open PySem Mp
theorem b_fs_eq : b_fewest_sums = [
  .exp (.call "check_figure" [.var 0]),
  .exp (.call "check_stock" [.var 1]),
  .asg 2 (.call "at_corner" [.var 0]),
  .asg 3 (.dic1 (.tup [.tup [.lit (.int 0), .lit (.int 0)]]) (.lst [])),
  .whl (.cmp .gt (.blt .len [.var 3]) (.lit (.int 0))) whB,
  .ret (.lit .non)] := rfl
theorem fs_figure (n : Nat) (d s : Mp.D) (S : Sr) (h : d.ok 32 = true ∨ d = .dct []) (hf : isTab 30 60 d = false) : pg.run (n + 5) "fewest_sums" [d, s] S = .exc (.exc "InvalidFigure" []) S := by
  have e := check_figure n d S h
  rw [hf] at e
  rw [r_fewest_sums, b_fs_eq, exL]
  have e1 : evE tab (pg.run (n + 4)) (.call "check_figure" [.var 0]) [some (false, d), some (false, s), none, none, none, none, none, none, none, none, none] S = .exc (.exc "InvalidFigure" []) S := (ev_call1 (m := .fz) rfl (by decide)).trans e
  rw [exS]
  show endR (((evE tab (pg.run (n + 4)) (.call "check_figure" [.var 0]) [some (false, d), some (false, s), none, none, none, none, none, none, none, none, none] S).keep _ _).seq _) = _
  rw [e1]
  rfl
theorem pre (n : Nat) (d s : Mp.D) (S : Sr) (h : d.ok 32 = true) (hf : isTab 30 60 d = true) : exS tab (pg.run (n + 4)) (.exp (.call "check_figure" [.var 0])) [some (false, d), some (false, s), none, none, none, none, none, none, none, none, none] S = .nx [some (false, d), some (false, s), none, none, none, none, none, none, none, none, none] S := by
  have e := check_figure n d S (.inl h)
  rw [hf] at e
  have e1 : evE tab (pg.run (n + 4)) (.call "check_figure" [.var 0]) [some (false, d), some (false, s), none, none, none, none, none, none, none, none, none] S = .ok .fz .non S := (ev_call1 (m := .fz) rfl (by decide)).trans e
  rw [exS]
  show (evE tab (pg.run (n + 4)) (.call "check_figure" [.var 0]) [some (false, d), some (false, s), none, none, none, none, none, none, none, none, none] S).keep _ _ = _
  rw [e1]
  rfl
theorem fs_good (n : Nat) (f : List Ce) (ss : List (List Ce)) (S : Sr) (hf : isTab 30 60 (csD f) = true) (hs : isSto (.lst (ss.map csD)) = true) (f0 : f ≠ []) (nd : f.Nodup) (fl : f.length ≤ 30)
    (sk : Stk ss) (h4 : ss.length ≤ 4) (h12 : ∀ s ∈ ss, s.length ≤ 12) : ∃ r, Full (corner f) ss r ∧ pg.run (n + 6) "fewest_sums" [csD f, .lst (ss.map csD)] S = .ok .fz (match r with | some l => numD l | none => .non) S := by
  have okf : (csD f).ok 32 = true := ok_csD 30 f
  have oks : (Mp.D.lst (ss.map csD)).ok 33 = true := by
    show D.oks (ss.map csD) 32 = true
    have : ∀ l : List (List Ce), D.oks (l.map csD) 32 = true := by
      intro l
      induction l with
      | nil => rfl
      | cons a l ih => rw [List.map_cons, D.oks, ih, ok_csD]; rfl
    exact this ss
  have e1 := check_stock n (.lst (ss.map csD)) S (.inl oks)
  rw [hs] at e1
  have lz : f.length ≤ szMax := Nat.le_trans fl (by decide)
  have e2 := at_corner (n + 4) (csD f) f S (.inl rfl) f0 nd lz
  have wl : (corner f).length ≤ 30 := by
    have h1 : (corner f).length ≤ (f.map fun c => subC c (mnL (f.map (·.1)), mnL (f.map (·.2)))).length := by
      refine (asc_nodup (srt_asc _)).length_le_of_subset ?_
      intro c hc
      exact mem_srt.mp hc
    rw [List.length_map] at h1
    omega
  have wa := corner_asc f
  have wn := corner_ne f0
  generalize hW : corner f = w at e2 wl wa wn
  let F : Mp.D := csD f
  let T : Mp.D := .lst (ss.map csD)
  have s2 : exS tab (pg.run (n + 5)) (.exp (.call "check_stock" [.var 1])) (en (some (false, F)) (some (false, T)) none none none none none none none none none) S = .nx (en (some (false, F)) (some (false, T)) none none none none none none none none none) S := by
    have c1 : evE tab (pg.run (n + 5)) (.call "check_stock" [.var 1]) (en (some (false, F)) (some (false, T)) none none none none none none none none none) S = .ok .fz .non S := (ev_call1 (m := .fz) rfl (by decide)).trans e1
    rw [exS]
    show (evE tab (pg.run (n + 5)) (.call "check_stock" [.var 1]) (en (some (false, F)) (some (false, T)) none none none none none none none none none) S).keep _ _ = _
    rw [c1]
    rfl
  have s3 : exS tab (pg.run (n + 5)) (.asg 2 (.call "at_corner" [.var 0])) (en (some (false, F)) (some (false, T)) none none none none none none none none none) S = .nx (en (some (false, F)) (some (false, T)) (some (false, csD w)) none none none none none none none none) S := by
    have c1 : evE tab (pg.run (n + 5)) (.call "at_corner" [.var 0]) (en (some (false, F)) (some (false, T)) none none none none none none none none none) S = .ok .fz (csD w) S := (ev_call1 (m := .fz) rfl (by decide)).trans e2
    rw [exS]
    show (evE tab (pg.run (n + 5)) (.call "at_corner" [.var 0]) (en (some (false, F)) (some (false, T)) none none none none none none none none none) S).keep _ _ = _
    rw [c1]
    rfl
  have s4 : exS tab (pg.run (n + 5)) (.asg 3 (.dic1 (.tup [.tup [.lit (.int 0), .lit (.int 0)]]) (.lst []))) (en (some (false, F)) (some (false, T)) (some (false, csD w)) none none none none none none none none) S =
      .nx (en (some (false, F)) (some (false, T)) (some (false, csD w)) (some (true, .dic [(csD [(0, 0)], .lst [])])) none none none none none none none) S := by
    have c1 : evE tab (pg.run (n + 5)) (.dic1 (.tup [.tup [.lit (.int 0), .lit (.int 0)]]) (.lst [])) (en (some (false, F)) (some (false, T)) (some (false, csD w)) none none none none none none none none) S = .ok .fr (.dic [(csD [(0, 0)], .lst [])]) S := by
      rw [evE]
      show (if (csD [(0, 0)]).nk.isSome = true then R.ok .fr (.dic [(csD [(0, 0)], .lst [])]) S else .bad) = _
      rw [nk_cs]
      rfl
    rw [exS]
    show (evE tab (pg.run (n + 5)) (.dic1 (.tup [.tup [.lit (.int 0), .lit (.int 0)]]) (.lst [])) (en (some (false, F)) (some (false, T)) (some (false, csD w)) none none none none none none none none) S).keep _ _ = _
    rw [c1]
    rfl
  obtain ⟨r, hr, full⟩ := fewest_full (f := w.length + 1) sk wa wn (Nat.le_refl _)
  refine ⟨r, full, ?_⟩
  have wf : tab.wh = 1000000 := rfl
  obtain ⟨b3, b4, b5, b6, b7, b8, b9, b10, ew⟩ := whl_srch (n + 2) (some (false, F)) S sk h4 h12 wa wn wl r (w.length + 1) 1000000 0 L0 true none none none none none none none (Lv.zero sk (on_zero w)) hr (by omega)
  have ew : exS tab (pg.run (n + 5)) (.whl (.cmp .gt (.blt .len [.var 3]) (.lit (.int 0))) whB) (en (some (false, F)) (some (false, T)) (some (false, csD w)) (some (true, .dic [(csD [(0, 0)], .lst [])])) none none none none none none none) S = outR r (.nx (en (some (false, F)) (some (false, T)) (some (false, csD w)) b3 b4 b5 b6 b7 b8 b9 b10) S) S := by
    rw [exS, wf]
    exact ew
  rw [r_fewest_sums, b_fs_eq]
  have start : exL tab (pg.run (n + 5)) [
      .exp (.call "check_figure" [.var 0]),
      .exp (.call "check_stock" [.var 1]),
      .asg 2 (.call "at_corner" [.var 0]),
      .asg 3 (.dic1 (.tup [.tup [.lit (.int 0), .lit (.int 0)]]) (.lst [])),
      .whl (.cmp .gt (.blt .len [.var 3]) (.lit (.int 0))) whB,
      .ret (.lit .non)] (en (some (false, F)) (some (false, T)) none none none none none none none none none) S = (outR r (.nx (en (some (false, F)) (some (false, T)) (some (false, csD w)) b3 b4 b5 b6 b7 b8 b9 b10) S) S).seq fun env S => exL tab (pg.run (n + 5)) [.ret (.lit .non)] env S := by
    refine seq_step (pre (n + 1) F T S okf hf) (seq_step s2 (seq_step s3 (seq_step s4 ?_)))
    rw [exL, ew]
  show endR (exL tab (pg.run (n + 5)) _ (en (some (false, F)) (some (false, T)) none none none none none none none none none) S) = _
  rw [start]
  cases r with
  | none => rfl
  | some l => rfl
end K28
set_option Elab.async false
set_option maxRecDepth 100000
set_option maxHeartbeats 4000000
/-! P28k: the law's corner. -/
namespace K28
open PySem Mp
theorem law_corner (n : Nat) (v : Mp.D) (cs : List Ce) (S : Sr) (hv : holds v cs) (h0 : cs ≠ []) (nd : cs.Nodup) (hl : cs.length ≤ szMax) : pg.run (n + 1) "_law_corner" [v] S = .ok .fz (csD (corner cs)) S := by
  have hx : (cs.map (·.1) : List Int) ≠ [] := fun z => h0 (List.map_eq_nil_iff.mp z)
  have hy : (cs.map (·.2) : List Int) ≠ [] := fun z => h0 (List.map_eq_nil_iff.mp z)
  have e1 : ∀ env : Mp.Env, env[0]? = some (some (false, v)) → env.length = 6 → evE tab (pg.run n) (.comp [3] (.nm 3) (.ov (.var 0)) [] (.ix (.var 3) (.lit (.int 0)))) env S = .ok .fr (.lst ((cs.map (·.1)).map .int)) S := by
    intro env he hlen
    rcases env with _ | ⟨a, _ | ⟨b, _ | ⟨c, _ | ⟨d, _ | ⟨e, _ | ⟨f, _ | ⟨g, r⟩⟩⟩⟩⟩⟩⟩ <;> simp at hlen
    simp at he
    subst he
    rcases hv with rfl | rfl
    · unfold csD
      simp [exL, exS, evE, evEs, evB, evBs, evO, evI, evT, R.b, R.i, Rl.b, Ri.b, R.keep, Ro.seq, endR, okb, okd, freeze_no, no_nil, no_fz, no_no, deq_int, md1, md2, md3, at0, at1, at2, isiD, D.items, b_len_l, b_len_t, b_tup_l, b_tup_t, b_lst_l, b_lst_t, b_int, b_abs, b_add, b_sub, c_lt, c_le, c_gt, c_ge, c_eqi, c_nei, c_is, c_isn, i_lst, i_tup, List.getElem?_cons_zero, List.getElem?_cons_succ, List.set_cons_zero, List.set_cons_succ, wipeE, tgD]
      rw [compL_of (f := cD) (g := fun c => some (.int c.1)) ?g]
      case g =>
        intro c hc
        unfold cD
        simp [exL, exS, evE, evEs, evB, evBs, evO, evI, evT, R.b, R.i, Rl.b, Ri.b, R.keep, Ro.seq, endR, okb, okd, freeze_no, no_nil, no_fz, no_no, deq_int, md1, md2, md3, at0, at1, at2, isiD, D.items, b_len_l, b_len_t, b_tup_l, b_tup_t, b_lst_l, b_lst_t, b_int, b_abs, b_add, b_sub, c_lt, c_le, c_gt, c_ge, c_eqi, c_nei, c_is, c_isn, i_lst, i_tup, List.getElem?_cons_zero, List.getElem?_cons_succ, List.set_cons_zero, List.set_cons_succ, wipeE, tgD]
      simp
    · simp [exL, exS, evE, evEs, evB, evBs, evO, evI, evT, R.b, R.i, Rl.b, Ri.b, R.keep, Ro.seq, endR, okb, okd, freeze_no, no_nil, no_fz, no_no, deq_int, md1, md2, md3, at0, at1, at2, isiD, D.items, b_len_l, b_len_t, b_tup_l, b_tup_t, b_lst_l, b_lst_t, b_int, b_abs, b_add, b_sub, c_lt, c_le, c_gt, c_ge, c_eqi, c_nei, c_is, c_isn, i_lst, i_tup, List.getElem?_cons_zero, List.getElem?_cons_succ, List.set_cons_zero, List.set_cons_succ, wipeE, tgD]
      rw [compL_of (f := cD) (g := fun c => some (.int c.1)) ?g2]
      case g2 =>
        intro c hc
        unfold cD
        simp [exL, exS, evE, evEs, evB, evBs, evO, evI, evT, R.b, R.i, Rl.b, Ri.b, R.keep, Ro.seq, endR, okb, okd, freeze_no, no_nil, no_fz, no_no, deq_int, md1, md2, md3, at0, at1, at2, isiD, D.items, b_len_l, b_len_t, b_tup_l, b_tup_t, b_lst_l, b_lst_t, b_int, b_abs, b_add, b_sub, c_lt, c_le, c_gt, c_ge, c_eqi, c_nei, c_is, c_isn, i_lst, i_tup, List.getElem?_cons_zero, List.getElem?_cons_succ, List.set_cons_zero, List.set_cons_succ, wipeE, tgD]
      simp
  have e2 : ∀ env : Mp.Env, env[0]? = some (some (false, v)) → env.length = 6 → evE tab (pg.run n) (.comp [3] (.nm 3) (.ov (.var 0)) [] (.ix (.var 3) (.lit (.int 1)))) env S = .ok .fr (.lst ((cs.map (·.2)).map .int)) S := by
    intro env he hlen
    rcases env with _ | ⟨a, _ | ⟨b, _ | ⟨c, _ | ⟨d, _ | ⟨e, _ | ⟨f, _ | ⟨g, r⟩⟩⟩⟩⟩⟩⟩ <;> simp at hlen
    simp at he
    subst he
    rcases hv with rfl | rfl
    · unfold csD
      simp [exL, exS, evE, evEs, evB, evBs, evO, evI, evT, R.b, R.i, Rl.b, Ri.b, R.keep, Ro.seq, endR, okb, okd, freeze_no, no_nil, no_fz, no_no, deq_int, md1, md2, md3, at0, at1, at2, isiD, D.items, b_len_l, b_len_t, b_tup_l, b_tup_t, b_lst_l, b_lst_t, b_int, b_abs, b_add, b_sub, c_lt, c_le, c_gt, c_ge, c_eqi, c_nei, c_is, c_isn, i_lst, i_tup, List.getElem?_cons_zero, List.getElem?_cons_succ, List.set_cons_zero, List.set_cons_succ, wipeE, tgD]
      rw [compL_of (f := cD) (g := fun c => some (.int c.2)) ?g]
      case g =>
        intro c hc
        unfold cD
        simp [exL, exS, evE, evEs, evB, evBs, evO, evI, evT, R.b, R.i, Rl.b, Ri.b, R.keep, Ro.seq, endR, okb, okd, freeze_no, no_nil, no_fz, no_no, deq_int, md1, md2, md3, at0, at1, at2, isiD, D.items, b_len_l, b_len_t, b_tup_l, b_tup_t, b_lst_l, b_lst_t, b_int, b_abs, b_add, b_sub, c_lt, c_le, c_gt, c_ge, c_eqi, c_nei, c_is, c_isn, i_lst, i_tup, List.getElem?_cons_zero, List.getElem?_cons_succ, List.set_cons_zero, List.set_cons_succ, wipeE, tgD]
      simp
    · simp [exL, exS, evE, evEs, evB, evBs, evO, evI, evT, R.b, R.i, Rl.b, Ri.b, R.keep, Ro.seq, endR, okb, okd, freeze_no, no_nil, no_fz, no_no, deq_int, md1, md2, md3, at0, at1, at2, isiD, D.items, b_len_l, b_len_t, b_tup_l, b_tup_t, b_lst_l, b_lst_t, b_int, b_abs, b_add, b_sub, c_lt, c_le, c_gt, c_ge, c_eqi, c_nei, c_is, c_isn, i_lst, i_tup, List.getElem?_cons_zero, List.getElem?_cons_succ, List.set_cons_zero, List.set_cons_succ, wipeE, tgD]
      rw [compL_of (f := cD) (g := fun c => some (.int c.2)) ?g2]
      case g2 =>
        intro c hc
        unfold cD
        simp [exL, exS, evE, evEs, evB, evBs, evO, evI, evT, R.b, R.i, Rl.b, Ri.b, R.keep, Ro.seq, endR, okb, okd, freeze_no, no_nil, no_fz, no_no, deq_int, md1, md2, md3, at0, at1, at2, isiD, D.items, b_len_l, b_len_t, b_tup_l, b_tup_t, b_lst_l, b_lst_t, b_int, b_abs, b_add, b_sub, c_lt, c_le, c_gt, c_ge, c_eqi, c_nei, c_is, c_isn, i_lst, i_tup, List.getElem?_cons_zero, List.getElem?_cons_succ, List.set_cons_zero, List.set_cons_succ, wipeE, tgD]
      simp
  let m : Ce := (mnL (cs.map (·.1)), mnL (cs.map (·.2)))
  have e3 : evE tab (pg.run n) (.comp [4, 5] (.tp [4, 5]) (.ov (.var 0)) [] (.tup [.bin .sub (.var 4) (.var 1), .bin .sub (.var 5) (.var 2)])) [some (false, v), some (false, .int m.1), some (false, .int m.2), none, none, none] S =
      .ok .fr (.lst ((cs.map fun c => subC c m).map cD)) S := by
    rcases hv with rfl | rfl
    · unfold csD
      simp [exL, exS, evE, evEs, evB, evBs, evO, evI, evT, R.b, R.i, Rl.b, Ri.b, R.keep, Ro.seq, endR, okb, okd, freeze_no, no_nil, no_fz, no_no, deq_int, md1, md2, md3, at0, at1, at2, isiD, D.items, b_len_l, b_len_t, b_tup_l, b_tup_t, b_lst_l, b_lst_t, b_int, b_abs, b_add, b_sub, c_lt, c_le, c_gt, c_ge, c_eqi, c_nei, c_is, c_isn, i_lst, i_tup, List.getElem?_cons_zero, List.getElem?_cons_succ, List.set_cons_zero, List.set_cons_succ, wipeE, tgD]
      rw [compL_of (f := cD) (g := fun c => some (cD (subC c m))) ?g]
      case g =>
        intro c hc
        unfold cD subC
        simp [exL, exS, evE, evEs, evB, evBs, evO, evI, evT, R.b, R.i, Rl.b, Ri.b, R.keep, Ro.seq, endR, okb, okd, freeze_no, no_nil, no_fz, no_no, deq_int, md1, md2, md3, at0, at1, at2, isiD, D.items, b_len_l, b_len_t, b_tup_l, b_tup_t, b_lst_l, b_lst_t, b_int, b_abs, b_add, b_sub, c_lt, c_le, c_gt, c_ge, c_eqi, c_nei, c_is, c_isn, i_lst, i_tup, List.getElem?_cons_zero, List.getElem?_cons_succ, List.set_cons_zero, List.set_cons_succ, wipeE, tgD]
      simp
    · simp [exL, exS, evE, evEs, evB, evBs, evO, evI, evT, R.b, R.i, Rl.b, Ri.b, R.keep, Ro.seq, endR, okb, okd, freeze_no, no_nil, no_fz, no_no, deq_int, md1, md2, md3, at0, at1, at2, isiD, D.items, b_len_l, b_len_t, b_tup_l, b_tup_t, b_lst_l, b_lst_t, b_int, b_abs, b_add, b_sub, c_lt, c_le, c_gt, c_ge, c_eqi, c_nei, c_is, c_isn, i_lst, i_tup, List.getElem?_cons_zero, List.getElem?_cons_succ, List.set_cons_zero, List.set_cons_succ, wipeE, tgD]
      rw [compL_of (f := cD) (g := fun c => some (cD (subC c m))) ?g2]
      case g2 =>
        intro c hc
        unfold cD subC
        simp [exL, exS, evE, evEs, evB, evBs, evO, evI, evT, R.b, R.i, Rl.b, Ri.b, R.keep, Ro.seq, endR, okb, okd, freeze_no, no_nil, no_fz, no_no, deq_int, md1, md2, md3, at0, at1, at2, isiD, D.items, b_len_l, b_len_t, b_tup_l, b_tup_t, b_lst_l, b_lst_t, b_int, b_abs, b_add, b_sub, c_lt, c_le, c_gt, c_ge, c_eqi, c_nei, c_is, c_isn, i_lst, i_tup, List.getElem?_cons_zero, List.getElem?_cons_succ, List.set_cons_zero, List.set_cons_succ, wipeE, tgD]
      simp
  have nd2 : (cs.map fun c => subC c m).Nodup := by
    refine List.Pairwise.map _ (fun a b hab z => hab ?_) nd
    obtain ⟨a1, a2⟩ := a
    obtain ⟨b1, b2⟩ := b
    unfold subC at z
    simp only [Prod.mk.injEq] at z ⊢
    omega
  have es := sort_cs nd2 (by rw [List.length_map]; exact hl)
  rw [r__law_corner]
  have hb : b__law_corner = [.asgT (.tp [1, 2]) (.tup [.blt .min [.comp [3] (.nm 3) (.ov (.var 0)) [] (.ix (.var 3) (.lit (.int 0)))], .blt .min [.comp [3] (.nm 3) (.ov (.var 0)) [] (.ix (.var 3) (.lit (.int 1)))]]),
    .ret (.blt .tuple [.blt .sorted [.comp [4, 5] (.tp [4, 5]) (.ov (.var 0)) [] (.tup [.bin .sub (.var 4) (.var 1), .bin .sub (.var 5) (.var 2)])]])] := rfl
  rw [hb, exL_cons]
  have s1 : exS tab (pg.run n) (.asgT (.tp [1, 2]) (.tup [.blt .min [.comp [3] (.nm 3) (.ov (.var 0)) [] (.ix (.var 3) (.lit (.int 0)))], .blt .min [.comp [3] (.nm 3) (.ov (.var 0)) [] (.ix (.var 3) (.lit (.int 1)))]])) [some (false, v), none, none, none, none, none] S =
      .nx [some (false, v), some (false, .int m.1), some (false, .int m.2), none, none, none] S := by
    have e1' := e1 [some (false, v), none, none, none, none, none] rfl rfl
    have e2' := e2 [some (false, v), none, none, none, none, none] rfl rfl
    rw [exS]
    have ef : freezeE [some (false, v), none, none, none, none, none] (esc (.tup [.blt .min [.comp [3] (.nm 3) (.ov (.var 0)) [] (.ix (.var 3) (.lit (.int 0)))], .blt .min [.comp [3] (.nm 3) (.ov (.var 0)) [] (.ix (.var 3) (.lit (.int 1)))]])) = [some (false, v), none, none, none, none, none] := rfl
    have f1 : evE tab (pg.run n) (.blt .min [.comp [3] (.nm 3) (.ov (.var 0)) [] (.ix (.var 3) (.lit (.int 0)))]) [some (false, v), none, none, none, none, none] S = .ok .fz (.int m.1) S := by
      rw [evE, evBs.eq_def]
      dsimp only
      rw [e1']
      exact b_min hx
    have f2 : evE tab (pg.run n) (.blt .min [.comp [3] (.nm 3) (.ov (.var 0)) [] (.ix (.var 3) (.lit (.int 1)))]) [some (false, v), none, none, none, none, none] S = .ok .fz (.int m.2) S := by
      rw [evE, evBs.eq_def]
      dsimp only
      rw [e2']
      exact b_min hy
    rw [ef, evE, evEs.eq_def]
    dsimp only
    rw [f1]
    dsimp only
    rw [evEs.eq_def]
    dsimp only
    rw [f2]
    rfl
  rw [s1]
  show endR (exL tab (pg.run n) [.ret (.blt .tuple [.blt .sorted [.comp [4, 5] (.tp [4, 5]) (.ov (.var 0)) [] (.tup [.bin .sub (.var 4) (.var 1), .bin .sub (.var 5) (.var 2)])]])] [some (false, v), some (false, .int m.1), some (false, .int m.2), none, none, none] S) = _
  rw [exL_cons, exS]
  · have ef : freezeE [some (false, v), some (false, .int m.1), some (false, .int m.2), none, none, none] (esc (.blt .tuple [.blt .sorted [.comp [4, 5] (.tp [4, 5]) (.ov (.var 0)) [] (.tup [.bin .sub (.var 4) (.var 1), .bin .sub (.var 5) (.var 2)])]])) = [some (false, v), some (false, .int m.1), some (false, .int m.2), none, none, none] := rfl
    have f3 : evE tab (pg.run n) (.blt .sorted [.comp [4, 5] (.tp [4, 5]) (.ov (.var 0)) [] (.tup [.bin .sub (.var 4) (.var 1), .bin .sub (.var 5) (.var 2)])]) [some (false, v), some (false, .int m.1), some (false, .int m.2), none, none, none] S = .ok .fr (.lst ((corner cs).map cD)) S := by
      rw [evE, evBs.eq_def]
      dsimp only
      rw [e3]
      exact b_sort es
    rw [ef, evE, evBs.eq_def]
    dsimp only
    rw [f3]
    rfl
  · intro i z
    cases z
end K28
set_option Elab.async false
set_option maxRecDepth 100000
set_option maxHeartbeats 4000000
/-! P28q: the law's sum, in plain. -/
namespace K28
open Mp
def lsumA (ss : List (List Ce)) (A : List Ce) (l : List Nat) : List Ce := l.foldl (fun A k => srt (prd A (sh ss k))) A
theorem mem_lsumA (ss : List (List Ce)) : ∀ (l : List Nat) (A : List Ce) (c : Ce), c ∈ lsumA ss A l ↔ c ∈ prd A (tot ss l)
  | [], A, c => by
    show c ∈ A ↔ c ∈ prd A [(0, 0)]
    rw [mem_prd]
    constructor
    · intro h
      exact ⟨c, h, (0, 0), List.mem_singleton.mpr rfl, add_zero c⟩
    · rintro ⟨p, hp, q, hq, rfl⟩
      rw [List.mem_singleton.mp hq, add_zero]
      exact hp
  | k :: r, A, c => by
    show c ∈ lsumA ss (srt (prd A (sh ss k))) r ↔ _
    rw [mem_lsumA ss r]
    have h1 : c ∈ prd (srt (prd A (sh ss k))) (tot ss r) ↔ c ∈ prd (prd A (sh ss k)) (tot ss r) := prd_same (fun _ => mem_srt) (fun _ => Iff.rfl)
    rw [h1, prd_ass]
    exact prd_same (fun _ => Iff.rfl) (fun _ => prd_com)
def lsum (ss : List (List Ce)) (l : List Nat) : List Ce := lsumA ss [(0, 0)] l
theorem mem_lsum (ss : List (List Ce)) (l : List Nat) (c : Ce) : c ∈ lsum ss l ↔ c ∈ tot ss l := by
  unfold lsum
  rw [mem_lsumA, prd_com]
  exact (mem_lsumA ss [] (tot ss l) c).symm
theorem corner_lsum {ss : List (List Ce)} (hs : Stk ss) {l : List Nat} (v : Vd ss l) : corner (lsum ss l) = cs ss l := (corner_eq (tot_ne hs v) (.of fun c => mem_lsum ss l c)).symm
end K28
set_option Elab.async false
set_option maxRecDepth 100000
set_option maxHeartbeats 4000000
/-! P28r: the law's shapes. -/
namespace K28
open PySem Mp
theorem draw (n : Nat) {k : Nat} {S : Sr} (h : Dr (k + 1) S) {L : Int} (h0 : 0 < L) (h1 : L < 2 ^ 64) : ∃ v S', pg.run (n + 1) "_law_draw" [.src, .int L] S = .ok .fz (.int v) S' ∧ 0 ≤ v ∧ v < L ∧ Dr k S' := by
  rw [r__law_draw]
  exact draw_some h h0 h1
def Bd (f : Int) (c : Ce) : Prop := -f ≤ c.1 ∧ c.1 ≤ f ∧ -f ≤ c.2 ∧ c.2 ≤ f
def wide : Xp := .bin .add (.bin .mul (.lit (.int 2)) (.var 2)) (.lit (.int 1))
def shB : List Mp.St := [
  .asg 5 (.tup [.bin .sub (.call "_law_draw" [.var 0, wide]) (.var 2), .bin .sub (.call "_law_draw" [.var 0, wide]) (.var 2)]),
  .ite (.cmp .nin (.var 5) (.var 3)) [.app 3 (.var 5)] []]
theorem sh_eq : b__law_shape = [.asg 3 (.lst []), .for_ (.nm 4) (.rg (.bin .add (.lit (.int 1)) (.call "_law_draw" [.var 0, .var 1]))) shB, .ret (.blt .tuple [.blt .sorted [.var 3]])] := rfl
theorem nin_cs (c : Ce) (cs : List Ce) : cmpD .nin (cD c) (.lst (cs.map cD)) = some (!decide (c ∈ cs)) := by
  show (if (cD c).ok 60 && D.oks (cs.map cD) 60 then some ((cs.map cD).any fun y => D.eqb y (cD c)) else none).map (!·) = _
  have k1 : (cD c).ok 60 = true := rfl
  have k2 : D.oks (cs.map cD) 60 = true := oks_cs 59 cs
  rw [k1, k2]
  show some (!((cs.map cD).any fun y => D.eqb y (cD c))) = _
  congr 2
  rw [Bool.eq_iff_iff, decide_eq_true_iff, List.any_eq_true]
  constructor
  · rintro ⟨y, hy, h⟩
    obtain ⟨a, ha, rfl⟩ := List.mem_map.mp hy
    have e : D.eqb (cD a) (cD c) = decide (row2 a = row2 c) := eqbs_ints (row2 a) (row2 c)
    rw [e] at h
    rw [← row2_inj.mp (of_decide_eq_true h)]
    exact ha
  · intro h
    refine ⟨cD c, List.mem_map.mpr ⟨c, h, rfl⟩, ?_⟩
    have e : D.eqb (cD c) (cD c) = decide (row2 c = row2 c) := eqbs_ints (row2 c) (row2 c)
    rw [e]
    exact decide_eq_true rfl
abbrev enS (M f : Int) (a3 a4 a5 : Sl) : Mp.Env := [some (false, .src), some (false, .int M), some (false, .int f), a3, a4, a5]
theorem sh_turn (n : Nat) (M f : Int) (hf : 0 ≤ f) (hf2 : f ≤ 1000) (fs : List Ce) (hl : fs.length < szMax) (d : Mp.D) (a4 a5 : Sl) {k : Nat} (S : Sr) (D : Dr (k + 2) S) :
    ∃ c S', Dr k S' ∧ Bd f c ∧ bodyF tab (pg.run (n + 1)) (.nm 4) shB d (enS M f (some (true, .lst (fs.map cD))) a4 a5) S = .nx (enS M f (some (true, .lst ((if c ∈ fs then fs else fs ++ [c]).map cD))) (some (false, d)) (some (false, cD c))) S' := by
  obtain ⟨v, S1, e1, v0, v1, D1⟩ := draw n (k := k + 1) D (L := 2 * f + 1) (by omega) (by omega)
  obtain ⟨u, S2, e2, u0, u1, D2⟩ := draw n (k := k) D1 (L := 2 * f + 1) (by omega) (by omega)
  let c : Ce := (v - f, u - f)
  let env1 : Mp.Env := enS M f (some (true, .lst (fs.map cD))) (some (false, d)) a5
  let env2 : Mp.Env := enS M f (some (true, .lst (fs.map cD))) (some (false, d)) (some (false, cD c))
  have f1 : ∀ S, evE tab (pg.run (n + 1)) wide env1 S = .ok .fz (.int (2 * f + 1)) S := fun S =>
    zv_bin (m := .fz) (m2 := .fz) (d := .int (2 * f)) (d2 := .int 1) (zv_bin (m := .fz) (m2 := .fz) (d := .int 2) (d2 := .int f) rfl rfl (b_mul (.inl (by decide)))) rfl rfl
  have f2 : ∀ {S S' : Sr} {v : Int}, pg.run (n + 1) "_law_draw" [.src, .int (2 * f + 1)] S = .ok .fz (.int v) S' → evE tab (pg.run (n + 1)) (.bin .sub (.call "_law_draw" [.var 0, wide]) (.var 2)) env1 S = .ok .fz (.int (v - f)) S' := fun {S S' v} e =>
    zv_bin (m := .fz) (m2 := .fz) (d := .int v) (d2 := .int f) (zv_call2 (m := .fz) (m2 := .fz) (d := .src) (d2 := .int (2 * f + 1)) rfl (by decide) (f1 S) (by decide) e) rfl rfl
  have f3 := zv_tup2 (f2 e1) (by decide) (f2 e2) (by decide)
  have s1 : exS tab (pg.run (n + 1)) (.asg 5 (.tup [.bin .sub (.call "_law_draw" [.var 0, wide]) (.var 2), .bin .sub (.call "_law_draw" [.var 0, wide]) (.var 2)])) env1 S = .nx env2 S2 := zt_asg (env' := env1) rfl f3 (by decide) rfl
  have c1 : evE tab (pg.run (n + 1)) (.cmp .nin (.var 5) (.var 3)) env2 S2 = .ok .fz (.bl (!decide (c ∈ fs))) S2 := zv_cmp (m := .fz) (m2 := .br) (d := cD c) (d2 := .lst (fs.map cD)) rfl rfl (nin_cs c fs)
  refine ⟨c, S2, D2, ⟨by show -f ≤ v - f; omega, by show v - f ≤ f; omega, by show -f ≤ u - f; omega, by show u - f ≤ f; omega⟩, ?_⟩
  show exL tab (pg.run (n + 1)) shB env1 S = _
  refine zt_seq s1 ?_
  by_cases hc : c ∈ fs
  · rw [decide_eq_true hc] at c1
    rw [if_pos hc]
    exact zt_seq (zt_ite_f (env' := env2) rfl c1) rfl
  · rw [decide_eq_false hc] at c1
    rw [if_neg hc]
    have ap : exL tab (pg.run (n + 1)) [.app 3 (.var 5)] env2 S2 = .nx (enS M f (some (true, .lst ((fs ++ [c]).map cD))) (some (false, d)) (some (false, cD c))) S2 := by
      refine zt_seq ?_ rfl
      rw [exS]
      show (if (fs.map cD).length < szMax then Ro.nx (enS M f (some (true, .lst (fs.map cD ++ [cD c]))) (some (false, d)) (some (false, cD c))) S2 else .bad) = _
      rw [if_pos (by rw [List.length_map]; exact hl), List.map_append]
      rfl
    exact zt_seq (zt_ite_t (env' := env2) rfl c1 ap) rfl
theorem range_len {m : Int} : (rangeD 0 m).length = m.toNat := by
  unfold rangeD
  rw [List.length_map, List.length_range, Int.sub_zero]
theorem law_shape (n k K : Nat) (M f : Int) (hM : M = (K : Int)) (hK : 1 ≤ K) (hK2 : K ≤ 1000) (hf : 0 ≤ f) (hf2 : f ≤ 1000) (S : Sr) (D : Dr (k + 2 * K + 1) S) :
    ∃ s S', pg.run (n + 2) "_law_shape" [.src, .int M, .int f] S = .ok .fz (csD s) S' ∧ s ≠ [] ∧ s.Pairwise ltC ∧ s.length ≤ K ∧ (∀ c ∈ s, Bd f c) ∧ Dr k S' := by
  subst hM
  obtain ⟨v, S1, e1, v0, v1, D1⟩ := draw n (k := k + 2 * K) D (L := (K : Int)) (by omega) (by omega)
  have hi : evI tab (pg.run (n + 1)) (.rg (.bin .add (.lit (.int 1)) (.call "_law_draw" [.var 0, .var 1]))) (enS K f (some (true, .lst [])) none none) S = .ok false (rangeD 0 (1 + v)) S1 :=
    zi_rg (m := .fz) (zv_bin (m := .fz) (m2 := .fz) (d := .int 1) (d2 := .int v) rfl (zv_call2 (m := .fz) (m2 := .fz) (d := .src) (d2 := .int K) rfl (by decide) rfl (by decide) e1) rfl) (by omega) (by omega)
  obtain ⟨env', S2, e2, fs, a4, a5, rfl, nd, len, ne, bd, D2⟩ := forL_inv (f := bodyF tab (pg.run (n + 1)) (.nm 4) shB)
    (fun i env S => ∃ fs a4 a5, env = enS K f (some (true, .lst (fs.map cD))) a4 a5 ∧ fs.Nodup ∧ fs.length ≤ i ∧ (1 ≤ i → fs ≠ []) ∧ (∀ c ∈ fs, Bd f c) ∧ Dr (k + 2 * (K - i)) S)
    (rangeD 0 (1 + v)) 0 (env := enS K f (some (true, .lst [])) none none) (S := S1) ⟨[], none, none, rfl, List.nodup_nil, Nat.le_refl _, (fun z => absurd z (by decide)), nofun, D1⟩ (by
      rintro i d env S hd ⟨fs, a4, a5, rfl, nd, len, ne, bd, Di⟩
      have hi : i < (rangeD 0 (1 + v)).length := (List.getElem?_eq_some_iff.mp hd).1
      rw [range_len] at hi
      have : (1000 : Nat) < szMax := by decide
      obtain ⟨c, S', D', bc, e⟩ := sh_turn n (K : Int) f hf hf2 fs (by omega) d a4 a5 (k := k + 2 * (K - (0 + i + 1))) S (Di.less (by omega))
      refine ⟨_, S', .inl e, _, _, _, rfl, ?_, ?_, ?_, ?_, D'⟩
      · split
        · exact nd
        · rename_i hc
          rw [List.nodup_append]
          refine ⟨nd, List.nodup_cons.mpr ⟨List.not_mem_nil, List.nodup_nil⟩, fun a ha b hb q => hc ?_⟩
          rw [← List.mem_singleton.mp hb, ← q]
          exact ha
      · split
        · omega
        · rw [List.length_append, List.length_singleton]
          omega
      · intro _
        split
        · rename_i hc
          exact List.ne_nil_of_mem hc
        · simp
      · intro x hx
        split at hx
        · exact bd x hx
        · rcases List.mem_append.mp hx with z | z
          · exact bd x z
          · rw [List.mem_singleton.mp z]
            exact bc)
  rw [range_len] at len ne D2
  have hz : fs.length ≤ szMax := by
    have : (2000 : Nat) < szMax := by decide
    omega
  refine ⟨srt fs, S2, ?_, srt_ne (ne (by omega)), srt_asc fs, ?_, fun c hc => bd c (mem_srt.mp hc), D2.less (by omega)⟩
  · rw [r__law_shape, sh_eq]
    have run : exL tab (pg.run (n + 1)) [.asg 3 (.lst []), .for_ (.nm 4) (.rg (.bin .add (.lit (.int 1)) (.call "_law_draw" [.var 0, .var 1]))) shB, .ret (.blt .tuple [.blt .sorted [.var 3]])] (enS K f none none none) S = .rt .fz (csD (srt fs)) S2 := by
      refine zt_seq (env' := enS K f (some (true, .lst [])) none none) (S' := S) rfl ?_
      refine zt_seq (zt_for (env' := enS K f (some (true, .lst [])) none none) rfl hi e2) ?_
      refine zt_end (zt_ret (fun i z => by cases z) (env' := enS K f (some (true, .lst (fs.map cD))) a4 a5) rfl ?_ (by decide))
      exact zv_blt1 (zv_blt1 (m := .br) (d := .lst (fs.map cD)) rfl (b_sort (sort_cs nd hz))) rfl
    show endR (exL tab (pg.run (n + 1)) _ (enS K f none none none) S) = _
    rw [run]
    rfl
  · have := (asc_nodup (srt_asc fs)).length_le_of_subset fun c hc => mem_srt.mp hc
    omega
end K28
set_option Elab.async false
set_option maxRecDepth 100000
set_option maxHeartbeats 4000000
/-! P28s: the law's sum, walked. -/
namespace K28
open PySem Mp
def smI : List Mp.St := [.asg 4 (.bin .add (.var 4) (.comp [7, 8] (.tp [7, 8]) (.ov (.ix (.var 0) (.var 3))) [] (.tup [.bin .add (.var 5) (.var 7), .bin .add (.var 6) (.var 8)])))]
def smB : List Mp.St := [.asg 4 (.lst []), .for_ (.tp [5, 6]) (.ov (.var 2)) smI, .asg 2 (.sset (.var 4))]
theorem sm_eq : b__law_sum = [.asg 2 (.lst [.tup [.lit (.int 0), .lit (.int 0)]]), .for_ (.nm 3) (.ov (.var 1)) smB, .ret (.var 2)] := rfl
abbrev enM (a0 a1 a2 a3 a4 a5 a6 a7 a8 : Sl) : Mp.Env := [a0, a1, a2, a3, a4, a5, a6, a7, a8]
theorem zt_at {ss : List (List Ce)} {k : Nat} (h : k < ss.length) : L2.atI (ss.map csD) (k : Int) = some (csD (sh ss k)) := by
  have hl : k < (ss.map csD).length := by rw [List.length_map]; exact h
  rw [atI_in hl, List.getElem_map]
  unfold sh
  rw [List.getD_eq_getElem?_getD, List.getElem?_eq_getElem h]
  rfl
theorem sm_in (n : Nat) (ss : List (List Ce)) (k : Nat) (hk : k < ss.length) (L a2 : Sl) (S : Sr) : ∀ (A M : List Ce) (a5 a6 a7 a8 : Sl), M.length + A.length * (sh ss k).length ≤ szMax →
    ∃ b5 b6 b7 b8, forL (bodyF tab (pg.run n) (.tp [5, 6]) smI) (A.map cD) (enM (some (false, .lst (ss.map csD))) L a2 (some (false, .int (k : Int))) (some (true, .lst (M.map cD))) a5 a6 a7 a8) S =
      .nx (enM (some (false, .lst (ss.map csD))) L a2 (some (false, .int (k : Int))) (some (true, .lst ((M ++ prd A (sh ss k)).map cD))) b5 b6 b7 b8) S
  | [], M, a5, a6, a7, a8, _ => ⟨a5, a6, a7, a8, by unfold prd; rw [List.flatMap_nil, List.append_nil]; rfl⟩
  | p :: A, M, a5, a6, a7, a8, hl => by
    have hl1 : (A.length + 1) * (sh ss k).length = A.length * (sh ss k).length + (sh ss k).length := Nat.succ_mul _ _
    rw [List.length_cons, hl1] at hl
    have hl2 : (M ++ (sh ss k).map (addC p)).length = M.length + (sh ss k).length := by rw [List.length_append, List.length_map]
    obtain ⟨b5, b6, b7, b8, e⟩ := sm_in n ss k hk L a2 S A (M ++ (sh ss k).map (addC p)) (some (false, .int p.1)) (some (false, .int p.2)) a7 a8 (by rw [hl2]; omega)
    refine ⟨b5, b6, b7, b8, ?_⟩
    have pe : M ++ prd (p :: A) (sh ss k) = (M ++ (sh ss k).map (addC p)) ++ prd A (sh ss k) := by
      unfold prd
      rw [List.flatMap_cons, List.append_assoc]
    rw [pe, List.map_cons, forL]
    let env1 : Mp.Env := enM (some (false, .lst (ss.map csD))) L a2 (some (false, .int (k : Int))) (some (true, .lst (M.map cD))) (some (false, .int p.1)) (some (false, .int p.2)) a7 a8
    have ev1 : evE tab (pg.run n) (.ix (.var 0) (.var 3)) env1 S = .ok .fz (csD (sh ss k)) S := zv_ix (m := .fz) (m2 := .fz) (d := .lst (ss.map csD)) (d2 := .int (k : Int)) rfl rfl (zt_at hk)
    have ei : evI tab (pg.run n) (.ov (.ix (.var 0) (.var 3))) env1 S = .ok false ((sh ss k).map cD) S := by
      rw [evI, ev1]
      rfl
    have ec : evE tab (pg.run n) (.comp [7, 8] (.tp [7, 8]) (.ov (.ix (.var 0) (.var 3))) [] (.tup [.bin .add (.var 5) (.var 7), .bin .add (.var 6) (.var 8)])) env1 S = .ok .fr (.lst (((sh ss k).map (addC p)).map cD)) S := by
      refine compE (br := false) (ds := (sh ss k).map cD) (S1 := S) ei ?_
      rw [compL_of (f := cD) (g := fun q => some (cD (addC p q))) fun q hq => rfl]
      rw [List.map_map, List.filterMap_eq_map']
      rfl
    have step : bodyF tab (pg.run n) (.tp [5, 6]) smI (cD p) (enM (some (false, .lst (ss.map csD))) L a2 (some (false, .int (k : Int))) (some (true, .lst (M.map cD))) a5 a6 a7 a8) S =
        .nx (enM (some (false, .lst (ss.map csD))) L a2 (some (false, .int (k : Int))) (some (true, .lst ((M ++ (sh ss k).map (addC p)).map cD))) (some (false, .int p.1)) (some (false, .int p.2)) a7 a8) S := by
      show exL tab (pg.run n) smI env1 S = _
      refine zt_seq (zt_asg (env' := env1) (m := .fr) rfl (zv_bin (m := .br) (m2 := .fr) (d := .lst (M.map cD)) rfl ec (b_addL ?_)) (by decide) ?_) rfl
      · rw [List.length_map, List.length_map, List.length_map]
        omega
      · rw [List.map_append]
        rfl
    rw [step]
    exact e
/-- the sums on the way are not too great -/
def Okz (ss : List (List Ce)) : List Ce → List Nat → Prop
  | _, [] => True
  | A, k :: r => (prd A (sh ss k)).length < 1199 ∧ Okz ss (srt (prd A (sh ss k))) r
theorem sm_out (n : Nat) (ss : List (List Ce)) (L : Sl) (S : Sr) : ∀ (l : List Nat) (A : List Ce) (a3 a4 a5 a6 a7 a8 : Sl), Vd ss l → Okz ss A l →
    ∃ b3 b4 b5 b6 b7 b8, forL (bodyF tab (pg.run n) (.nm 3) smB) ((intsN l).map .int) (enM (some (false, .lst (ss.map csD))) L (some (true, .lst (A.map cD))) a3 a4 a5 a6 a7 a8) S =
      .nx (enM (some (false, .lst (ss.map csD))) L (some (true, .lst ((lsumA ss A l).map cD))) b3 b4 b5 b6 b7 b8) S
  | [], A, a3, a4, a5, a6, a7, a8, _, _ => ⟨a3, a4, a5, a6, a7, a8, rfl⟩
  | k :: r, A, a3, a4, a5, a6, a7, a8, v, ok => by
    have hk := v k List.mem_cons_self
    have hz : ([] : List Ce).length + A.length * (sh ss k).length ≤ szMax := by
      have h1 := ok.1
      rw [prd_len] at h1
      have : (1199 : Nat) ≤ szMax := by decide
      rw [List.length_nil]
      omega
    obtain ⟨c5, c6, c7, c8, ei⟩ := sm_in n ss k hk L (some (false, .lst (A.map cD))) S A [] a5 a6 a7 a8 hz
    obtain ⟨b3, b4, b5, b6, b7, b8, e⟩ := sm_out n ss L S r (srt (prd A (sh ss k))) (some (false, .int (k : Int))) (some (true, .lst ((prd A (sh ss k)).map cD))) c5 c6 c7 c8 (fun x hx => v x (List.mem_cons_of_mem _ hx)) ok.2
    refine ⟨b3, b4, b5, b6, b7, b8, ?_⟩
    show forL (bodyF tab (pg.run n) (.nm 3) smB) (.int (k : Int) :: (intsN r).map .int) _ S = _
    rw [forL]
    have step : bodyF tab (pg.run n) (.nm 3) smB (.int (k : Int)) (enM (some (false, .lst (ss.map csD))) L (some (true, .lst (A.map cD))) a3 a4 a5 a6 a7 a8) S =
        .nx (enM (some (false, .lst (ss.map csD))) L (some (true, .lst ((srt (prd A (sh ss k))).map cD))) (some (false, .int (k : Int))) (some (true, .lst ((prd A (sh ss k)).map cD))) c5 c6 c7 c8) S := by
      show exL tab (pg.run n) smB (enM (some (false, .lst (ss.map csD))) L (some (true, .lst (A.map cD))) (some (false, .int (k : Int))) a4 a5 a6 a7 a8) S = _
      refine zt_seq (env' := enM (some (false, .lst (ss.map csD))) L (some (true, .lst (A.map cD))) (some (false, .int (k : Int))) (some (true, .lst [])) a5 a6 a7 a8) (S' := S) rfl ?_
      refine zt_seq (zt_for (ds := A.map cD) (env' := enM (some (false, .lst (ss.map csD))) L (some (false, .lst (A.map cD))) (some (false, .int (k : Int))) (some (true, .lst [])) a5 a6 a7 a8) (S1 := S) rfl rfl ei) ?_
      exact zt_seq (zt_asg (env' := enM (some (false, .lst (ss.map csD))) L (some (false, .lst (A.map cD))) (some (false, .int (k : Int))) (some (true, .lst ((prd A (sh ss k)).map cD))) c5 c6 c7 c8) (m := .fr) rfl (zv_sset (m := .br) (d := .lst ((prd A (sh ss k)).map cD)) rfl rfl (sset_cs ok.1)) (by decide) rfl) rfl
    rw [step]
    exact e
theorem law_sum (n : Nat) (ss : List (List Ce)) (l : List Nat) (S : Sr) (v : Vd ss l) (ok : Okz ss [(0, 0)] l) : pg.run (n + 1) "_law_sum" [.lst (ss.map csD), numD l] S = .ok .fr (.lst ((lsum ss l).map cD)) S := by
  obtain ⟨b3, b4, b5, b6, b7, b8, e⟩ := sm_out n ss (some (false, numD l)) S l [(0, 0)] none none none none none none v ok
  rw [r__law_sum, sm_eq]
  have run : exL tab (pg.run n) [.asg 2 (.lst [.tup [.lit (.int 0), .lit (.int 0)]]), .for_ (.nm 3) (.ov (.var 1)) smB, .ret (.var 2)] (enM (some (false, .lst (ss.map csD))) (some (false, numD l)) none none none none none none none) S = .rt .fr (.lst ((lsum ss l).map cD)) S := by
    refine zt_seq (env' := enM (some (false, .lst (ss.map csD))) (some (false, numD l)) (some (true, .lst ([(0, 0)].map cD))) none none none none none none) (S' := S) rfl ?_
    refine zt_seq (zt_for (ds := (intsN l).map .int) (env' := enM (some (false, .lst (ss.map csD))) (some (false, numD l)) (some (true, .lst ([(0, 0)].map cD))) none none none none none none) (S1 := S) rfl rfl e) ?_
    exact zt_end rfl
  show endR (exL tab (pg.run n) _ (enM (some (false, .lst (ss.map csD))) (some (false, numD l)) none none none none none none none) S) = _
  rw [run]
  rfl
/-! ### sizes -/
theorem srt_le (a : List Ce) : (srt a).length ≤ a.length := (asc_nodup (srt_asc a)).length_le_of_subset fun c hc => mem_srt.mp hc
theorem grow {A s : List Ce} (nd : A.Nodup) (h : s ≠ []) : A.length ≤ (srt (prd A s)).length := by
  obtain ⟨q, hq⟩ := List.exists_mem_of_ne_nil s h
  have n2 : (A.map fun c => addC c q).Nodup := List.Pairwise.map _ (fun x y hxy z => hxy (add_can z)) nd
  have := n2.length_le_of_subset (l₂ := srt (prd A s)) fun c hc => by
    obtain ⟨d, hd, rfl⟩ := List.mem_map.mp hc
    exact mem_srt.mpr (mem_prd.mpr ⟨d, hd, q, hq, rfl⟩)
  rw [List.length_map] at this
  exact this
section
variable {ss : List (List Ce)}
theorem grow_all (hs : Stk ss) : ∀ {l : List Nat} {A : List Ce}, Vd ss l → A.Nodup → A.length ≤ (lsumA ss A l).length
  | [], A, _, _ => Nat.le_refl _
  | k :: r, A, v, nd => Nat.le_trans (grow nd (hs _ (sh_mem (v k List.mem_cons_self))).1) (grow_all hs (l := r) (fun x hx => v x (List.mem_cons_of_mem _ hx)) (asc_nodup (srt_asc _)))
theorem sh_le {N : Nat} (h12 : ∀ s ∈ ss, s.length ≤ N) {k : Nat} (hk : k < ss.length) : (sh ss k).length ≤ N := h12 _ (sh_mem hk)
/-- small at the end, so small on the way -/
theorem okz_end (hs : Stk ss) (h4 : ∀ s ∈ ss, s.length ≤ 12) : ∀ {l : List Nat} {A : List Ce}, Vd ss l → A.Nodup → (lsumA ss A l).length ≤ 30 → Okz ss A l
  | [], _, _, _, _ => trivial
  | k :: r, A, v, nd, h => by
    have hk := v k List.mem_cons_self
    have g := grow_all hs v nd
    refine ⟨?_, okz_end hs h4 (fun x hx => v x (List.mem_cons_of_mem _ hx)) (asc_nodup (srt_asc _)) h⟩
    rw [prd_len]
    have := Nat.mul_le_mul (show A.length ≤ 30 by omega) (sh_le h4 hk)
    omega
/-- few numbers -/
theorem okz_few (h4 : ∀ s ∈ ss, s.length ≤ 4) : ∀ {l : List Nat} {A : List Ce}, Vd ss l → A.length * 4 ^ l.length ≤ 256 → Okz ss A l ∧ (lsumA ss A l).length ≤ 256
  | [], A, _, h => ⟨trivial, by show A.length ≤ 256; simpa using h⟩
  | k :: r, A, v, h => by
    have hk := v k List.mem_cons_self
    have q := Nat.mul_le_mul_left A.length (sh_le h4 hk)
    have l1 : (prd A (sh ss k)).length ≤ A.length * 4 := by rw [prd_len]; exact q
    have l2 := srt_le (prd A (sh ss k))
    have p0 : 1 ≤ 4 ^ r.length := Nat.one_le_pow _ _ (by decide)
    have e : A.length * 4 ^ (k :: r).length = (A.length * 4) * 4 ^ r.length := by
      rw [List.length_cons, Nat.pow_succ, Nat.mul_comm (4 ^ r.length) 4, Nat.mul_assoc]
    rw [e] at h
    have h2 : (srt (prd A (sh ss k))).length * 4 ^ r.length ≤ 256 := Nat.le_trans (Nat.mul_le_mul_right _ (by omega)) h
    have h3 : A.length * 4 * 1 ≤ 256 := Nat.le_trans (Nat.mul_le_mul_left _ p0) h
    obtain ⟨i1, i2⟩ := okz_few h4 (l := r) (fun x hx => v x (List.mem_cons_of_mem _ hx)) h2
    exact ⟨⟨by omega, i1⟩, i2⟩
theorem lsum_asc : ∀ {l : List Nat} {A : List Ce}, A.Pairwise ltC → (lsumA ss A l).Pairwise ltC
  | [], _, h => h
  | k :: r, A, _ => lsum_asc (l := r) (srt_asc (prd A (sh ss k)))
theorem lsum_ne (hs : Stk ss) {l : List Nat} (v : Vd ss l) : lsum ss l ≠ [] := fun z => by
  obtain ⟨c, hc⟩ := List.exists_mem_of_ne_nil _ (tot_ne hs v)
  have := (mem_lsum ss l c).mpr hc
  rw [z] at this
  cases this
theorem zero_asc : ([(0, 0)] : List Ce).Pairwise ltC := List.pairwise_singleton _ _
theorem lsum_len (hs : Stk ss) {l : List Nat} (v : Vd ss l) : (lsum ss l).length = (cs ss l).length := by
  rw [← corner_lsum hs v]
  exact (mv_len (asc_nodup (corner_asc _)) (asc_nodup (lsum_asc zero_asc)) (corner_mv _)).symm
/-- the corner of a sum, as the law asks for it -/
theorem law_cs (n : Nat) (hs : Stk ss) {l : List Nat} (v : Vd ss l) (ok : Okz ss [(0, 0)] l) (hz : (lsum ss l).length ≤ szMax) {x y : Xp} {m1 m2 : Md} {env : Mp.Env} {S : Sr} (h1 : evE tab (pg.run (n + 1)) x env S = .ok m1 (.lst (ss.map csD)) S) (hm : m1 ≠ .br) (h2 : evE tab (pg.run (n + 1)) y env S = .ok m2 (numD l) S) (hm2 : m2 ≠ .br) :
    evE tab (pg.run (n + 1)) (.call "_law_corner" [.call "_law_sum" [x, y]]) env S = .ok .fz (csD (cs ss l)) S := by
  refine zv_call1 (m := .fr) (zv_call2 h1 hm h2 hm2 (law_sum n ss l S v ok)) (by decide) ?_
  rw [law_corner n (.lst ((lsum ss l).map cD)) (lsum ss l) S (.inr rfl) (lsum_ne hs v) (asc_nodup (lsum_asc zero_asc)) hz, corner_lsum hs v]
end
end K28
set_option Elab.async false
set_option maxRecDepth 100000
set_option maxHeartbeats 4000000
/-! P28t: all lists of up to four numbers; the first that is due. -/
namespace K28
open PySem Mp
def allL (m : Nat) : Nat → List (List Nat)
  | 0 => [[]]
  | z + 1 => (allL m z).flatMap fun l => ((List.range m).filter fun k => l.all fun x => decide (x ≤ k)).map fun k => l ++ [k]
theorem mem_allL {m : Nat} : ∀ {z : Nat} {l : List Nat}, l ∈ allL m z ↔ l.length = z ∧ l.Pairwise (· ≤ ·) ∧ ∀ k ∈ l, k < m
  | 0, l => by
    rw [allL, List.mem_singleton]
    constructor
    · rintro rfl
      exact ⟨rfl, .nil, nofun⟩
    · rintro ⟨h, _⟩
      exact List.eq_nil_of_length_eq_zero h
  | z + 1, l => by
    rw [allL, List.mem_flatMap]
    constructor
    · rintro ⟨l0, h0, h⟩
      obtain ⟨k, hk, rfl⟩ := List.mem_map.mp h
      obtain ⟨h1, h2, h3⟩ := (mem_allL (z := z)).mp h0
      rw [List.mem_filter, List.mem_range, List.all_eq_true] at hk
      refine ⟨by rw [List.length_append, h1]; rfl, ?_, fun x hx => ?_⟩
      · rw [List.pairwise_append]
        refine ⟨h2, List.pairwise_singleton _ _, fun a ha b hb => ?_⟩
        rw [List.mem_singleton.mp hb]
        exact of_decide_eq_true (hk.2 a ha)
      · rcases List.mem_append.mp hx with q | q
        · exact h3 x q
        · rw [List.mem_singleton.mp q]
          exact hk.1
    · rintro ⟨h1, h2, h3⟩
      have ne : l ≠ [] := fun q => by rw [q] at h1; cases h1
      obtain ⟨l0, k, rfl⟩ : ∃ l0 k, l = l0 ++ [k] := ⟨l.dropLast, l.getLast ne, (List.dropLast_concat_getLast ne).symm⟩
      rw [List.length_append, List.length_singleton] at h1
      rw [List.pairwise_append] at h2
      refine ⟨l0, (mem_allL (z := z)).mpr ⟨by omega, h2.1, fun x hx => h3 x (List.mem_append_left _ hx)⟩, List.mem_map.mpr ⟨k, ?_, rfl⟩⟩
      rw [List.mem_filter, List.mem_range, List.all_eq_true]
      exact ⟨h3 k (List.mem_append_right _ (List.mem_singleton.mpr rfl)), fun x hx => decide_eq_true (h2.2.2 x hx k (List.mem_singleton.mpr rfl))⟩
def ltS (a b : List Nat) : Prop := a.length < b.length ∨ a.length = b.length ∧ a < b
instance : DecidableRel ltS := fun _ _ => inferInstanceAs (Decidable (_ ∨ _))
def dueL (m : Nat) : List (List Nat) := [0, 1, 2, 3, 4].flatMap (allL m)
theorem due_asc : ∀ m : Fin 5, (dueL m.val).Pairwise ltS := by decide +kernel
theorem mem_dueL {m : Nat} {l : List Nat} : l ∈ dueL m ↔ l.length ≤ 4 ∧ l.Pairwise (· ≤ ·) ∧ ∀ k ∈ l, k < m := by
  unfold dueL
  rw [List.mem_flatMap]
  constructor
  · rintro ⟨z, hz, h⟩
    obtain ⟨h1, h2⟩ := mem_allL.mp h
    refine ⟨?_, h2⟩
    simp at hz
    omega
  · rintro ⟨h1, h2⟩
    refine ⟨l.length, ?_, mem_allL.mpr ⟨rfl, h2⟩⟩
    simp only [List.mem_cons, List.not_mem_nil, or_false]
    omega
/-- the first of them is the least -/
theorem find_least {m : Nat} (hm : m ≤ 4) {p : List Nat → Bool} {l l2 : List Nat} (h : (dueL m).find? p = some l) (h2 : l2 ∈ dueL m) (hp : p l2 = true) : l = l2 ∨ ltS l l2 := by
  have asc := due_asc ⟨m, by omega⟩
  have key : ∀ L : List (List Nat), L.Pairwise ltS → L.find? p = some l → l2 ∈ L → l = l2 ∨ ltS l l2 := by
    intro L
    induction L with
    | nil => intro _ _ h; cases h
    | cons a L ih =>
      intro ha hf hl
      rw [List.pairwise_cons] at ha
      rw [List.find?_cons] at hf
      split at hf
      · cases hf
        rcases List.mem_cons.mp hl with rfl | q
        · exact .inl rfl
        · exact .inr (ha.1 _ q)
      · rename_i na
        rcases List.mem_cons.mp hl with rfl | q
        · rw [hp] at na
          cases na
        · exact ih ha.2 hf q
  exact key _ asc h h2
section
variable {w : List Ce} {ss : List (List Ce)}
def due (ss : List (List Ce)) (w : List Ce) : Option (List Nat) := (dueL ss.length).find? fun l => decide (cs ss l = w)
theorem vd_due {l : List Nat} (h : l ∈ dueL ss.length) : Vd ss l := (mem_dueL.mp h).2.2
theorem due_full (h4 : ss.length ≤ 4) {r : Option (List Nat)} (full : Full w ss r) : due ss w = (match r with | some l => if l.length ≤ 4 then some l else none | none => none) := by
  unfold due
  have none_if : (∀ l ∈ dueL ss.length, cs ss l ≠ w) → (dueL ss.length).find? (fun l => decide (cs ss l = w)) = none := fun h =>
    List.find?_eq_none.mpr fun l hl => by rw [decide_eq_true_iff]; exact h l hl
  cases r with
  | none => exact none_if fun l hl => full l (vd_due hl) (mem_dueL.mp hl).2.1
  | some l =>
    obtain ⟨f1, f2, f3, f4⟩ := full
    dsimp only
    split
    · rename_i h
      have hl : l ∈ dueL ss.length := mem_dueL.mpr ⟨h, f2, f1⟩
      cases hf : (dueL ss.length).find? (fun l => decide (cs ss l = w)) with
      | none =>
        have := List.find?_eq_none.mp hf l hl
        rw [decide_eq_true_iff] at this
        exact absurd f3 this
      | some l1 =>
        have h1 := List.mem_of_find?_eq_some hf
        have h2 := List.find?_some hf
        have h2 : cs ss l1 = w := of_decide_eq_true h2
        rcases find_least h4 hf hl (decide_eq_true f3) with rfl | q
        · rfl
        · exfalso
          have := f4 l1 (vd_due h1) (mem_dueL.mp h1).2.1 h2
          rcases q with q | q
          · rcases this with z | z
            · omega
            · omega
          · rcases this with z | z
            · omega
            · exact z.2 q.2
    · rename_i h
      refine none_if fun l1 h1 c => ?_
      have := f4 l1 (vd_due h1) (mem_dueL.mp h1).2.1 c
      have := (mem_dueL.mp h1).1
      omega
end
/-! ### the walk -/
def llM (z : Nat) : Md := if z = 0 then .fr else .fz
theorem llM_no (z : Nat) : (llM z == Md.br) = false := by
  unfold llM
  split <;> rfl
theorem ll (n : Nat) (S : Sr) : ∀ (m : Fin 4) (z : Fin 5), pg.run (n + 1) "_law_lists" [.int ((m.val + 1 : Nat) : Int), .int (z.val : Int)] S = .ok (llM z.val) (.lst ((allL (m.val + 1) z.val).map numD)) S
  | 0, 0 => by kernel_rfl
  | 0, 1 => by kernel_rfl
  | 0, 2 => by kernel_rfl
  | 0, 3 => by kernel_rfl
  | 0, 4 => by kernel_rfl
  | 1, 0 => by kernel_rfl
  | 1, 1 => by kernel_rfl
  | 1, 2 => by kernel_rfl
  | 1, 3 => by kernel_rfl
  | 1, 4 => by kernel_rfl
  | 2, 0 => by kernel_rfl
  | 2, 1 => by kernel_rfl
  | 2, 2 => by kernel_rfl
  | 2, 3 => by kernel_rfl
  | 2, 4 => by kernel_rfl
  | 3, 0 => by kernel_rfl
  | 3, 1 => by kernel_rfl
  | 3, 2 => by kernel_rfl
  | 3, 3 => by kernel_rfl
  | 3, 4 => by kernel_rfl
end K28
set_option Elab.async false
set_option maxRecDepth 100000
set_option maxHeartbeats 4000000
/-! P28u: the list that is due; whether the answer fits. -/
namespace K28
open PySem Mp
def dueB : List Mp.St := [.ite (.cmp .eq (.call "_law_corner" [.call "_law_sum" [.var 1, .var 3]]) (.call "_law_corner" [.var 0])) [.ret (.var 3)] []]
def dueZ : List Mp.St := [.for_ (.nm 3) (.ov (.call "_law_lists" [.blt .len [.var 1], .var 2])) dueB]
theorem due_eq : b__law_due = [.for_ (.nm 2) (.rg (.lit (.int 5))) dueZ, .ret (.lit .non)] := rfl
/-- a stock as the law draws it -/
structure Ok4 (ss : List (List Ce)) : Prop where
  stk : Stk ss
  l1 : 1 ≤ ss.length
  l4 : ss.length ≤ 4
  s4 : ∀ s ∈ ss, s.length ≤ 4
theorem Ok4.okz {ss : List (List Ce)} (h : Ok4 ss) {l : List Nat} (v : Vd ss l) (hl : l.length ≤ 4) : Okz ss [(0, 0)] l ∧ (lsum ss l).length ≤ 256 := by
  have p : 4 ^ l.length ≤ 4 ^ 4 := Nat.pow_le_pow_right (by decide) hl
  exact okz_few h.s4 v (by rw [List.length_singleton, Nat.one_mul]; exact p)
theorem eq_cs (a b : List Ce) : cmpD .eq (csD a) (csD b) = some (decide (a = b)) := by
  show (if (csD a).ok 60 && (csD b).ok 60 then some (D.eqb (csD a) (csD b)) else none) = _
  rw [ok_csD, ok_csD, eqb_cs]
  rfl
theorem eq_num (a b : List Nat) : cmpD .eq (numD a) (numD b) = some (decide (a = b)) := by
  have k : ∀ l : List Nat, (numD l).ok 60 = true := fun l => ok_ints 59 _
  show (if (numD a).ok 60 && (numD b).ok 60 then some (D.eqb (numD a) (numD b)) else none) = _
  rw [k, k]
  have e : D.eqb (numD a) (numD b) = decide (intsN a = intsN b) := eqbs_ints _ _
  rw [e]
  exact congrArg some (decide_eq_decide.mpr intsN_inj)
theorem ne_num (a b : List Nat) : cmpD .ne (numD a) (numD b) = some (!decide (a = b)) := by
  show (cmpD .eq (numD a) (numD b)).map (!·) = _
  rw [eq_num]
  rfl
abbrev enD4 (a0 a1 a2 a3 : Sl) : Mp.Env := [a0, a1, a2, a3]
section
variable {f : List Ce} {ss : List (List Ce)}
theorem law_w (n : Nat) (f0 : f ≠ []) (fn : f.Nodup) (fl : f.length ≤ szMax) {x : Xp} {m : Md} {env : Mp.Env} {S : Sr} (h : evE tab (pg.run (n + 1)) x env S = .ok m (csD f) S) (hm : m ≠ .br) : evE tab (pg.run (n + 1)) (.call "_law_corner" [x]) env S = .ok .fz (csD (corner f)) S :=
  zv_call1 h hm (law_corner n (csD f) f S (.inl rfl) f0 fn fl)
theorem du_in (n : Nat) (ok : Ok4 ss) (f0 : f ≠ []) (fn : f.Nodup) (fl : f.length ≤ szMax) (a2 : Sl) (S : Sr) : ∀ (L : List (List Nat)) (a3 : Sl), (∀ l ∈ L, l ∈ dueL ss.length) →
    ∃ b3, forL (bodyF tab (pg.run (n + 1)) (.nm 3) dueB) (L.map numD) (enD4 (some (false, csD f)) (some (false, .lst (ss.map csD))) a2 a3) S =
      (match L.find? (fun l => decide (cs ss l = corner f)) with | some l => .rt .fz (numD l) S | none => .nx (enD4 (some (false, csD f)) (some (false, .lst (ss.map csD))) a2 b3) S)
  | [], a3, _ => ⟨a3, rfl⟩
  | l :: L, a3, h => by
    obtain ⟨b3, e⟩ := du_in n ok f0 fn fl a2 S L (some (false, numD l)) fun x hx => h x (List.mem_cons_of_mem _ hx)
    have hl := h l List.mem_cons_self
    have v := vd_due hl
    obtain ⟨z1, z2⟩ := ok.okz v (mem_dueL.mp hl).1
    let env1 : Mp.Env := enD4 (some (false, csD f)) (some (false, .lst (ss.map csD))) a2 (some (false, numD l))
    have z3 : (lsum ss l).length ≤ szMax := Nat.le_trans z2 (by decide)
    have c1 := law_cs n ok.stk v z1 z3 (x := .var 1) (y := .var 3) (env := env1) (S := S) (m1 := .fz) (m2 := .fz) rfl (by decide) rfl (by decide)
    have c2 := law_w n f0 fn fl (x := .var 0) (env := env1) (S := S) (m := .fz) rfl (by decide)
    have c3 : evE tab (pg.run (n + 1)) (.cmp .eq (.call "_law_corner" [.call "_law_sum" [.var 1, .var 3]]) (.call "_law_corner" [.var 0])) env1 S = .ok .fz (.bl (decide (cs ss l = corner f))) S := zv_cmp c1 c2 (eq_cs _ _)
    refine ⟨b3, ?_⟩
    rw [List.map_cons, forL, List.find?_cons]
    have st : bodyF tab (pg.run (n + 1)) (.nm 3) dueB (numD l) (enD4 (some (false, csD f)) (some (false, .lst (ss.map csD))) a2 a3) S = if decide (cs ss l = corner f) = true then .rt .fz (numD l) S else .nx env1 S := by
      show exL tab (pg.run (n + 1)) dueB env1 S = _
      unfold dueB
      rw [exL, zt_ite (env' := env1) rfl c3]
      split <;> rfl
    rw [st]
    cases hq : decide (cs ss l = corner f) with
    | true => rfl
    | false => exact e
theorem du_out (n : Nat) (ok : Ok4 ss) (f0 : f ≠ []) (fn : f.Nodup) (fl : f.length ≤ szMax) (S : Sr) : ∀ (zs : List (Fin 5)) (a2 a3 : Sl),
    ∃ b2 b3, forL (bodyF tab (pg.run (n + 1)) (.nm 2) dueZ) (zs.map fun z => .int (z.val : Int)) (enD4 (some (false, csD f)) (some (false, .lst (ss.map csD))) a2 a3) S =
      (match (zs.flatMap fun z => allL ss.length z.val).find? (fun l => decide (cs ss l = corner f)) with | some l => .rt .fz (numD l) S | none => .nx (enD4 (some (false, csD f)) (some (false, .lst (ss.map csD))) b2 b3) S)
  | [], a2, a3 => ⟨a2, a3, rfl⟩
  | z :: zs, a2, a3 => by
    obtain ⟨c3, e1⟩ := du_in n ok f0 fn fl (some (false, .int (z.val : Int))) S (allL ss.length z.val) a3 fun l hl => by
      obtain ⟨q1, q2⟩ := mem_allL.mp hl
      exact mem_dueL.mpr ⟨by omega, q2⟩
    obtain ⟨b2, b3, e2⟩ := du_out n ok f0 fn fl S zs (some (false, .int (z.val : Int))) c3
    refine ⟨b2, b3, ?_⟩
    rw [List.map_cons, forL, List.flatMap_cons, List.find?_append]
    let env1 : Mp.Env := enD4 (some (false, csD f)) (some (false, .lst (ss.map csD))) (some (false, .int (z.val : Int))) a3
    have l1 := ok.l1
    have l4 := ok.l4
    have ev : evE tab (pg.run (n + 1)) (.call "_law_lists" [.blt .len [.var 1], .var 2]) env1 S = .ok (llM z.val) (.lst ((allL ss.length z.val).map numD)) S := by
      refine zv_call2 (m := .fz) (m2 := .fz) (d := .int ((ss.map csD).length : Int)) (d2 := .int (z.val : Int)) rfl (by decide) rfl (by decide) ?_
      rw [List.length_map]
      have h := ll n S ⟨ss.length - 1, by omega⟩ z
      have e : ss.length - 1 + 1 = ss.length := by omega
      dsimp only at h
      rw [e] at h
      exact h
    have ei : evI tab (pg.run (n + 1)) (.ov (.call "_law_lists" [.blt .len [.var 1], .var 2])) env1 S = .ok false ((allL ss.length z.val).map numD) S := by
      rw [evI, ev]
      show Ri.ok (llM z.val == Md.br) _ S = _
      rw [llM_no]
    have st : bodyF tab (pg.run (n + 1)) (.nm 2) dueZ (.int (z.val : Int)) (enD4 (some (false, csD f)) (some (false, .lst (ss.map csD))) a2 a3) S = (match (allL ss.length z.val).find? (fun l => decide (cs ss l = corner f)) with | some l => .rt .fz (numD l) S | none => .nx (enD4 (some (false, csD f)) (some (false, .lst (ss.map csD))) (some (false, .int (z.val : Int))) c3) S) := by
      show exL tab (pg.run (n + 1)) dueZ env1 S = _
      unfold dueZ
      rw [exL, zt_for (env' := env1) rfl ei e1]
      cases (allL ss.length z.val).find? (fun l => decide (cs ss l = corner f)) <;> rfl
    rw [st]
    cases (allL ss.length z.val).find? (fun l => decide (cs ss l = corner f)) with
    | some l => rfl
    | none => exact e2
def resD : Option (List Nat) → Mp.D
  | some l => numD l
  | none => .non
theorem law_due (n : Nat) (ok : Ok4 ss) (f0 : f ≠ []) (fn : f.Nodup) (fl : f.length ≤ szMax) (S : Sr) : pg.run (n + 2) "_law_due" [csD f, .lst (ss.map csD)] S = .ok .fz (resD (due ss (corner f))) S := by
  obtain ⟨b2, b3, e⟩ := du_out n ok f0 fn fl S [0, 1, 2, 3, 4] none none
  rw [r__law_due, due_eq]
  have hd : ([0, 1, 2, 3, 4] : List (Fin 5)).flatMap (fun z => allL ss.length z.val) = dueL ss.length := rfl
  rw [hd] at e
  have ef : exS tab (pg.run (n + 1)) (.for_ (.nm 2) (.rg (.lit (.int 5))) dueZ) (enD4 (some (false, csD f)) (some (false, .lst (ss.map csD))) none none) S = _ := zt_for (ds := ([0, 1, 2, 3, 4] : List (Fin 5)).map fun z => .int (z.val : Int)) (env' := enD4 (some (false, csD f)) (some (false, .lst (ss.map csD))) none none) (S1 := S) rfl rfl e
  show endR (exL tab (pg.run (n + 1)) _ (enD4 (some (false, csD f)) (some (false, .lst (ss.map csD))) none none) S) = _
  rw [exL, ef]
  show _ = R.ok .fz (resD ((dueL ss.length).find? fun l => decide (cs ss l = corner f))) S
  cases (dueL ss.length).find? (fun l => decide (cs ss l = corner f)) <;> rfl
theorem full_len {w : List Ce} (hs : Stk ss) {l : List Nat} (full : Full w ss (some l)) : l.length + 1 ≤ w.length := by
  obtain ⟨f1, f2, f3, f4⟩ := full
  have v : Vd ss (l.filter fun k => decide (2 ≤ (sh ss k).length)) := fun x hx => f1 x (List.mem_filter.mp hx).1
  have := f4 _ v (f2.filter _) ((cs_filter hs f1).trans f3)
  have b := cs_len hs v fun x hx => of_decide_eq_true (List.mem_filter.mp hx).2
  rw [cs_filter hs f1, f3] at b
  omega
/-! ### fits -/
def fitC1 : Xp := .bool false [.cmp .isn (.var 4) (.lit .non), .cmp .is_ (.var 3) (.lit .non)]
def fitR1 : Xp := .bool true [.cmp .eq (.var 3) (.var 4), .bool false [.cmp .isn (.var 3) (.lit .non), .cmp .is_ (.var 2) (.lit .non)]]
def fitC2 : Xp := .bool false [.cmp .ne (.var 3) (.blt .sorted [.var 3]), .cmp .lt (.blt .len [.var 3]) (.lit (.int 5)), .bool true [.cmp .isn (.var 2) (.lit .non), .cmp .gt (.blt .len [.var 3]) (.blt .len [.var 2])]]
def fitR2 : Xp := .cmp .eq (.call "_law_corner" [.call "_law_sum" [.var 1, .var 3]]) (.call "_law_corner" [.var 0])
theorem fits_eq : b__law_fits = [.asg 3 (.call "fewest_sums" [.var 0, .var 1]), .asg 4 (.call "_law_due" [.var 0, .var 1]), .ite fitC1 [.ret fitR1] [], .ite fitC2 [.ret (.lit (.tr false))] [], .ret fitR2] := rfl
theorem sort_num {l : List Nat} (h : l.Pairwise (· ≤ ·)) (hl : l.length ≤ szMax) : sortD ((intsN l).map .int) = some ((intsN l).map .int) :=
  sortD_ints _ _ (List.Perm.refl _) (List.Pairwise.map _ (fun a b z => by omega) h) (by unfold intsN; rw [List.length_map]; exact hl)
theorem num_len (l : List Nat) (S : Sr) : bltD .len [numD l] S = .ok .fz (.int (l.length : Int)) S := by
  show R.ok .fz (.int (((intsN l).map Mp.D.int).length : Int)) S = _
  unfold intsN
  rw [List.length_map, List.length_map]
abbrev enT (a0 a1 a2 a3 a4 : Sl) : Mp.Env := [a0, a1, a2, a3, a4]
theorem law_fits (n : Nat) (ok : Ok4 ss) (f0 : f ≠ []) (fa : f.Pairwise ltC) (fl : f.length ≤ 30) (S : Sr) {r kn : Option (List Nat)} (full : Full (corner f) ss r) (fs : pg.run (n + 6) "fewest_sums" [csD f, .lst (ss.map csD)] S = .ok .fz (resD r) S)
    (hk : ∀ l, kn = some l → l.length ≤ 4 ∧ Vd ss l ∧ l.Pairwise (· ≤ ·) ∧ cs ss l = corner f) : pg.run (n + 7) "_law_fits" [csD f, .lst (ss.map csD), resD kn] S = .ok .fz (.bl true) S := by
  have fn := asc_nodup fa
  have fz : f.length ≤ szMax := Nat.le_trans fl (by decide)
  have du := law_due (n + 4) ok f0 fn fz S
  rw [due_full ok.l4 full] at du
  rw [r__law_fits, fits_eq]
  let F : Sl := some (false, csD f)
  let T : Sl := some (false, .lst (ss.map csD))
  let N : Sl := some (false, resD kn)
  have s1 : exS tab (pg.run (n + 6)) (.asg 3 (.call "fewest_sums" [.var 0, .var 1])) (enT F T N none none) S = .nx (enT F T N (some (false, resD r)) none) S :=
    zt_asg (env' := enT F T N none none) (m := .fz) rfl (zv_call2 (m := .fz) (m2 := .fz) rfl (by decide) rfl (by decide) fs) (by decide) rfl
  have s2 : ∀ d, pg.run (n + 6) "_law_due" [csD f, .lst (ss.map csD)] S = .ok .fz d S → exS tab (pg.run (n + 6)) (.asg 4 (.call "_law_due" [.var 0, .var 1])) (enT F T N (some (false, resD r)) none) S = .nx (enT F T N (some (false, resD r)) (some (false, d))) S := fun d h =>
    zt_asg (env' := enT F T N (some (false, resD r)) none) (m := .fz) rfl (zv_call2 (m := .fz) (m2 := .fz) rfl (by decide) rfl (by decide) h) (by decide) rfl
  refine congrArg endR (zt_seq s1 (zt_seq (s2 _ du) ?_) : _ = Ro.rt .fz (.bl true) S)
  cases r with
  | none =>
    have kz : kn = none := by
      cases kn with
      | none => rfl
      | some l =>
        obtain ⟨_, v, a, c⟩ := hk l rfl
        exact absurd c (full l v a)
    subst kz
    let env1 : Mp.Env := enT F T N (some (false, .non)) (some (false, .non))
    refine zt_end (zt_ite_t (env' := env1) (m := .fz) rfl (zv_bool2 (m := .fz) (m2 := .fz) (b1 := false) (b2 := true) rfl fun _ => rfl) ?_)
    exact zt_end (zt_ret (fun i z => by cases z) (env' := env1) rfl (zv_bool2 (m := .fz) (m2 := .fz) (b1 := true) (b2 := true) rfl fun _ => zv_bool2 (m := .fz) (m2 := .fz) (b1 := false) (b2 := true) rfl fun _ => rfl) (by decide))
  | some l =>
    obtain ⟨f1, f2, f3, f4⟩ := full
    by_cases h4 : l.length ≤ 4
    · dsimp only
      rw [if_pos h4]
      let env1 : Mp.Env := enT F T N (some (false, numD l)) (some (false, numD l))
      refine zt_end (zt_ite_t (env' := env1) (m := .fz) rfl (zv_bool2 (m := .fz) (m2 := .fz) (b1 := true) (b2 := true) rfl fun z => by cases z) ?_)
      have e1 : evE tab (pg.run (n + 6)) (.cmp .eq (.var 3) (.var 4)) env1 S = .ok .fz (.bl true) S := zv_cmp (m := .fz) (m2 := .fz) (d := numD l) (d2 := numD l) rfl rfl (by rw [eq_num, decide_eq_true rfl])
      exact zt_end (zt_ret (fun i z => by cases z) (env' := env1) rfl (zv_bool2 (m := .fz) (m2 := .fz) (b1 := true) (b2 := true) e1 fun _ => zv_bool2 (m := .fz) (m2 := .fz) (b1 := true) (b2 := true) rfl fun z => by cases z) (by decide))
    · have kz : kn = none := by
        cases kn with
        | none => rfl
        | some l0 =>
          obtain ⟨q1, v, a, c⟩ := hk l0 rfl
          have := f4 l0 v a c
          omega
      subst kz
      dsimp only
      rw [if_neg h4]
      let env1 : Mp.Env := enT F T (some (false, .non)) (some (false, numD l)) (some (false, .non))
      refine zt_seq (zt_ite_f (env' := env1) (m := .fz) rfl (zv_bool2 (m := .fz) (m2 := .fz) (b1 := false) (b2 := false) rfl fun _ => rfl)) ?_
      have wl : (corner f).length ≤ 30 := by
        have h1 := srt_le (f.map fun c => subC c (mnL (f.map (·.1)), mnL (f.map (·.2))))
        rw [List.length_map] at h1
        exact Nat.le_trans h1 fl
      have le : (lsum ss l).length ≤ 30 := by rw [lsum_len ok.stk f1, f3]; exact wl
      have lz : l.length ≤ szMax := by
        have b := full_len ok.stk (w := corner f) (l := l) ⟨f1, f2, f3, f4⟩
        have : (30 : Nat) < szMax := by decide
        omega
      have g1 : evE tab (pg.run (n + 6)) (.cmp .ne (.var 3) (.blt .sorted [.var 3])) env1 S = .ok .fz (.bl false) S :=
        zv_cmp (m := .fz) (m2 := .fr) (d := numD l) (d2 := numD l) rfl (zv_blt1 (m := .fz) (d := numD l) rfl (b_sort (sort_num f2 lz))) (by rw [ne_num, decide_eq_true rfl]; rfl)
      have g2 : evE tab (pg.run (n + 6)) (.cmp .lt (.blt .len [.var 3]) (.lit (.int 5))) env1 S = .ok .fz (.bl false) S :=
        zv_cmp (m := .fz) (m2 := .fz) (d := .int (l.length : Int)) (d2 := .int 5) (zv_blt1 (m := .fz) (d := numD l) rfl (num_len l S)) rfl (by rw [c_lt, decide_eq_false (by omega)])
      have g3 : evE tab (pg.run (n + 6)) (.bool true [.cmp .isn (.var 2) (.lit .non), .cmp .gt (.blt .len [.var 3]) (.blt .len [.var 2])]) env1 S = .ok .fz (.bl false) S :=
        zv_bool2 (m := .fz) (m2 := .fz) (b1 := false) (b2 := false) rfl fun z => by cases z
      refine zt_seq (zt_ite_f (env' := env1) (m := .fz) rfl (zv_bool3 g1 (fun _ => g2) fun _ _ => g3)) ?_
      refine zt_end (zt_ret (fun i z => by cases z) (env' := env1) rfl ?_ (by decide))
      have c1 := law_cs (n + 5) ok.stk f1 (okz_end ok.stk (fun s hs => Nat.le_trans (ok.s4 s hs) (by decide)) f1 (asc_nodup zero_asc) le) (Nat.le_trans le (by decide)) (x := .var 1) (y := .var 3) (env := env1) (S := S) (m1 := .fz) (m2 := .fz) rfl (by decide) rfl (by decide)
      have c2 := law_w (n + 5) f0 fn fz (x := .var 0) (env := env1) (S := S) (m := .fz) rfl (by decide)
      exact zv_cmp c1 c2 (by rw [eq_cs, f3, decide_eq_true rfl])
end
end K28
set_option Elab.async false
set_option maxRecDepth 100000
set_option maxHeartbeats 4000000
/-! P28v: the law's figure. -/
namespace K28
open PySem Mp
abbrev enF (a0 a1 a2 a3 a4 a5 a6 a7 a8 a9 : Sl) : Mp.Env := [a0, a1, a2, a3, a4, a5, a6, a7, a8, a9]
theorem Bd.mono {f g : Int} {c : Ce} (h : Bd f c) (l : f ≤ g) : Bd g c := by
  unfold Bd at *
  omega
theorem tot_bd {ss : List (List Ce)} (h : ∀ s ∈ ss, ∀ c ∈ s, Bd 2 c) : ∀ {l : List Nat}, Vd ss l → ∀ c ∈ tot ss l, Bd (2 * (l.length : Int)) c
  | [], _, c, hc => by
    rw [tot, List.mem_singleton] at hc
    subst hc
    unfold Bd
    simp
  | k :: r, v, c, hc => by
    obtain ⟨p, hp, q, hq, rfl⟩ := mem_prd.mp hc
    have h1 := tot_bd h (l := r) (fun x hx => v x (List.mem_cons_of_mem _ hx)) p hp
    have h2 := h _ (sh_mem (v k List.mem_cons_self)) q hq
    rw [List.length_cons]
    unfold Bd addC at *
    dsimp only
    omega
theorem cut_out {A : List Ce} {v : Nat} (h : v < A.length) : cutD (A.map cD) none (some (v : Int)) ++ cutD (A.map cD) (some ((v : Int) + 1)) none = (A.eraseIdx v).map cD := by
  unfold cutD
  rw [show ((v : Int) + 1) = ((v + 1 : Nat) : Int) from rfl, HT.sIx_nat, HT.sIx_none, HT.sIx_nat, HT.sIx_none, List.length_map, Nat.min_eq_left (by omega), Nat.min_eq_left (by omega), List.drop_zero, Nat.sub_zero, List.eraseIdx_eq_take_drop_succ, List.map_append, List.map_take, List.map_drop]
  congr 1
  rw [List.take_of_length_le]
  rw [List.length_drop, List.length_map]
  omega
theorem len_cs (S : Sr) (A : List Ce) : bltD .len [.lst (A.map cD)] S = .ok .fz (.int (A.length : Int)) S := by
  show R.ok .fz (.int ((A.map cD).length : Int)) S = _
  rw [List.length_map]
structure Fg (A : List Ce) : Prop where
  ne : A ≠ []
  nd : A.Nodup
  len : A.length ≤ 257
  bd : ∀ c ∈ A, Bd 8 c
theorem draw_sub (n : Nat) {x y : Xp} {env : Mp.Env} {S S' : Sr} {L v h : Int} (hx : evE tab (pg.run n) x env S = .ok .fz .src S) (hy : evE tab (pg.run n) y env S = .ok .fz (.int L) S) (e : pg.run n "_law_draw" [.src, .int L] S = .ok .fz (.int v) S') :
    evE tab (pg.run n) (.bin .sub (.call "_law_draw" [x, y]) (.lit (.int h))) env S = .ok .fz (.int (v - h)) S' :=
  zv_bin (m := .fz) (m2 := .fz) (d := .int v) (d2 := .int h) (zv_call2 hx (by decide) hy (by decide) e) rfl rfl
def fg0 : Mp.St := .ite (.bool true [.cmp .eq (.var 4) (.lit (.int 0)), .cmp .gt (.blt .len [.var 3]) (.lit (.int 1))]) [
    .asg 5 (.call "_law_draw" [.var 0, .blt .len [.var 3]]),
    .asg 3 (.bin .add (.sl (.var 3) none (some (.var 5))) (.sl (.var 3) (some (.bin .add (.var 5) (.lit (.int 1)))) none))] []
def fg1 : Mp.St := .ite (.cmp .eq (.var 4) (.lit (.int 1))) [
    .asg 3 (.sset (.bin .add (.var 3) (.lst [.tup [.bin .sub (.call "_law_draw" [.var 0, .lit (.int 9)]) (.lit (.int 4)), .bin .sub (.call "_law_draw" [.var 0, .lit (.int 9)]) (.lit (.int 4))]])))] []
def fg2 : Mp.St := .ite (.cmp .eq (.var 4) (.lit (.int 2))) [.asg 3 (.blt .list [.call "_law_shape" [.var 0, .lit (.int 8), .lit (.int 2)]])] []
def fg3 : Mp.St := .asgT (.tp [6, 7]) (.tup [.bin .sub (.call "_law_draw" [.var 0, .lit (.int 21)]) (.lit (.int 10)), .bin .sub (.call "_law_draw" [.var 0, .lit (.int 21)]) (.lit (.int 10))])
def fg4 : Xp := .blt .tuple [.blt .sorted [.comp [8, 9] (.tp [8, 9]) (.ov (.var 3)) [] (.tup [.bin .add (.var 8) (.var 6), .bin .add (.var 9) (.var 7)])]]
theorem fg_eq : b__law_figure = [.asg 3 (.call "_law_sum" [.var 1, .var 2]), .asg 4 (.call "_law_draw" [.var 0, .lit (.int 5)]), fg0, fg1, fg2, fg3, .ret fg4] := rfl
section
variable {T N : Sl} {kd : Int}
theorem fg0_ok (n k : Nat) {A : List Ce} (hA : Fg A) (S : Sr) (D : Dr (k + 1) S) :
    ∃ B a5 S', exS tab (pg.run (n + 1)) fg0 (enF (some (false, .src)) T N (some (true, .lst (A.map cD))) (some (false, .int kd)) none none none none none) S = .nx (enF (some (false, .src)) T N (some (true, .lst (B.map cD))) (some (false, .int kd)) a5 none none none none) S' ∧ Fg B ∧ Dr k S' ∧ (kd ≠ 0 → B = A) := by
  let env1 : Mp.Env := enF (some (false, .src)) T N (some (true, .lst (A.map cD))) (some (false, .int kd)) none none none none none
  have c1 : evE tab (pg.run (n + 1)) (.cmp .eq (.var 4) (.lit (.int 0))) env1 S = .ok .fz (.bl (decide (kd = 0))) S := zv_cmp (m := .fz) (m2 := .fz) (d := .int kd) (d2 := .int 0) rfl rfl (c_eqi _ _)
  have c2 : evE tab (pg.run (n + 1)) (.cmp .gt (.blt .len [.var 3]) (.lit (.int 1))) env1 S = .ok .fz (.bl (decide (1 < (A.length : Int)))) S := zv_cmp (m := .fz) (m2 := .fz) (d := .int (A.length : Int)) (d2 := .int 1) (zv_blt1 (m := .br) (d := .lst (A.map cD)) rfl (len_cs S A)) rfl (c_gt _ _)
  have c3 := zv_bool2 (k := true) c1 fun _ => c2
  by_cases hk : kd = 0
  · by_cases hl : (1 : Int) < (A.length : Int)
    · rw [decide_eq_true hk, decide_eq_true hl] at c3
      obtain ⟨v, S', e, v0, v1, D'⟩ := draw n D (L := (A.length : Int)) (by omega) (by have := hA.len; omega)
      obtain ⟨u, rfl⟩ : ∃ u : Nat, v = (u : Int) := ⟨v.toNat, by omega⟩
      have hu : u < A.length := by omega
      let env2 : Mp.Env := enF (some (false, .src)) T N (some (true, .lst (A.map cD))) (some (false, .int kd)) (some (false, .int (u : Int))) none none none none
      have s1 : exS tab (pg.run (n + 1)) (.asg 5 (.call "_law_draw" [.var 0, .blt .len [.var 3]])) env1 S = .nx env2 S' := zt_asg (env' := env1) (m := .fz) rfl (zv_call2 (m := .fz) (m2 := .fz) (d := .src) rfl (by decide) (zv_blt1 (m := .br) (d := .lst (A.map cD)) rfl (len_cs S A)) (by decide) e) (by decide) rfl
      have b1 : evE tab (pg.run (n + 1)) (.sl (.var 3) none (some (.var 5))) env2 S' = .ok .fr (.lst (cutD (A.map cD) none (some (u : Int)))) S' := rfl
      have b2 : evE tab (pg.run (n + 1)) (.sl (.var 3) (some (.bin .add (.var 5) (.lit (.int 1)))) none) env2 S' = .ok .fr (.lst (cutD (A.map cD) (some ((u : Int) + 1)) none)) S' := rfl
      have b3 : evE tab (pg.run (n + 1)) (.bin .add (.sl (.var 3) none (some (.var 5))) (.sl (.var 3) (some (.bin .add (.var 5) (.lit (.int 1)))) none)) env2 S' = .ok .fr (.lst ((A.eraseIdx u).map cD)) S' := by
        refine zv_bin b1 b2 ?_
        rw [b_addL, cut_out hu]
        have l1 := len_cut (A.map cD) none (some (u : Int))
        have l2 := len_cut (A.map cD) (some ((u : Int) + 1)) none
        rw [List.length_map] at l1 l2
        have : (2000 : Nat) < szMax := by decide
        have := hA.len
        omega
      refine ⟨A.eraseIdx u, some (false, .int (u : Int)), S', ?_, ⟨?_, ?_, ?_, fun c hc => hA.bd c (List.mem_of_mem_eraseIdx hc)⟩, D', fun z => absurd hk z⟩
      · exact zt_ite_t (env' := env1) rfl c3 (zt_seq s1 (zt_seq (zt_asg (env' := env2) rfl b3 (by decide) rfl) rfl))
      · intro z
        have : (A.eraseIdx u).length = 0 := by rw [z]; rfl
        rw [List.length_eraseIdx_of_lt hu] at this
        omega
      · exact hA.nd.sublist (List.eraseIdx_sublist _ _)
      · have := List.length_eraseIdx_le A u
        have := hA.len
        omega
    · rw [decide_eq_true hk, decide_eq_false hl] at c3
      exact ⟨A, none, S, zt_ite_f (env' := env1) rfl c3, hA, D.less (by omega), fun _ => rfl⟩
  · rw [decide_eq_false hk] at c3
    exact ⟨A, none, S, zt_ite_f (env' := env1) rfl c3, hA, D.less (by omega), fun _ => rfl⟩
theorem fg1_ok (n k : Nat) {A : List Ce} (hA : Fg A) (hz : kd = 1 → A.length ≤ 256) (a5 : Sl) (S : Sr) (D : Dr (k + 2) S) :
    ∃ B S', exS tab (pg.run (n + 1)) fg1 (enF (some (false, .src)) T N (some (true, .lst (A.map cD))) (some (false, .int kd)) a5 none none none none) S = .nx (enF (some (false, .src)) T N (some (true, .lst (B.map cD))) (some (false, .int kd)) a5 none none none none) S' ∧ Fg B ∧ Dr k S' := by
  let env1 : Mp.Env := enF (some (false, .src)) T N (some (true, .lst (A.map cD))) (some (false, .int kd)) a5 none none none none
  have c1 : evE tab (pg.run (n + 1)) (.cmp .eq (.var 4) (.lit (.int 1))) env1 S = .ok .fz (.bl (decide (kd = 1))) S := zv_cmp (m := .fz) (m2 := .fz) (d := .int kd) (d2 := .int 1) rfl rfl (c_eqi _ _)
  by_cases hk : kd = 1
  · rw [decide_eq_true hk] at c1
    obtain ⟨v, S1, e1, v0, v1, D1⟩ := draw n (k := k + 1) D (L := 9) (by decide) (by decide)
    obtain ⟨u, S2, e2, u0, u1, D2⟩ := draw n (k := k) D1 (L := 9) (by decide) (by decide)
    let c : Ce := (v - 4, u - 4)
    have t1 : evE tab (pg.run (n + 1)) (.lst [.tup [.bin .sub (.call "_law_draw" [.var 0, .lit (.int 9)]) (.lit (.int 4)), .bin .sub (.call "_law_draw" [.var 0, .lit (.int 9)]) (.lit (.int 4))]]) env1 S = .ok .fr (.lst ([c].map cD)) S2 :=
      zv_lst1 (zv_tup2 (draw_sub (n + 1) (x := .var 0) (y := .lit (.int 9)) (env := env1) rfl rfl e1) (by decide) (draw_sub (n + 1) (x := .var 0) (y := .lit (.int 9)) (env := env1) rfl rfl e2) (by decide)) (by decide)
    have hz := hz hk
    have t2 : evE tab (pg.run (n + 1)) (.bin .add (.var 3) (.lst [.tup [.bin .sub (.call "_law_draw" [.var 0, .lit (.int 9)]) (.lit (.int 4)), .bin .sub (.call "_law_draw" [.var 0, .lit (.int 9)]) (.lit (.int 4))]])) env1 S = .ok .fr (.lst ((A ++ [c]).map cD)) S2 := by
      refine zv_bin (m := .br) (d := .lst (A.map cD)) rfl t1 ?_
      rw [b_addL, List.map_append]
      have : (2000 : Nat) < szMax := by decide
      rw [List.length_map, List.length_map, List.length_singleton]
      omega
    have hs : (A ++ [c]).length < 1199 := by rw [List.length_append, List.length_singleton]; omega
    refine ⟨srt (A ++ [c]), S2, zt_ite_t (env' := env1) rfl c1 (zt_seq (zt_asg (env' := env1) rfl (zv_sset t2 rfl (sset_cs hs)) (by decide) rfl) rfl), ⟨srt_ne (by simp), asc_nodup (srt_asc _), ?_, fun x hx => ?_⟩, D2⟩
    · have := srt_le (A ++ [c])
      rw [List.length_append, List.length_singleton] at this
      omega
    · rcases List.mem_append.mp (mem_srt.mp hx) with q | q
      · exact hA.bd x q
      · rw [List.mem_singleton.mp q]
        show Bd 8 (v - 4, u - 4)
        unfold Bd
        dsimp only
        omega
  · rw [decide_eq_false hk] at c1
    exact ⟨A, S, zt_ite_f (env' := env1) rfl c1, hA, D.less (by omega)⟩
theorem fg2_ok (n k : Nat) {A : List Ce} (hA : Fg A) (a5 : Sl) (S : Sr) (D : Dr (k + 17) S) :
    ∃ B S', exS tab (pg.run (n + 2)) fg2 (enF (some (false, .src)) T N (some (true, .lst (A.map cD))) (some (false, .int kd)) a5 none none none none) S = .nx (enF (some (false, .src)) T N (some (true, .lst (B.map cD))) (some (false, .int kd)) a5 none none none none) S' ∧ Fg B ∧ Dr k S' := by
  let env1 : Mp.Env := enF (some (false, .src)) T N (some (true, .lst (A.map cD))) (some (false, .int kd)) a5 none none none none
  have c1 : evE tab (pg.run (n + 2)) (.cmp .eq (.var 4) (.lit (.int 2))) env1 S = .ok .fz (.bl (decide (kd = 2))) S := zv_cmp (m := .fz) (m2 := .fz) (d := .int kd) (d2 := .int 2) rfl rfl (c_eqi _ _)
  by_cases hk : kd = 2
  · rw [decide_eq_true hk] at c1
    obtain ⟨s, S1, e1, q1, q2, q3, q4, D1⟩ := law_shape n k 8 8 2 rfl (by decide) (by decide) (by decide) (by decide) S D
    have t1 : evE tab (pg.run (n + 2)) (.blt .list [.call "_law_shape" [.var 0, .lit (.int 8), .lit (.int 2)]]) env1 S = .ok .fr (.lst (s.map cD)) S1 :=
      zv_blt1 (zv_call3 (m := .fz) (m2 := .fz) (m3 := .fz) (d := .src) (d2 := .int 8) (d3 := .int 2) rfl (by decide) rfl (by decide) rfl (by decide) e1) rfl
    exact ⟨s, S1, zt_ite_t (env' := env1) rfl c1 (zt_seq (zt_asg (env' := env1) rfl t1 (by decide) rfl) rfl), ⟨q1, asc_nodup q2, by omega, fun c hc => (q4 c hc).mono (by decide)⟩, D1⟩
  · rw [decide_eq_false hk] at c1
    exact ⟨A, S, zt_ite_f (env' := env1) rfl c1, hA, D.less (by omega)⟩
end
theorem law_figure (n k : Nat) {ss : List (List Ce)} (ok : Ok4 ss) (bd : ∀ s ∈ ss, ∀ c ∈ s, Bd 2 c) {l : List Nat} (v : Vd ss l) (hl : l.length ≤ 4) (S : Sr) (D : Dr (k + 23) S) :
    ∃ f S', pg.run (n + 3) "_law_figure" [.src, .lst (ss.map csD), numD l] S = .ok .fz (csD f) S' ∧ f ≠ [] ∧ f.Pairwise ltC ∧ f.length ≤ 257 ∧ (∀ c ∈ f, Bd 18 c) ∧ Dr k S' := by
  obtain ⟨z1, z2⟩ := ok.okz v hl
  let T : Sl := some (false, .lst (ss.map csD))
  let N : Sl := some (false, numD l)
  have fA : Fg (lsum ss l) := ⟨lsum_ne ok.stk v, asc_nodup (lsum_asc zero_asc), by omega, fun c hc => (tot_bd bd v c ((mem_lsum ss l c).mp hc)).mono (by omega)⟩
  obtain ⟨kd, S1, e1, _, _, D1⟩ := draw (n + 1) (k := k + 22) D (L := 5) (by decide) (by decide)
  obtain ⟨B0, a5, S2, e2, f2, D2, same⟩ := fg0_ok (T := T) (N := N) (kd := kd) (n + 1) (k + 21) fA S1 D1
  obtain ⟨B1, S3, e3, f3, D3⟩ := fg1_ok (T := T) (N := N) (kd := kd) (n + 1) (k + 19) f2 (fun z => by rw [same (by omega)]; exact z2) a5 S2 D2
  obtain ⟨B2, S4, e4, f4, D4⟩ := fg2_ok (T := T) (N := N) (kd := kd) n (k + 2) f3 a5 S3 D3
  obtain ⟨x, S5, e5, x0, x1, D5⟩ := draw (n + 1) (k := k + 1) D4 (L := 21) (by decide) (by decide)
  obtain ⟨y, S6, e6, y0, y1, D6⟩ := draw (n + 1) (k := k) D5 (L := 21) (by decide) (by decide)
  let t : Ce := (x - 10, y - 10)
  have nd2 : (B2.map fun c => addC c t).Nodup := List.Pairwise.map _ (fun a b hab z => hab (add_can z)) f4.nd
  have len := f4.len
  have sz : (2000 : Nat) < szMax := by decide
  refine ⟨srt (B2.map fun c => addC c t), S6, ?_, srt_ne (fun z => f4.ne (List.map_eq_nil_iff.mp z)), srt_asc _, ?_, fun c hc => ?_, D6⟩
  · let E : Sl → Sl → Sl → Sl → Sl → Mp.Env := fun a3 a4 a5 a6 a7 => enF (some (false, .src)) T N a3 a4 a5 a6 a7 none none
    have s1 : exS tab (pg.run (n + 2)) (.asg 3 (.call "_law_sum" [.var 1, .var 2])) (E none none none none none) S = .nx (E (some (true, .lst ((lsum ss l).map cD))) none none none none) S :=
      zt_asg (env' := E none none none none none) (m := .fr) rfl (zv_call2 (m := .fz) (m2 := .fz) rfl (by decide) rfl (by decide) (law_sum (n + 1) ss l S v z1)) (by decide) rfl
    have s2 : exS tab (pg.run (n + 2)) (.asg 4 (.call "_law_draw" [.var 0, .lit (.int 5)])) (E (some (true, .lst ((lsum ss l).map cD))) none none none none) S = .nx (E (some (true, .lst ((lsum ss l).map cD))) (some (false, .int kd)) none none none) S1 :=
      zt_asg (env' := E (some (true, .lst ((lsum ss l).map cD))) none none none none) (m := .fz) rfl (zv_call2 (m := .fz) (m2 := .fz) rfl (by decide) rfl (by decide) e1) (by decide) rfl
    let env5 : Mp.Env := E (some (true, .lst (B2.map cD))) (some (false, .int kd)) a5 none none
    have s6 : exS tab (pg.run (n + 2)) fg3 env5 S4 = .nx (E (some (true, .lst (B2.map cD))) (some (false, .int kd)) a5 (some (false, .int t.1)) (some (false, .int t.2))) S6 :=
      zt_asgT (env' := env5) (m := .fz) rfl (zv_tup2 (draw_sub (n + 2) (x := .var 0) (y := .lit (.int 21)) (env := env5) rfl rfl e5) (by decide) (draw_sub (n + 2) (x := .var 0) (y := .lit (.int 21)) (env := env5) rfl rfl e6) (by decide)) (by decide) rfl
    let env6 : Mp.Env := E (some (true, .lst (B2.map cD))) (some (false, .int kd)) a5 (some (false, .int t.1)) (some (false, .int t.2))
    have ec : evE tab (pg.run (n + 2)) (.comp [8, 9] (.tp [8, 9]) (.ov (.var 3)) [] (.tup [.bin .add (.var 8) (.var 6), .bin .add (.var 9) (.var 7)])) env6 S6 = .ok .fr (.lst ((B2.map fun c => addC c t).map cD)) S6 := by
      refine compE (br := true) (ds := B2.map cD) (S1 := S6) rfl ?_
      rw [compL_of (f := cD) (g := fun q => some (cD (addC q t))) fun q hq => rfl]
      rw [List.map_map, List.filterMap_eq_map']
      rfl
    have run : exL tab (pg.run (n + 2)) [.asg 3 (.call "_law_sum" [.var 1, .var 2]), .asg 4 (.call "_law_draw" [.var 0, .lit (.int 5)]), fg0, fg1, fg2, fg3, .ret fg4] (E none none none none none) S = .rt .fz (csD (srt (B2.map fun c => addC c t))) S6 := by
      refine zt_seq s1 (zt_seq s2 (zt_seq e2 (zt_seq e3 (zt_seq e4 (zt_seq s6 ?_)))))
      refine zt_end (zt_ret (fun i z => by cases z) (env' := env6) rfl ?_ (by decide))
      exact zv_blt1 (zv_blt1 ec (b_sort (sort_cs nd2 (by rw [List.length_map]; omega)))) rfl
    rw [r__law_figure, fg_eq]
    show endR (exL tab (pg.run (n + 2)) _ (E none none none none none) S) = _
    rw [run]
    rfl
  · have := srt_le (B2.map fun c => addC c t)
    rw [List.length_map] at this
    omega
  · obtain ⟨d, hd, rfl⟩ := List.mem_map.mp (mem_srt.mp hc)
    have := f4.bd d hd
    show Bd 18 (addC d (x - 10, y - 10))
    unfold Bd addC at *
    dsimp only
    omega
end K28
set_option Elab.async false
set_option maxRecDepth 100000
set_option maxHeartbeats 4000000
/-! P28w: what a turn of the law asks, piece by piece. -/
namespace K28
open PySem Mp
/-- a comprehension that draws -/
theorem compL_dr {α : Type} {g : α → Mp.D} {Q : α → Prop} {P : Nat → Sr → Prop} {turn : Mp.D → Sr → Option (Option Mp.D × Sr)} (h : ∀ (d : Mp.D) j S, P (j + 1) S → ∃ a S', turn d S = some (some (g a), S') ∧ Q a ∧ P j S') : ∀ (ds : List Mp.D) (i : Nat) (S : Sr), P (i + ds.length) S →
    ∃ (as : List α) (S' : Sr), compL turn ds S = some (as.map g, S') ∧ as.length = ds.length ∧ (∀ a ∈ as, Q a) ∧ P i S'
  | [], i, S, p => ⟨[], S, rfl, rfl, nofun, p⟩
  | d :: ds, i, S, p => by
    obtain ⟨a, S1, e1, q1, p1⟩ := h d (i + ds.length) S p
    obtain ⟨as, S2, e2, q2, q3, p2⟩ := compL_dr h ds i S1 p1
    refine ⟨a :: as, S2, ?_, by rw [List.length_cons, List.length_cons, q2], fun x hx => ?_, p2⟩
    · rw [compL, e1]
      dsimp only
      rw [e2]
      rfl
    · rcases List.mem_cons.mp hx with rfl | z
      · exact q1
      · exact q3 x z
abbrev enL (a2 a3 a4 a5 a6 a7 a8 a9 a10 a11 a12 a13 a14 a15 a16 : Sl) : Mp.Env := [none, some (false, .src), a2, a3, a4, a5, a6, a7, a8, a9, a10, a11, a12, a13, a14, a15, a16]
def tStock : Xp := .comp [4] (.nm 4) (.rg (.bin .add (.lit (.int 1)) (.call "_law_draw" [.var 1, .lit (.int 4)]))) [] (.call "_law_shape" [.var 1, .lit (.int 4), .lit (.int 2)])
def tNums : Xp := .blt .sorted [.comp [4] (.nm 4) (.rg (.call "_law_draw" [.var 1, .lit (.int 5)])) [] (.call "_law_draw" [.var 1, .blt .len [.var 3]])]
theorem turn_call {T : Tab} {call : Str → List Mp.D → Sr → R} {own : List Nat} {tg : Tg} {e : Xp} {env env' : Mp.Env} {d x : Mp.D} {m : Md} {S S' : Sr} (h : tgD tg d (wipeE env own) = some env') (he : evE T call e env' S = .ok m x S') (hm : m ≠ .br) : turnE T call own tg [] e env d S = some (some x, S') := by
  unfold turnE
  rw [h]
  show (match evE T call e env' S with
    | .ok m x S => if m = Md.br then none else some (some x, S)
    | _ => none) = _
  rw [he]
  exact if_neg hm
theorem ev_stock (k : Nat) (a2 a3 a4 a5 a6 a7 a8 a9 a10 a11 a12 a13 a14 a15 a16 : Sl) (S : Sr) (D : Dr (k + 37) S) :
    ∃ ss S', evE tab (pg.run 60) tStock (enL a2 a3 a4 a5 a6 a7 a8 a9 a10 a11 a12 a13 a14 a15 a16) S = .ok .fr (.lst (ss.map csD)) S' ∧ Ok4 ss ∧ (∀ s ∈ ss, ∀ c ∈ s, Bd 2 c) ∧ Dr k S' := by
  obtain ⟨v, S1, e1, v0, v1, D1⟩ := draw 59 (k := k + 36) D (L := 4) (by decide) (by decide)
  let E := enL a2 a3 a4 a5 a6 a7 a8 a9 a10 a11 a12 a13 a14 a15 a16
  have hi : evI tab (pg.run 60) (.rg (.bin .add (.lit (.int 1)) (.call "_law_draw" [.var 1, .lit (.int 4)]))) E S = .ok false (rangeD 0 (1 + v)) S1 :=
    zi_rg (m := .fz) (zv_bin (m := .fz) (m2 := .fz) (d := .int 1) (d2 := .int v) rfl (zv_call2 (m := .fz) (m2 := .fz) (d := .src) (d2 := .int 4) rfl (by decide) rfl (by decide) e1) rfl) (by omega) (by omega)
  have hl : (rangeD 0 (1 + v)).length = (1 + v).toNat := range_len
  obtain ⟨ss, S2, e2, l2, q2, D2⟩ := compL_dr (g := csD) (Q := fun s => s ≠ [] ∧ s.Pairwise ltC ∧ s.length ≤ 4 ∧ ∀ c ∈ s, Bd 2 c) (P := fun j S => Dr (k + 9 * j) S) (turn := turnE tab (pg.run 60) [4] (.nm 4) [] (.call "_law_shape" [.var 1, .lit (.int 4), .lit (.int 2)]) E) (fun d j S p => by
      obtain ⟨s, S', e, q1, q2, q3, q4, D'⟩ := law_shape 58 (k + 9 * j) 4 4 2 rfl (by decide) (by decide) (by decide) (by decide) S (p.less (by omega))
      refine ⟨s, S', ?_, ⟨q1, q2, q3, q4⟩, D'⟩
      exact turn_call (env' := enL a2 a3 (some (false, d)) a5 a6 a7 a8 a9 a10 a11 a12 a13 a14 a15 a16) rfl (zv_call3 (m := .fz) (m2 := .fz) (m3 := .fz) (d := .src) (d2 := .int 4) (d3 := .int 2) rfl (by decide) rfl (by decide) rfl (by decide) e) (by decide)) (rangeD 0 (1 + v)) 0 S1 (D1.less (by rw [hl]; omega))
  rw [hl] at l2
  exact ⟨ss, S2, compE hi e2, ⟨fun s hs => ⟨(q2 s hs).1, (q2 s hs).2.1⟩, by omega, by omega, fun s hs => (q2 s hs).2.2.1⟩, fun s hs => (q2 s hs).2.2.2, D2⟩
def sortN (l : List Nat) : List Nat := l.foldr insN []
theorem sortN_perm : ∀ l, (sortN l).Perm l
  | [] => .refl _
  | k :: l => (insN_perm k (sortN l)).trans ((sortN_perm l).cons k)
theorem sortN_asc : ∀ l, (sortN l).Pairwise (· ≤ ·)
  | [] => .nil
  | k :: l => insN_asc k (sortN_asc l)
theorem ev_nums (k : Nat) {ss : List (List Ce)} (ok : Ok4 ss) (a2 a4 a5 a6 a7 a8 a9 a10 a11 a12 a13 a14 a15 a16 : Sl) (S : Sr) (D : Dr (k + 5) S) :
    ∃ l S', evE tab (pg.run 60) tNums (enL a2 (some (true, .lst (ss.map csD))) a4 a5 a6 a7 a8 a9 a10 a11 a12 a13 a14 a15 a16) S = .ok .fr (numD l) S' ∧ Vd ss l ∧ l.Pairwise (· ≤ ·) ∧ l.length ≤ 4 ∧ Dr k S' := by
  obtain ⟨v, S1, e1, v0, v1, D1⟩ := draw 59 (k := k + 4) D (L := 5) (by decide) (by decide)
  let E := enL a2 (some (true, .lst (ss.map csD))) a4 a5 a6 a7 a8 a9 a10 a11 a12 a13 a14 a15 a16
  have hi : evI tab (pg.run 60) (.rg (.call "_law_draw" [.var 1, .lit (.int 5)])) E S = .ok false (rangeD 0 v) S1 :=
    zi_rg (m := .fz) (zv_call2 (m := .fz) (m2 := .fz) (d := .src) (d2 := .int 5) rfl (by decide) rfl (by decide) e1) (by omega) (by omega)
  have hl : (rangeD 0 v).length = v.toNat := range_len
  have o1 := ok.l1
  have o4 := ok.l4
  obtain ⟨l, S2, e2, l2, q2, D2⟩ := compL_dr (g := fun (x : Nat) => Mp.D.int (x : Int)) (Q := fun x => x < ss.length) (P := fun j S => Dr (k + j) S) (turn := turnE tab (pg.run 60) [4] (.nm 4) [] (.call "_law_draw" [.var 1, .blt .len [.var 3]]) E) (fun d j S p => by
      obtain ⟨u, S', e, u0, u1, D'⟩ := draw 59 (k := k + j) p (L := (ss.length : Int)) (by omega) (by omega)
      obtain ⟨x, rfl⟩ : ∃ x : Nat, u = (x : Int) := ⟨u.toNat, by omega⟩
      refine ⟨x, S', ?_, by omega, D'⟩
      refine turn_call (env' := enL a2 (some (true, .lst (ss.map csD))) (some (false, d)) a5 a6 a7 a8 a9 a10 a11 a12 a13 a14 a15 a16) rfl (zv_call2 (m := .fz) (m2 := .fz) (d := .src) (d2 := .int (ss.length : Int)) rfl (by decide) ?_ (by decide) e) (by decide)
      refine zv_blt1 (m := .br) (d := .lst (ss.map csD)) rfl ?_
      show R.ok .fz (.int ((ss.map csD).length : Int)) S = _
      rw [List.length_map]) (rangeD 0 v) 0 S1 (D1.less (by rw [hl]; omega))
  rw [hl] at l2
  have pm := sortN_perm l
  refine ⟨sortN l, S2, ?_, fun x hx => q2 x (pm.mem_iff.mp hx), sortN_asc l, by rw [pm.length_eq]; omega, D2.less (by omega)⟩
  refine zv_blt1 (compE hi e2) (b_sort ?_)
  have e : (l.map fun (x : Nat) => Mp.D.int (x : Int)) = (intsN l).map .int := by
    unfold intsN
    rw [List.map_map]
    rfl
  rw [e]
  refine sortD_ints _ _ (pm.map _) (List.Pairwise.map _ (fun a b z => by omega) (sortN_asc l)) ?_
  unfold intsN
  have : (2000 : Nat) < szMax := by decide
  rw [List.length_map]
  omega
/-- a call whose list is new -/
theorem zv_callN2 {T : Tab} {call : Str → List Mp.D → Sr → R} {f : Str} {x y : Xp} {env : Mp.Env} {m m2 : Md} {d d2 : Mp.D} {r : R} {S S1 S2 : Sr} (h : evE T call x env S = .ok m d S1) (hm : m ≠ .br) (h2 : evE T call y env S1 = .ok m2 d2 S2) (hm2 : m2 ≠ .br) (hn : D.noIs [d, d2] = true) (hr : newI (call f [d, d2] S2) = r) : evE T call (.callN f [x, y]) env S = r := by
  rw [evE, evEs.eq_def]
  dsimp only
  rw [h]
  dsimp only
  rw [if_neg hm, evEs.eq_def]
  dsimp only
  rw [h2]
  dsimp only
  rw [if_neg hm2, evEs.eq_def]
  show (if D.noIs [d, d2] = true then newI (call f [d, d2] S2) else .bad) = _
  rw [if_pos hn, hr]
theorem noI_cs (f : List Ce) : D.noI (csD f) = true := by
  show D.noIs (f.map cD) = true
  induction f with
  | nil => rfl
  | cons c f ih =>
    rw [List.map_cons, D.noIs, ih]
    rfl
theorem noI_st {ss : List (List Ce)} (h : 1 ≤ ss.length) : D.noI (.lst (ss.map csD)) = true := by
  have k : ∀ l : List (List Ce), D.noIs (l.map csD) = true := by
    intro l
    induction l with
    | nil => rfl
    | cons a l ih =>
      rw [List.map_cons, D.noIs, ih, noI_cs]
      rfl
  show (!(intsOf (ss.map csD)).isSome && D.noIs (ss.map csD)) = true
  rw [k]
  cases ss with
  | nil => simp at h
  | cons s ss => rfl
def newM : Option (List Nat) → Md
  | some _ => .fr
  | none => .fz
theorem newM_no (r : Option (List Nat)) : newM r ≠ .br := by cases r <;> exact (fun z => nomatch z)
theorem newI_res (r : Option (List Nat)) (S : Sr) : newI (.ok .fz (resD r) S) = .ok (newM r) (resD r) S := by
  cases r with
  | none => rfl
  | some l =>
    have e : intsOf ((intsN l).map Mp.D.int) = some (intsN l) := by
      have := intsOf_mapI (fun x => x) (intsN l)
      rw [List.map_id'] at this
      exact this
    show (if Md.fz ≠ .br ∧ (intsOf ((intsN l).map Mp.D.int)).isSome = true then R.ok .fr (.lst ((intsN l).map Mp.D.int)) S else .bad) = _
    rw [e, if_pos ⟨by decide, rfl⟩]
    rfl
theorem ne_res (r : Option (List Nat)) : cmpD .ne (resD r) (resD r) = some false := by
  cases r with
  | none => rfl
  | some l =>
    show cmpD .ne (numD l) (numD l) = _
    rw [ne_num, decide_eq_true rfl]
    rfl
theorem ne_stock (ss : List (List Ce)) : cmpD .ne (.lst (ss.map csD)) (.lst (ss.map csD)) = some false := by
  have k : ∀ l : List (List Ce), D.oks (l.map csD) 59 = true ∧ D.eqbs (l.map csD) (l.map csD) = true := by
    intro l
    induction l with
    | nil => exact ⟨rfl, rfl⟩
    | cons a l ih =>
      rw [List.map_cons, D.oks, D.eqbs, ih.1, ih.2, ok_csD, eqb_cs, decide_eq_true rfl]
      exact ⟨rfl, rfl⟩
  show (if (Mp.D.lst (ss.map csD)).ok 60 && (Mp.D.lst (ss.map csD)).ok 60 then some (D.eqb (.lst (ss.map csD)) (.lst (ss.map csD))) else none).map (!·) = _
  have k1 : (Mp.D.lst (ss.map csD)).ok 60 = true := (k ss).1
  have k2 : D.eqb (.lst (ss.map csD)) (.lst (ss.map csD)) = true := (k ss).2
  rw [k1, k2]
  rfl
/-- the stock, carried -/
def mv3 (c : Ce) : Ce := (c.1 + 3, c.2 - 2)
def carr (ss : List (List Ce)) : List (List Ce) := ss.map fun s => s.map mv3
def tCarr : Xp := .comp [13] (.nm 13) (.ov (.var 3)) [] (.blt .tuple [.comp [11, 12] (.tp [11, 12]) (.ov (.var 13)) [] (.tup [.bin .add (.var 11) (.lit (.int 3)), .bin .sub (.var 12) (.lit (.int 2))])])
theorem ev_carr (ss : List (List Ce)) (a2 a4 a5 a6 a7 a8 a9 a10 a11 a12 a13 a14 a15 a16 : Sl) (S : Sr) :
    evE tab (pg.run 60) tCarr (enL a2 (some (false, .lst (ss.map csD))) a4 a5 a6 a7 a8 a9 a10 a11 a12 a13 a14 a15 a16) S = .ok .fr (.lst ((carr ss).map csD)) S := by
  let E := enL a2 (some (false, .lst (ss.map csD))) a4 a5 a6 a7 a8 a9 a10 a11 a12 a13 a14 a15 a16
  refine compE (br := false) (ds := ss.map csD) (S1 := S) rfl ?_
  rw [compL_of (f := csD) (g := fun s => some (csD (s.map mv3))) fun s hs => ?_]
  · unfold carr
    rw [List.map_map, List.filterMap_eq_map']
    rfl
  · refine turn_call (env' := enL a2 (some (false, .lst (ss.map csD))) a4 a5 a6 a7 a8 a9 a10 a11 a12 (some (false, csD s)) a14 a15 a16) (m := .fz) rfl ?_ (by decide)
    refine zv_blt1 (m := .fr) (d := .lst ((s.map mv3).map cD)) ?_ rfl
    refine compE (br := false) (ds := s.map cD) (S1 := S) rfl ?_
    rw [compL_of (f := cD) (g := fun q => some (cD (mv3 q))) fun q hq => rfl]
    rw [List.map_map, List.filterMap_eq_map']
    rfl
theorem mv3_mv (s : List Ce) : Mv s (s.map mv3) := ⟨(3, -2), fun c => by
  rw [List.mem_map]
  have e : ∀ d : Ce, mv3 d = addC d (3, -2) := fun d => by
    unfold mv3 addC
    ext <;> dsimp only <;> omega
  constructor
  · rintro ⟨d, hd, rfl⟩
    exact ⟨d, hd, (e d).symm⟩
  · rintro ⟨d, hd, rfl⟩
    exact ⟨d, hd, e d⟩⟩
theorem carr_sh {ss : List (List Ce)} {k : Nat} (h : k < ss.length) : sh (carr ss) k = (sh ss k).map mv3 := by
  unfold sh carr
  rw [List.getD_eq_getElem?_getD, List.getD_eq_getElem?_getD, List.getElem?_map, List.getElem?_eq_getElem h]
  rfl
theorem carr_ok {ss : List (List Ce)} (ok : Ok4 ss) : Ok4 (carr ss) := by
  refine ⟨fun s hs => ?_, by unfold carr; rw [List.length_map]; exact ok.l1, by unfold carr; rw [List.length_map]; exact ok.l4, fun s hs => ?_⟩
  · obtain ⟨t, ht, rfl⟩ := List.mem_map.mp hs
    obtain ⟨q1, q2⟩ := ok.stk t ht
    refine ⟨fun z => q1 (List.map_eq_nil_iff.mp z), List.Pairwise.map _ (fun a b h => ?_) q2⟩
    unfold ltC mv3 at *
    dsimp only
    omega
  · obtain ⟨t, ht, rfl⟩ := List.mem_map.mp hs
    rw [List.length_map]
    exact ok.s4 t ht
/-! ### the doors are open -/
theorem asc_cs {s : List Ce} (h : s.Pairwise ltC) : asc (s.map cD) = true := by
  unfold asc
  rw [List.all_eq_true]
  intro i hi
  rw [List.mem_range, List.length_map] at hi
  have h1 : i < s.length := by omega
  have h2 : i + 1 < s.length := by omega
  rw [List.getElem?_map, List.getElem?_map, List.getElem?_eq_getElem h1, List.getElem?_eq_getElem h2]
  show dltb (cD s[i]) (cD s[i + 1]) = true
  rw [cD_row, cD_row, dltb_tup]
  exact decide_eq_true (row2_lt.mpr (List.pairwise_iff_getElem.mp h i (i + 1) h1 h2 (by omega)))
theorem tab_cs {s : List Ce} {k : Nat} {m : Int} (h0 : s ≠ []) (h : s.Pairwise ltC) (hk : s.length ≤ k) (hb : ∀ c ∈ s, Bd m c) : isTab k m (csD s) = true := by
  show (decide (1 ≤ (s.map cD).length) && decide ((s.map cD).length ≤ k) && (s.map cD).all (isCel m) && asc (s.map cD)) = true
  have l0 := List.length_pos_iff.mpr h0
  rw [asc_cs h, List.length_map, decide_eq_true (show 1 ≤ s.length by omega), decide_eq_true hk, Bool.and_true, Bool.true_and, Bool.true_and, List.all_eq_true]
  intro d hd
  obtain ⟨c, hc, rfl⟩ := List.mem_map.mp hd
  obtain ⟨b1, b2, b3, b4⟩ := hb c hc
  show (decide (-m ≤ c.1) && decide (c.1 ≤ m) && (decide (-m ≤ c.2) && decide (c.2 ≤ m))) = true
  rw [decide_eq_true b1, decide_eq_true b2, decide_eq_true b3, decide_eq_true b4]
  rfl
theorem sto_cs {ss : List (List Ce)} (ok : Ok4 ss) (hb : ∀ s ∈ ss, ∀ c ∈ s, Bd 20 c) : isSto (.lst (ss.map csD)) = true := by
  have l1 := ok.l1
  have l4 := ok.l4
  show (decide (1 ≤ (ss.map csD).length) && decide ((ss.map csD).length ≤ 6) && (ss.map csD).all (isTab 12 20)) = true
  rw [List.length_map, decide_eq_true l1, decide_eq_true (show ss.length ≤ 6 by omega), Bool.true_and, Bool.true_and, List.all_eq_true]
  intro d hd
  obtain ⟨s, hs, rfl⟩ := List.mem_map.mp hd
  obtain ⟨q1, q2⟩ := ok.stk s hs
  exact tab_cs q1 q2 (Nat.le_trans (ok.s4 s hs) (by decide)) (hb s hs)
/-- fewest_sums, with what the law draws -/
theorem fs_law (n : Nat) {f : List Ce} {ss : List (List Ce)} (ok : Ok4 ss) (hb : ∀ s ∈ ss, ∀ c ∈ s, Bd 20 c) (f0 : f ≠ []) (fa : f.Pairwise ltC) (fl : f.length ≤ 30) (fb : ∀ c ∈ f, Bd 60 c) (S : Sr) : ∃ r, Full (corner f) ss r ∧ pg.run (n + 6) "fewest_sums" [csD f, .lst (ss.map csD)] S = .ok .fz (resD r) S := by
  obtain ⟨r, h1, h2⟩ := fs_good n f ss S (tab_cs f0 fa fl fb) (sto_cs ok hb) f0 (asc_nodup fa) fl ok.stk ok.l4 fun s hs => Nat.le_trans (ok.s4 s hs) (by decide)
  refine ⟨r, h1, ?_⟩
  rw [h2]
  cases r <;> rfl
theorem corner_bd {f : List Ce} {m : Int} (h : ∀ c ∈ f, Bd m c) : ∀ c ∈ corner f, Bd (2 * m) c := by
  intro c hc
  have h1 := mem_corner.mp hc
  have ne := List.ne_nil_of_mem h1
  have hx : (f.map (·.1)) ≠ [] := fun z => ne (List.map_eq_nil_iff.mp z)
  have hy : (f.map (·.2)) ≠ [] := fun z => ne (List.map_eq_nil_iff.mp z)
  obtain ⟨p, hp, ep⟩ := List.mem_map.mp (mnL_mem hx)
  obtain ⟨q, hq, eq⟩ := List.mem_map.mp (mnL_mem hy)
  have b1 := h _ h1
  have b2 := h p hp
  have b3 := h q hq
  unfold Bd addC mn at *
  dsimp only at *
  omega
theorem cut_last (l : List Nat) : cutD ((intsN l).map Mp.D.int ++ [.non]) none (some (-1)) = (intsN l).map Mp.D.int := by
  unfold cutD
  have hl : ((intsN l).map Mp.D.int ++ [Mp.D.non]).length = l.length + 1 := by
    unfold intsN
    simp
  have e : HT.sIx (l.length + 1) (l.length + 1) (some (-1)) = l.length := by
    simp [HT.sIx]
    omega
  rw [hl, e, HT.sIx_none, List.drop_zero, Nat.sub_zero]
  have l2 : l.length = ((intsN l).map Mp.D.int).length := by
    unfold intsN
    simp
  rw [l2, List.take_left]
end K28
set_option Elab.async false
set_option maxRecDepth 100000
set_option maxHeartbeats 4000000
/-! P28x: a turn of the law. -/
namespace K28
open PySem Mp
def tFit : Xp := .bool false [.not (.call "_law_fits" [.var 6, .var 3, .var 7]), .cmp .ne (.var 3) (.var 8)]
def tSame : Xp := .bool false [.cmp .ne (.call "fewest_sums" [.var 6, .var 10]) (.var 9), .cmp .ne (.call "fewest_sums" [.call "_law_corner" [.var 6], .var 3]) (.var 9)]
def tLast : List Mp.St := [
        .app 9 (.lit .non),
        .ite (.cmp .ne (.call "fewest_sums" [.var 6, .var 3]) (.sl (.var 9) none (some (.neg (.lit (.int 1)))))) [
          .ret (.lit (.tr false))] []]
def tDeep : List Mp.St := [
  .ite tFit [.ret (.lit (.tr false))] [],
  .asg 9 (.callN "fewest_sums" [.var 6, .var 3]),
  .asg 10 tCarr,
  .ite tSame [.ret (.lit (.tr false))] [],
  .ite (.cmp .isn (.var 9) (.lit .non)) tLast []]
def tKnown : Mp.St := .ite (.cmp .eq (.call "_law_corner" [.call "_law_sum" [.var 3, .var 5]]) (.call "_law_corner" [.var 6])) [.asg 7 (.var 5)] []
def tSmall : Xp := .cmp .le (.blt .len [.var 6]) (.lit (.int 30))
def turnB : List Mp.St := [
  .asg 3 tStock, .asg 5 tNums, .asg 6 (.call "_law_figure" [.var 1, .var 3, .var 5]), .asg 7 (.lit .non), tKnown, .asg 8 (.blt .list [.var 3]), .ite tSmall tDeep []]
theorem law_parts : b_law = .for_ (.nm 2) (.rg (.lit (.int 30))) turnB :: b_law.drop 1 := rfl
theorem deep (f : List Ce) (ss : List (List Ce)) (ok : Ok4 ss) (hb : ∀ s ∈ ss, ∀ c ∈ s, Bd 2 c) (f0 : f ≠ []) (fa : f.Pairwise ltC) (fl : f.length ≤ 30) (fb : ∀ c ∈ f, Bd 18 c) (kn : Option (List Nat)) (hk : ∀ l, kn = some l → l.length ≤ 4 ∧ Vd ss l ∧ l.Pairwise (· ≤ ·) ∧ cs ss l = corner f)
    (a2 a4 a5 a9 a10 a11 a12 a13 a14 a15 a16 : Sl) (S : Sr) : ∃ b8 b9 b10, exL tab (pg.run 60) tDeep (enL a2 (some (false, .lst (ss.map csD))) a4 a5 (some (false, csD f)) (some (false, resD kn)) (some (true, .lst (ss.map csD))) a9 a10 a11 a12 a13 a14 a15 a16) S =
      .nx (enL a2 (some (false, .lst (ss.map csD))) a4 a5 (some (false, csD f)) (some (false, resD kn)) b8 b9 b10 a11 a12 a13 a14 a15 a16) S := by
  have hb20 : ∀ s ∈ ss, ∀ c ∈ s, Bd 20 c := fun s hs c hc => (hb s hs c hc).mono (by decide)
  have fb60 : ∀ c ∈ f, Bd 60 c := fun c hc => (fb c hc).mono (by decide)
  have fz : f.length ≤ szMax := Nat.le_trans fl (by decide)
  have fn := asc_nodup fa
  obtain ⟨r0, full0, fs0⟩ := fs_law 53 ok hb20 f0 fa fl fb60 S
  have fit := law_fits 53 ok f0 fa fl S full0 fs0 hk
  obtain ⟨r, full, fs⟩ := fs_law 54 ok hb20 f0 fa fl fb60 S
  have cb : ∀ s ∈ carr ss, ∀ c ∈ s, Bd 20 c := fun s hs c hc => by
    obtain ⟨t, ht, rfl⟩ := List.mem_map.mp hs
    obtain ⟨d, hd, rfl⟩ := List.mem_map.mp hc
    have := hb t ht d hd
    unfold Bd mv3 at *
    dsimp only
    omega
  obtain ⟨r2, full2, fs2⟩ := fs_law 54 (carr_ok ok) cb f0 fa fl fb60 S
  have e2 : r2 = r := full_one (full_moved ok.stk (by unfold carr; rw [List.length_map]) (fun k hk => by rw [carr_sh hk]; exact mv3_mv _) full2) full
  subst e2
  have cl : (corner f).length ≤ 30 := by
    have h1 := srt_le (f.map fun c => subC c (mnL (f.map (·.1)), mnL (f.map (·.2))))
    rw [List.length_map] at h1
    exact Nat.le_trans h1 fl
  obtain ⟨r3, full3, fs3⟩ := fs_law 54 ok hb20 (corner_ne f0) (corner_asc f) cl (fun c hc => (corner_bd fb c hc).mono (by decide)) S
  rw [corner_idem f0] at full3
  have e3 := full_one full3 full
  subst e3
  let St : Sl := some (false, .lst (ss.map csD))
  let Fg : Sl := some (false, csD f)
  let Kn : Sl := some (false, resD kn)
  let Kp : Sl := some (true, .lst (ss.map csD))
  let E : Sl → Sl → Mp.Env := fun x9 x10 => enL a2 St a4 a5 Fg Kn Kp x9 x10 a11 a12 a13 a14 a15 a16
  have s1 : exS tab (pg.run 60) (.ite tFit [.ret (.lit (.tr false))] []) (E a9 a10) S = .nx (E a9 a10) S := by
    have c1 : evE tab (pg.run 60) (.not (.call "_law_fits" [.var 6, .var 3, .var 7])) (E a9 a10) S = .ok .fz (.bl false) S :=
      zv_not (b := true) (zv_call3 (m := .fz) (m2 := .fz) (m3 := .fz) (d := csD f) (d2 := .lst (ss.map csD)) (d3 := resD kn) rfl (by decide) rfl (by decide) rfl (by decide) fit)
    have c2 : evE tab (pg.run 60) (.cmp .ne (.var 3) (.var 8)) (E a9 a10) S = .ok .fz (.bl false) S := zv_cmp (m := .fz) (m2 := .br) (d := .lst (ss.map csD)) (d2 := .lst (ss.map csD)) rfl rfl (ne_stock ss)
    exact zt_ite_f (env' := E a9 a10) rfl (zv_bool2 c1 fun _ => c2)
  have hmd := newM_no r3
  let b9 : Sl := some (decide (newM r3 = .fr), resD r3)
  have s2 : exS tab (pg.run 60) (.asg 9 (.callN "fewest_sums" [.var 6, .var 3])) (E a9 a10) S = .nx (E b9 a10) S := by
    refine zt_asg (env' := E a9 a10) rfl (zv_callN2 (m := .fz) (m2 := .fz) (d := csD f) (d2 := .lst (ss.map csD)) rfl (by decide) rfl (by decide) ?_ (by rw [fs]; exact newI_res r3 S)) hmd rfl
    rw [D.noIs, D.noIs, noI_cs, noI_st ok.l1]
    rfl
  have s3 : exS tab (pg.run 60) (.asg 10 tCarr) (E b9 a10) S = .nx (E b9 (some (true, .lst ((carr ss).map csD)))) S := zt_asg (env' := E b9 a10) rfl (ev_carr ss a2 a4 a5 Fg Kn Kp b9 a10 a11 a12 a13 a14 a15 a16 S) (by decide) rfl
  let E4 : Mp.Env := E b9 (some (false, .lst ((carr ss).map csD)))
  have v9 : ∃ m, evE tab (pg.run 60) (.var 9) E4 S = .ok m (resD r3) S := by
    cases r3 with
    | none => exact ⟨.fz, rfl⟩
    | some l => exact ⟨.br, rfl⟩
  obtain ⟨m9, v9⟩ := v9
  have s4 : exS tab (pg.run 60) (.ite tSame [.ret (.lit (.tr false))] []) (E b9 (some (true, .lst ((carr ss).map csD)))) S = .nx E4 S := by
    have c1 : evE tab (pg.run 60) (.cmp .ne (.call "fewest_sums" [.var 6, .var 10]) (.var 9)) E4 S = .ok .fz (.bl false) S :=
      zv_cmp (zv_call2 (m := .fz) (m2 := .fz) (d := csD f) (d2 := .lst ((carr ss).map csD)) rfl (by decide) rfl (by decide) fs2) v9 (ne_res r3)
    have c2 : evE tab (pg.run 60) (.cmp .ne (.call "fewest_sums" [.call "_law_corner" [.var 6], .var 3]) (.var 9)) E4 S = .ok .fz (.bl false) S :=
      zv_cmp (zv_call2 (m := .fz) (m2 := .fz) (d := csD (corner f)) (d2 := .lst (ss.map csD)) (law_w 59 f0 fn fz (x := .var 6) (env := E4) (S := S) (m := .fz) rfl (by decide)) (by decide) rfl (by decide) fs3) v9 (ne_res r3)
    exact zt_ite_f (env' := E4) rfl (zv_bool2 c1 fun _ => c2)
  cases r3 with
  | none =>
    refine ⟨Kp, b9, some (false, .lst ((carr ss).map csD)), ?_⟩
    refine zt_seq s1 (zt_seq s2 (zt_seq s3 (zt_seq s4 (zt_seq (env' := E4) (S' := S) ?_ rfl))))
    exact zt_ite_f (env' := E4) (m := .fz) rfl (zv_cmp (m := .fz) (m2 := .fz) (d := .non) (d2 := .non) rfl rfl rfl)
  | some l =>
    have ll := full_len ok.stk full
    let c9 : Sl := some (true, .lst ((intsN l).map Mp.D.int ++ [.non]))
    let E5 : Mp.Env := E c9 (some (false, .lst ((carr ss).map csD)))
    refine ⟨Kp, c9, some (false, .lst ((carr ss).map csD)), ?_⟩
    refine zt_seq s1 (zt_seq s2 (zt_seq s3 (zt_seq s4 (zt_seq (env' := E5) (S' := S) ?_ rfl))))
    refine zt_ite_t (env' := E4) (m := .fz) rfl (zv_cmp (m := .br) (m2 := .fz) (d := numD l) (d2 := .non) rfl rfl rfl) ?_
    have ap : exS tab (pg.run 60) (.app 9 (.lit .non)) E4 S = .nx E5 S := by
      rw [exS]
      show (if ((intsN l).map Mp.D.int).length < szMax then Ro.nx E5 S else .bad) = _
      refine if_pos ?_
      have : (2000 : Nat) < szMax := by decide
      unfold intsN
      rw [List.length_map, List.length_map]
      omega
    refine zt_seq ap (zt_seq (env' := E5) (S' := S) ?_ rfl)
    have c1 : evE tab (pg.run 60) (.sl (.var 9) none (some (.neg (.lit (.int 1))))) E5 S = .ok .fr (numD l) S := by
      have e : evE tab (pg.run 60) (.sl (.var 9) none (some (.neg (.lit (.int 1))))) E5 S = .ok .fr (.lst (cutD ((intsN l).map Mp.D.int ++ [.non]) none (some (-1)))) S := rfl
      rw [e, cut_last]
      rfl
    exact zt_ite_f (env' := E5) rfl (zv_cmp (zv_call2 (m := .fz) (m2 := .fz) (d := csD f) (d2 := .lst (ss.map csD)) rfl (by decide) rfl (by decide) fs) c1 (ne_res (some l)))
theorem law_turn (k : Nat) (d : Mp.D) (a2 a3 a4 a5 a6 a7 a8 a9 a10 a11 a12 a13 a14 a15 a16 : Sl) (S : Sr) (D : Dr (k + 65) S) :
    ∃ b3 b5 b6 b7 b8 b9 b10 S', bodyF tab (pg.run 60) (.nm 2) turnB d (enL a2 a3 a4 a5 a6 a7 a8 a9 a10 a11 a12 a13 a14 a15 a16) S = .nx (enL (some (false, d)) b3 a4 b5 b6 b7 b8 b9 b10 a11 a12 a13 a14 a15 a16) S' ∧ Dr k S' := by
  let A2 : Sl := some (false, d)
  obtain ⟨ss, S1, e1, ok, bd, D1⟩ := ev_stock (k + 28) A2 a3 a4 a5 a6 a7 a8 a9 a10 a11 a12 a13 a14 a15 a16 S D
  obtain ⟨l, S2, e2, v, la, l4, D2⟩ := ev_nums (k + 23) ok A2 a4 a5 a6 a7 a8 a9 a10 a11 a12 a13 a14 a15 a16 S1 D1
  obtain ⟨f, S3, e3, f0, fa, fl, fb, D3⟩ := law_figure 57 k ok bd v l4 S2 D2
  have fz : f.length ≤ szMax := Nat.le_trans fl (by decide)
  have fn := asc_nodup fa
  let St : Sl := some (false, .lst (ss.map csD))
  let Nu : Sl := some (false, numD l)
  let Fg : Sl := some (false, csD f)
  let E : Sl → Sl → Mp.Env := fun x7 x8 => enL A2 St a4 Nu Fg x7 x8 a9 a10 a11 a12 a13 a14 a15 a16
  have s1 : exS tab (pg.run 60) (.asg 3 tStock) (enL A2 a3 a4 a5 a6 a7 a8 a9 a10 a11 a12 a13 a14 a15 a16) S = .nx (enL A2 (some (true, .lst (ss.map csD))) a4 a5 a6 a7 a8 a9 a10 a11 a12 a13 a14 a15 a16) S1 :=
    zt_asg (env' := enL A2 a3 a4 a5 a6 a7 a8 a9 a10 a11 a12 a13 a14 a15 a16) rfl e1 (by decide) rfl
  have s2 : exS tab (pg.run 60) (.asg 5 tNums) (enL A2 (some (true, .lst (ss.map csD))) a4 a5 a6 a7 a8 a9 a10 a11 a12 a13 a14 a15 a16) S1 = .nx (enL A2 (some (true, .lst (ss.map csD))) a4 (some (true, numD l)) a6 a7 a8 a9 a10 a11 a12 a13 a14 a15 a16) S2 :=
    zt_asg (env' := enL A2 (some (true, .lst (ss.map csD))) a4 a5 a6 a7 a8 a9 a10 a11 a12 a13 a14 a15 a16) rfl e2 (by decide) rfl
  have s3 : exS tab (pg.run 60) (.asg 6 (.call "_law_figure" [.var 1, .var 3, .var 5])) (enL A2 (some (true, .lst (ss.map csD))) a4 (some (true, numD l)) a6 a7 a8 a9 a10 a11 a12 a13 a14 a15 a16) S2 = .nx (E a7 a8) S3 :=
    zt_asg (env' := enL A2 St a4 Nu a6 a7 a8 a9 a10 a11 a12 a13 a14 a15 a16) (m := .fz) rfl (zv_call3 (m := .fz) (m2 := .fz) (m3 := .fz) (d := .src) (d2 := .lst (ss.map csD)) (d3 := numD l) rfl (by decide) rfl (by decide) rfl (by decide) e3) (by decide) rfl
  have s4 : exS tab (pg.run 60) (.asg 7 (.lit .non)) (E a7 a8) S3 = .nx (E (some (false, .non)) a8) S3 := zt_asg (env' := E a7 a8) (m := .fz) (d := .non) rfl rfl (by decide) rfl
  obtain ⟨z1, z2⟩ := ok.okz v l4
  have c1 : evE tab (pg.run 60) (.cmp .eq (.call "_law_corner" [.call "_law_sum" [.var 3, .var 5]]) (.call "_law_corner" [.var 6])) (E (some (false, .non)) a8) S3 = .ok .fz (.bl (decide (cs ss l = corner f))) S3 :=
    zv_cmp (law_cs 59 ok.stk v z1 (Nat.le_trans z2 (by decide)) (m1 := .fz) (m2 := .fz) rfl (by decide) rfl (by decide)) (law_w 59 f0 fn fz (m := .fz) rfl (by decide)) (eq_cs _ _)
  let kn : Option (List Nat) := if cs ss l = corner f then some l else none
  have hk : ∀ x, kn = some x → x.length ≤ 4 ∧ Vd ss x ∧ x.Pairwise (· ≤ ·) ∧ cs ss x = corner f := by
    intro x hx
    show _ ∧ _
    by_cases h : cs ss l = corner f
    · have : kn = some l := if_pos h
      rw [this] at hx
      cases hx
      exact ⟨l4, v, la, h⟩
    · have : kn = none := if_neg h
      rw [this] at hx
      cases hx
  have s5 : exS tab (pg.run 60) tKnown (E (some (false, .non)) a8) S3 = .nx (E (some (false, resD kn)) a8) S3 := by
    by_cases h : cs ss l = corner f
    · have e : kn = some l := if_pos h
      rw [decide_eq_true h] at c1
      rw [e]
      exact zt_ite_t (env' := E (some (false, .non)) a8) rfl c1 (zt_seq (zt_asg (env' := E (some (false, .non)) a8) (m := .fz) (d := numD l) rfl rfl (by decide) rfl) rfl)
    · have e : kn = none := if_neg h
      rw [decide_eq_false h] at c1
      rw [e]
      exact zt_ite_f (env' := E (some (false, .non)) a8) rfl c1
  have s6 : exS tab (pg.run 60) (.asg 8 (.blt .list [.var 3])) (E (some (false, resD kn)) a8) S3 = .nx (E (some (false, resD kn)) (some (true, .lst (ss.map csD)))) S3 :=
    zt_asg (env' := E (some (false, resD kn)) a8) (m := .fr) (d := .lst (ss.map csD)) rfl rfl (by decide) rfl
  let E7 : Mp.Env := E (some (false, resD kn)) (some (true, .lst (ss.map csD)))
  have c7 : evE tab (pg.run 60) tSmall E7 S3 = .ok .fz (.bl (decide ((f.length : Int) ≤ 30))) S3 := by
    refine zv_cmp (m := .fz) (m2 := .fz) (d := .int (f.length : Int)) (d2 := .int 30) (zv_blt1 (m := .fz) (d := csD f) rfl ?_) rfl (c_le _ _)
    show R.ok .fz (.int ((f.map cD).length : Int)) S3 = _
    rw [List.length_map]
  by_cases hs : f.length ≤ 30
  · obtain ⟨b8, b9, b10, e7⟩ := deep f ss ok bd f0 fa hs fb kn hk A2 a4 Nu a9 a10 a11 a12 a13 a14 a15 a16 S3
    rw [decide_eq_true (by omega)] at c7
    refine ⟨St, Nu, Fg, some (false, resD kn), b8, b9, b10, S3, ?_, D3⟩
    show exL tab (pg.run 60) turnB (enL A2 a3 a4 a5 a6 a7 a8 a9 a10 a11 a12 a13 a14 a15 a16) S = _
    exact zt_seq s1 (zt_seq s2 (zt_seq s3 (zt_seq s4 (zt_seq s5 (zt_seq s6 (zt_seq (zt_ite_t (env' := E7) rfl c7 e7) rfl))))))
  · rw [decide_eq_false (by omega)] at c7
    refine ⟨St, Nu, Fg, some (false, resD kn), some (true, .lst (ss.map csD)), a9, a10, S3, ?_, D3⟩
    show exL tab (pg.run 60) turnB (enL A2 a3 a4 a5 a6 a7 a8 a9 a10 a11 a12 a13 a14 a15 a16) S = _
    exact zt_seq s1 (zt_seq s2 (zt_seq s3 (zt_seq s4 (zt_seq s5 (zt_seq s6 (zt_seq (zt_ite_f (env' := E7) rfl c7) rfl))))))
end K28
set_option Elab.async false
set_option maxRecDepth 100000
set_option maxHeartbeats 4000000
/-! P28y: the fixed answers; the law. -/
namespace K28
open PySem Mp
def okC (f : List Ce) (ss : List (List Ce)) (r : Option (List Nat)) : Bool :=
  isTab 30 60 (csD f) && isSto (.lst (ss.map csD)) && decide (f ≠ []) && decide f.Nodup && decide (f.length ≤ 30) && decide (ss.length ≤ 4) && decide (∀ s ∈ ss, s.length ≤ 12) && decide (∀ s ∈ ss, s ≠ [] ∧ s.Pairwise ltC) && decide (srch (corner f) ss ((corner f).length + 1) L0 = some r)
theorem fs_closed (n : Nat) {f : List Ce} {ss : List (List Ce)} {r : Option (List Nat)} (h : okC f ss r = true) (S : Sr) : pg.run (n + 6) "fewest_sums" [csD f, .lst (ss.map csD)] S = .ok .fz (resD r) S := by
  unfold okC at h
  simp only [Bool.and_eq_true, decide_eq_true_eq] at h
  obtain ⟨⟨⟨⟨⟨⟨⟨⟨h1, h2⟩, h3⟩, h4⟩, h5⟩, h6⟩, h7⟩, h8⟩, h9⟩ := h
  obtain ⟨r1, q1, q2⟩ := fs_good n f ss S h1 h2 h3 h4 h5 h8 h6 h7
  obtain ⟨r2, q3, q4⟩ := fewest_full (f := (corner f).length + 1) h8 (corner_asc f) (corner_ne h3) (Nat.le_refl _)
  rw [h9] at q3
  cases q3
  rw [q2, full_one q1 q4]
  cases r <;> rfl
def line : List Ce := (List.range 12).map fun (k : Nat) => ((k : Int), (0 : Int))
def two : List Ce := [(0, 0), (1, 0)]
def three : List Ce := [(0, 0), (2, 0)]
def four : List Ce := (List.range 4).map fun (k : Nat) => ((k : Int), (0 : Int))
theorem o1 : okC line [two] (some [0, 0, 0, 0, 0, 0, 0, 0, 0, 0, 0]) = true := by decide +kernel
theorem o2 : okC line [three] none = true := by decide +kernel
theorem o3 : okC line [two, three, four] (some [1, 2, 2, 2]) = true := by decide +kernel
theorem o4 : okC two [[(5, 5)]] none = true := by decide +kernel
theorem o5 : okC [(7, 7)] [two] (some []) = true := by decide +kernel
theorem o6 : okC two [[(5, 5)], two] (some [1]) = true := by decide +kernel
abbrev fsX (a b : Xp) : Xp := .call "fewest_sums" [a, b]
def z0 : Mp.St := .asg3 14 15 16 [.blt .tuple [.comp [4] (.nm 4) (.rg (.lit (.int 12))) [] (.tup [.var 4, .lit (.int 0)])], .tup [.tup [.lit (.int 0), .lit (.int 0)], .tup [.lit (.int 1), .lit (.int 0)]], .tup [.tup [.lit (.int 0), .lit (.int 0)], .tup [.lit (.int 2), .lit (.int 0)]]]
def z1 : Xp := .bool false [.cmp .ne (fsX (.var 14) (.lst [.var 15])) (.bin .mul (.lst [.lit (.int 0)]) (.lit (.int 11))), .cmp .isn (fsX (.var 14) (.lst [.var 16])) (.lit .non)]
def z2 : Xp := .cmp .ne (fsX (.var 14) (.lst [.var 15, .var 16, .blt .tuple [.comp [4] (.nm 4) (.rg (.lit (.int 4))) [] (.tup [.var 4, .lit (.int 0)])]])) (.lst [.lit (.int 1), .lit (.int 2), .lit (.int 2), .lit (.int 2)])
def z3 : Xp := .cmp .isn (fsX (.var 15) (.lst [.tup [.tup [.lit (.int 5), .lit (.int 5)]]])) (.lit .non)
def z4 : Xp := .bool true [.cmp .eq (fsX (.tup [.tup [.lit (.int 7), .lit (.int 7)]]) (.lst [.var 15])) (.lst []), .cmp .eq (fsX (.var 15) (.lst [.tup [.tup [.lit (.int 5), .lit (.int 5)]], .var 15])) (.lst [.lit (.int 1)])]
theorem law_tail : b_law.drop 1 = [z0, .ite z1 [.ret (.lit (.tr false))] [], .ite z2 [.ret (.lit (.tr false))] [], .ite z3 [.ret (.lit (.tr false))] [], .ret z4] := rfl
section
variable (a2 a3 a4 a5 a6 a7 a8 a9 a10 a11 a12 a13 : Sl) (S : Sr)
abbrev enZ : Mp.Env := enL a2 a3 a4 a5 a6 a7 a8 a9 a10 a11 a12 a13 (some (false, csD line)) (some (false, csD two)) (some (false, csD three))
theorem s_z0 : ∃ b4 : Sl, (b4 = none ∨ ∃ d, b4 = some (false, d)) ∧ exS tab (pg.run 60) z0 (enL a2 a3 a4 a5 a6 a7 a8 a9 a10 a11 a12 a13 none none none) S = .nx (enZ a2 a3 b4 a5 a6 a7 a8 a9 a10 a11 a12 a13) S := by
  rcases a4 with _ | ⟨_ | _, d⟩
  · exact ⟨none, .inl rfl, by kernel_rfl⟩
  · exact ⟨some (false, d), .inr ⟨d, rfl⟩, by kernel_rfl⟩
  · exact ⟨some (false, d), .inr ⟨d, rfl⟩, by kernel_rfl⟩
theorem e_30 : evE tab (pg.run 60) (.lst [.var 15, .var 16, .blt .tuple [.comp [4] (.nm 4) (.rg (.lit (.int 4))) [] (.tup [.var 4, .lit (.int 0)])]]) (enZ a2 a3 a4 a5 a6 a7 a8 a9 a10 a11 a12 a13) S = .ok .fr (.lst ([two, three, four].map csD)) S := by kernel_rfl
theorem e_11 : evE tab (pg.run 60) (.bin .mul (.lst [.lit (.int 0)]) (.lit (.int 11))) (enZ a2 a3 a4 a5 a6 a7 a8 a9 a10 a11 a12 a13) S = .ok .fr (numD [0, 0, 0, 0, 0, 0, 0, 0, 0, 0, 0]) S := by kernel_rfl
theorem e_4 : evE tab (pg.run 60) (.lst [.lit (.int 1), .lit (.int 2), .lit (.int 2), .lit (.int 2)]) (enZ a2 a3 a4 a5 a6 a7 a8 a9 a10 a11 a12 a13) S = .ok .fr (numD [1, 2, 2, 2]) S := by kernel_rfl
theorem fin : exL tab (pg.run 60) (b_law.drop 1) (enL a2 a3 a4 a5 a6 a7 a8 a9 a10 a11 a12 a13 none none none) S = .rt .fz (.bl true) S := by
  obtain ⟨b4, hb, e0⟩ := s_z0 a2 a3 a4 a5 a6 a7 a8 a9 a10 a11 a12 a13 S
  let E : Mp.Env := enZ a2 a3 b4 a5 a6 a7 a8 a9 a10 a11 a12 a13
  rw [law_tail]
  refine zt_seq e0 ?_
  have f1 : evE tab (pg.run 60) (fsX (.var 14) (.lst [.var 15])) E S = .ok .fz (resD (some [0, 0, 0, 0, 0, 0, 0, 0, 0, 0, 0])) S := zv_call2 (m := .fz) (m2 := .fr) (d := csD line) (d2 := .lst ([two].map csD)) rfl (by decide) rfl (by decide) (fs_closed 54 o1 S)
  have f2 : evE tab (pg.run 60) (fsX (.var 14) (.lst [.var 16])) E S = .ok .fz (resD none) S := zv_call2 (m := .fz) (m2 := .fr) (d := csD line) (d2 := .lst ([three].map csD)) rfl (by decide) rfl (by decide) (fs_closed 54 o2 S)
  have f3 : evE tab (pg.run 60) (fsX (.var 14) (.lst [.var 15, .var 16, .blt .tuple [.comp [4] (.nm 4) (.rg (.lit (.int 4))) [] (.tup [.var 4, .lit (.int 0)])]])) E S = .ok .fz (resD (some [1, 2, 2, 2])) S := zv_call2 (m := .fz) (m2 := .fr) (d := csD line) (d2 := .lst ([two, three, four].map csD)) rfl (by decide) (e_30 a2 a3 b4 a5 a6 a7 a8 a9 a10 a11 a12 a13 S) (by decide) (fs_closed 54 o3 S)
  have f4 : evE tab (pg.run 60) (fsX (.var 15) (.lst [.tup [.tup [.lit (.int 5), .lit (.int 5)]]])) E S = .ok .fz (resD none) S := zv_call2 (m := .fz) (m2 := .fr) (d := csD two) (d2 := .lst ([[(5, 5)]].map csD)) rfl (by decide) rfl (by decide) (fs_closed 54 o4 S)
  have f5 : evE tab (pg.run 60) (fsX (.tup [.tup [.lit (.int 7), .lit (.int 7)]]) (.lst [.var 15])) E S = .ok .fz (resD (some [])) S := zv_call2 (m := .fz) (m2 := .fr) (d := csD [(7, 7)]) (d2 := .lst ([two].map csD)) rfl (by decide) rfl (by decide) (fs_closed 54 o5 S)
  have f6 : evE tab (pg.run 60) (fsX (.var 15) (.lst [.tup [.tup [.lit (.int 5), .lit (.int 5)]], .var 15])) E S = .ok .fz (resD (some [1])) S := zv_call2 (m := .fz) (m2 := .fr) (d := csD two) (d2 := .lst ([[(5, 5)], two].map csD)) rfl (by decide) rfl (by decide) (fs_closed 54 o6 S)
  have c1 : evE tab (pg.run 60) z1 E S = .ok .fz (.bl false) S := zv_bool2 (b1 := false) (b2 := false) (zv_cmp f1 (e_11 a2 a3 b4 a5 a6 a7 a8 a9 a10 a11 a12 a13 S) (ne_res (some [0, 0, 0, 0, 0, 0, 0, 0, 0, 0, 0]))) fun _ => zv_cmp (m2 := .fz) (d2 := .non) f2 rfl rfl
  have c2 : evE tab (pg.run 60) z2 E S = .ok .fz (.bl false) S := zv_cmp f3 (e_4 a2 a3 b4 a5 a6 a7 a8 a9 a10 a11 a12 a13 S) (ne_res (some [1, 2, 2, 2]))
  have c3 : evE tab (pg.run 60) z3 E S = .ok .fz (.bl false) S := zv_cmp (m2 := .fz) (d2 := .non) f4 rfl rfl
  have c4 : evE tab (pg.run 60) z4 E S = .ok .fz (.bl true) S := zv_bool2 (b1 := true) (b2 := true) (zv_cmp (m2 := .fr) (d2 := numD []) f5 rfl (by show cmpD .eq (numD []) (numD []) = _; rw [eq_num, decide_eq_true rfl])) fun _ => zv_cmp (m2 := .fr) (d2 := numD [1]) f6 rfl (by show cmpD .eq (numD [1]) (numD [1]) = _; rw [eq_num, decide_eq_true rfl])
  refine zt_seq (zt_ite_f (env' := E) rfl c1) (zt_seq (zt_ite_f (env' := E) (by rcases hb with rfl | ⟨d, rfl⟩ <;> rfl) c2) (zt_seq (zt_ite_f (env' := E) rfl c3) (zt_end (zt_ret (fun i z => by cases z) (env' := E) rfl c4 (by decide)))))
end
theorem plain : Plain := by
  intro ns hn
  have c0 : 0 < (cellsOf ns).length ∧ (cellsOf ns).length ≤ 1000 := by
    unfold cellsOf
    split
    · exact ⟨by decide, by decide⟩
    · rename_i h
      rw [List.length_map]
      exact ⟨List.length_pos_iff.mpr h, by omega⟩
  have D0 : Dr (65 * (30 - 0)) ⟨cellsOf ns, 0⟩ := ⟨c0.1, c0.2, Int.le_refl 0, show (0 : Int) + ((1950 : Nat) : Int) < 2 ^ 64 by decide⟩
  obtain ⟨env', S1, e1, a2, a3, a4, a5, a6, a7, a8, a9, a10, a11, a12, a13, rfl, _⟩ := forL_inv (f := bodyF tab (pg.run 60) (.nm 2) turnB)
    (fun i env S => ∃ a2 a3 a4 a5 a6 a7 a8 a9 a10 a11 a12 a13, env = enL a2 a3 a4 a5 a6 a7 a8 a9 a10 a11 a12 a13 none none none ∧ Dr (65 * (30 - i)) S)
    (rangeD 0 30) 0 (env := env0) (S := ⟨cellsOf ns, 0⟩) ⟨none, none, none, none, none, none, none, none, none, none, none, none, rfl, D0⟩ (by
      rintro i d env S hd ⟨a2, a3, a4, a5, a6, a7, a8, a9, a10, a11, a12, a13, rfl, Di⟩
      have hi : i < (rangeD 0 30).length := (List.getElem?_eq_some_iff.mp hd).1
      rw [range_len] at hi
      have hi : i < 30 := hi
      obtain ⟨b3, b5, b6, b7, b8, b9, b10, S', e, D'⟩ := law_turn (65 * (30 - (0 + i + 1))) d a2 a3 a4 a5 a6 a7 a8 a9 a10 a11 a12 a13 none none none S (Di.less (by omega))
      exact ⟨_, S', .inl e, _, _, _, _, _, _, _, _, _, _, _, _, rfl, D'⟩)
  refine ⟨.fz, S1, by decide, ?_⟩
  rw [law_parts]
  refine zt_seq (zt_for (ds := rangeD 0 30) (env' := env0) (S1 := ⟨cellsOf ns, 0⟩) rfl rfl e1) ?_
  exact fin a2 a3 a4 a5 a6 a7 a8 a9 a10 a11 a12 a13 S1
end K28
set_option Elab.async false
set_option maxRecDepth 100000
namespace K28
open PySem L2 Mp
theorem walk {l : PySem.W.OpenLaw} {q : Program} {loose : List Str} {XP : (Str → Option Value) → Heap → Prop} {YP : World → Heap → Prop} {d : DefRec} {K : Params → PySem.W.Frag} (hn : l.most = some 63) (hdf : d.params.defaults = [])
    (hY : ∀ (w : World) (h : Heap), YP w h → (K w.params).In h)
    (F : ∀ (w : World) (mg : Str → Option Value) (fa : Addr) (h : Heap), (K w.params).In h → h.Ns mainGlobals mg → mg d.name = some (.ref fa) →
      ∃ fd : FuncData, (∀ (s : Shared) (u : Value), BindsTo s fd ⟨[u], []⟩ [("_law_script", u)]) ∧ ∀ base : Heap, (K w.params).In base → base.Ns mainGlobals mg → FnOk l.prog w (K w.params) mg base (L2.CX l.prog w) (60 + 1) fa fd ["_law_script"] (spLaw (K w.params))) :
    PySem.W.WalkO q loose XP YP l.row.toRowW d [] (fun f vs => PySem.call f vs) :=
  L2.walk_of (n := 63) (k := 60 + 1) (x := "_law_script") (CX := fun w => L2.CX l.prog w) (sp := fun w => spLaw (K w.params)) hn (by decide) hdf ⟨rfl, by decide, by decide⟩ hY F (fun _ _ a ns hl _ hS => ⟨a, ns, rfl, hS, hl, fun _ => rfl⟩) fun _ _ _ _ _ z => by
    obtain ⟨_, _, _, _, _, _, _, _, _, _, _, _, x⟩ := z
    exact x
end K28
open PySem PySem.W PyProof.Rows in
set_option maxRecDepth 100000 in
set_option maxHeartbeats 0 in
theorem PySem.Challenge.cw_graysieve_k28_fewest_sums_holds : PySem.Challenge.rw_graysieve_k28_fewest_sums.Holds := by
  w_on; o_law; k_head; (case hw => w_witness2)
  k_fill
  refine K28.walk (l := PySem.Challenge.rw_graysieve_k28_fewest_sums) rfl rfl (fun w h Y => PySem.W.kIn_of Y) ?F
  case F =>
    intro w mg fa h KX G hmg
    refine K28.all_mk KX G hmg ?fx K28.plain
    refine' ⟨?a0, ?a1, ?a2, ?ff⟩
    case' ff => refine' { f0 := ?f0, f1 := ?f1, f2 := ?f2, f3 := ?f3, f4 := ?f4, f5 := ?f5, f6 := ?f6, f7 := ?f7, f8 := ?f8, f9 := ?f9, f10 := ?f10, f11 := ?f11, f12 := ?f12, f13 := ?f13, f14 := ?f14, f15 := ?f15, f16 := ?f16, f17 := ?f17, f18 := ?f18, fS := ?fS, fD := ?fD, fL := ?fL, con := ?con, blt := ?blt, cls := ?cls, sub := ?sub, exn := ?exn }
    (case cls => exact ⟨⟨by k_is, by k_is, by k_is, by k_is, by k_is, by k_is, by k_is, by k_is, by k_is, by k_is, by k_is, by k_is⟩, ⟨by k_is, by k_is, by k_is, by k_is, by k_is, by k_is, by k_is, by k_is, by k_is, by k_is, by k_is, by k_is⟩, ⟨by k_is, by k_is, by k_is, by k_is, by k_is, by k_is, by k_is, by k_is, by k_is, by k_is, by k_is, by k_is⟩, trivial⟩)
    (case f0 => exact ⟨_, _, _, _, _, _, _, _, _, _, by k_is, by k_is, by k_is, by k_is⟩)
    (case f1 => exact ⟨_, _, _, _, _, _, _, _, _, _, by k_is, by k_is, by k_is, by k_is⟩)
    (case f2 => exact ⟨_, _, _, _, _, _, _, _, _, _, by k_is, by k_is, by k_is, by k_is⟩)
    (case f3 => exact ⟨_, _, _, _, _, _, _, _, _, _, by k_is, by k_is, by k_is, by k_is⟩)
    (case f4 => exact ⟨_, _, _, _, _, _, _, _, _, _, by k_is, by k_is, by k_is, by k_is⟩)
    (case f5 => exact ⟨_, _, _, _, _, _, _, _, _, _, by k_is, by k_is, by k_is, by k_is⟩)
    (case f6 => exact ⟨_, _, _, _, _, _, _, _, _, _, by k_is, by k_is, by k_is, by k_is⟩)
    (case f7 => exact ⟨_, _, _, _, _, _, _, _, _, _, by k_is, by k_is, by k_is, by k_is⟩)
    (case f8 => exact ⟨_, _, _, _, _, _, _, _, _, _, by k_is, by k_is, by k_is, by k_is⟩)
    (case f9 => exact ⟨_, _, _, _, _, _, _, _, _, _, by k_is, by k_is, by k_is, by k_is⟩)
    (case f10 => exact ⟨_, _, _, _, _, _, _, _, _, _, by k_is, by k_is, by k_is, by k_is⟩)
    (case f11 => exact ⟨_, _, _, _, _, _, _, _, _, _, by k_is, by k_is, by k_is, by k_is⟩)
    (case f12 => exact ⟨_, _, _, _, _, _, _, _, _, _, by k_is, by k_is, by k_is, by k_is⟩)
    (case f13 => exact ⟨_, _, _, _, _, _, _, _, _, _, by k_is, by k_is, by k_is, by k_is⟩)
    (case f14 => exact ⟨_, _, _, _, _, _, _, _, _, _, by k_is, by k_is, by k_is, by k_is⟩)
    (case f15 => exact ⟨_, _, _, _, _, _, _, _, _, _, by k_is, by k_is, by k_is, by k_is⟩)
    (case f16 => exact ⟨_, _, _, _, _, _, _, _, _, _, by k_is, by k_is, by k_is, by k_is⟩)
    (case f17 => exact ⟨_, _, _, _, _, _, _, _, _, _, by k_is, by k_is, by k_is, by k_is⟩)
    (case f18 => exact ⟨_, _, _, _, _, _, _, _, _, _, by k_is, by k_is, by k_is, by k_is⟩)
    (case fS => exact ⟨_, _, _, _, _, _, _, _, _, _, by k_is, by k_is, by k_is, by k_is⟩)
    (case fD => exact ⟨_, _, _, _, _, _, _, _, _, _, by k_is, by k_is, by k_is, by k_is⟩)
    (case fL => exact ⟨_, _, _, _, _, _, _, _, _, _, by k_is, by k_is, by k_is, by k_is⟩)
    (case con => exact ⟨⟨_, _, rfl, by k_is⟩, ⟨_, _, rfl, by k_is⟩, ⟨_, _, rfl, by k_is⟩, ⟨_, _, rfl, by k_is⟩, ⟨_, _, rfl, by k_is⟩, trivial⟩)
    (case blt => exact ⟨by k_is, by k_is, by k_is, by k_is, by k_is, by k_is, by k_is, by k_is, by k_is, by k_is, by k_is, by k_is, by k_is, by k_is, by k_is, by k_is, by k_is, by k_is, by k_is, by k_is, by k_is, trivial⟩)
    (case sub => exact ⟨⟨⟨_, by k_is, by decide +kernel⟩, ⟨_, by k_is, by decide +kernel⟩, ⟨_, by k_is, by decide +kernel⟩, trivial⟩, ⟨⟨_, by k_is, by decide +kernel⟩, ⟨_, by k_is, by decide +kernel⟩, ⟨_, by k_is, by decide +kernel⟩, trivial⟩, ⟨⟨_, by k_is, by decide +kernel⟩, ⟨_, by k_is, by decide +kernel⟩, ⟨_, by k_is, by decide +kernel⟩, trivial⟩, trivial⟩)
    (case exn => exact ⟨fun _ => by unfold Mp.ExnFact; k_exc, fun _ => by unfold Mp.ExnFact; k_exc, fun _ => by unfold Mp.ExnFact; k_exc, trivial⟩)
