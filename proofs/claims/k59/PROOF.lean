import PyProof.Rows.All
import Wide.All
import OpenK.AllK
import Wide.FinOn
import KE.KExcSuper
import KE.KSuper
import HandS.ForMost
import HandS.ExcInit
import HandS.ExcSuper
import KE.KExcIs
import HandS.ExcField
import HandS.IsInst
import HandS.Wide
import HandS.Codes
import PySem.Challenge.RW_thinnedpast_k59_errors_with_any_value
import HandS.Walk
import KE.KStateDown
import HandS.More
import HandS.WordsExc
import HandS.Defaults
import HandS.Head0
import HandS.Head1
import HandS.Head2
import HandS.HeadEnd
import HandS.HeadHook1
import HandS.HeadHook2
section
set_option Elab.async false
set_option maxRecDepth 100000
set_option maxHeartbeats 4000000
namespace TPX
open PySem PySem.W PySem.Calls PyProof.Rows

/-- what the written part says of an __init__ that closes over its class D -/
structure InitFn (prog : Program) (K : Frag) (f D cda cc : Addr) (qual : Str) (params : Arguments) (body : List Stmt) (scope : Scope) (dV : Value) : Prop where
  lk : ∃ oc od kV doc pm an ct osl, K.lookup f = some ⟨oc, od, .func (ksFn "__init__" qual params body scope dV kV doc pm an (.ref cda) ct cc), osl⟩
  cd : codeIn K (.ref cda) qual = true
  co : ∃ ccl cdd vs ccs file tf, K.lookup cda = some ⟨ccl, cdd, .fields vs, ccs⟩ ∧ vs[2]? = some (.str file tf) ∧ ((prog.main.file : Str) == file) = true
  ce : ∃ cl cld csl, K.lookup cc = some ⟨cl, cld, .cell (some (.ref D)), csl⟩
  cls : ∃ cdD, clsIn K D = some cdD

/-- the module as the heap has it -/
structure Modl (prog : Program) (K : Frag) (mg : Str → Option Value) (h : Heap) : Prop where
  kin : K.In h
  glob : h.Ns mainGlobals mg
  blt : ∃ mb, h.Ns builtinsNs mb ∧ mb "super" = some (.type "super")
  nos : mg "super" = none
  lim : h.NoLimit
  top : (prog.main.scope.names.lookup ("super" : Str)).isSome = false

section
variable {prog : Program} {w : World} {A : Around} {E : Value → Shared → Prop} {s : Shared} {h₀ : Heap} {L : Addr} {m mg : Str → Option Value} {news : List (Addr × Obj)} {K : Frag} {x C D f cc cda : Addr} {ox : Obj} {odx : Option Obj}
theorem super_node {body : List Stmt} {qual : Str} {params : Arguments} {ib : List Stmt} {scope : Scope} {dV : Value} {p0 p1 : Pos} {attr : Str} {whole : Sem Value} {ar : Arg} {Q : Value → Shared → Prop}
    (MO : Modl prog K mg h₀) (IF : InitFn prog K f D cda cc qual params ib scope dV) (F : Fr h₀ L s.heap m) (N : News h₀ L s.heap news)
    (hp : (params.posonlyargs ++ params.args).head? = some ar) (hv : m ar.arg = some (.ref x)) (I : PySem.W.InstAt s.heap x ox C odx) (hsub : mroIn K C (.ref D) = some true)
    (hat : (attr == ("__class__" : Str)) = false) (hks : scope.names.lookup ("super" : Str) = some .globalImplicit) (hkc : scope.names.lookup ("__class__" : Str) = some .free) (hka : scope.names.lookup ar.arg = some .local) (hk : scope.kind = .function)
    (h : ∀ so h', Fr h₀ L h' m → News h₀ L h' ((so, ks_superObj D x C) :: news) → Q (.ref so) { s with heap := h' }) :
    _root_.PySem.wpAt (model prog w) A (.func body (ksEnv qual scope L f (.ref cda) cc)) (attributeBase (.Call (.Name "super" p0) [] [] p1) attr (ksEnv qual scope L f (.ref cda) cc) whole) Q E s := by
  have KX : K.In s.heap := MO.kin.keeps F.keep
  obtain ⟨oc, od, kV, doc, pm, an, ct, osl, lk⟩ := IF.lk
  obtain ⟨ccl, cdd, vs, ccs, file, tf, lc, hvs, hfile⟩ := IF.co
  obtain ⟨cl, cld, csl, lcell⟩ := IF.ce
  obtain ⟨cdD, hD⟩ := IF.cls
  obtain ⟨mb, hmb, hms⟩ := MO.blt
  obtain ⟨hh, gg, dd, tt, oss⟩ := s
  obtain ⟨oD, hD1, hD2⟩ : ∃ oD, hh.get? D = some oD ∧ oD.data = .cls cdD := by
    unfold clsIn at hD
    split at hD
    · next e => cases hD; exact ⟨_, KX _ _ e, rfl⟩
    · cases hD
  refine ks_wpAt_super_base (env := ksEnv qual scope L f (.ref cda) cc) hks hkc hat rfl (KX _ _ lk) rfl hp rfl (KX _ _ lc) rfl hvs hfile MO.top ?_
  refine ks_loadName_global hk hks (loadGlobal_builtin (env := ksEnv qual scope L f (.ref cda) cc) (MO.glob.keeps F.keep) MO.nos (hmb.keeps F.keep) hms ⟨rfl, ?_⟩)
  refine wpAny_loadName_free hk hkc rfl ⟨_, KX _ _ lcell, rfl⟩ ?_
  refine wpAny_loadName_local hk hka F.ns hv ?_
  refine ks_wpAny_isType_cls hD1 hD2 ⟨rfl, ?_⟩
  refine ks_wpAny_call_super hD1 hD2 I.at_ I.cls (fun c e => ?_) (looks_mroIn KX hsub) (fun h' e k => ?_)
  · have z := I.no
    unfold notCls at z
    rw [e] at z
    exact Bool.noConfusion z
  · obtain ⟨F', N', _⟩ := ks_newsPush (s := ⟨hh, gg, dd, tt, oss⟩) F N rfl e k
    exact h _ _ F' N'
/-- the class of an exception, its mro: own classes, then ValueError's -/
structure ExcK (K : Frag) (T C : Addr) : Prop where
  cls : ∃ nm q N bs bm sn sub ab col dd k0 k1 k2 k3 k5, K.lookup C = some (excClassObj nm q C N bs bm true sn sub ab col dd k0 k1 k2 k3 k5 "ValueError.__new__") ∧ PySem.HandSPX.refsVE bm = true
  ini : excInitIn K C [.type "ValueError", .type "Exception", .type "BaseException", .type "object"] "ValueError.__new__" = true
  sa : findIn K (.ref C) "__setattr__" = some (some (.builtin "object.__setattr__"))
  nv : findIn K (.ref C) "value" = some none
  up : ks_superIn K C T "__init__" = some (some (.builtin "ValueError.__init__"))
  sv : subIn K (.ref C) (.type "ValueError") = some true
  st : mroIn K C (.ref T) = some true
  th : nsIn K cStatics "thirdparty.any" = some none

/-- how super().__init__(..) is called -/
def CallsSo (env : Env) (o : Expr) (args : List Expr) (apos pos : Pos) (pl : Sem Bool) : Prop :=
  eval (.Call (.Attribute o "__init__" apos) args [] pos) env = (do
    let got ← attributeBase o "__init__" env (eval o env)
    standAt apos.atName
    let (fn, bound) ← holding [got] (getMethod got "__init__" pl)
    callWith pos fn bound (backTo pos (starEach args env)) [])
theorem thin_code {T fT : Addr} {qual : Str} {params : Arguments} {scope : Scope} {dV : Value} {p0 p1 p2 p3 p4 p5 p6 p7 p8 p9 : Pos} {ar : Arg} {v msg : Value} {t : Addr} {R : Result → Shared → Prop} {h : Heap} {g : Array GenState} {d : Drawn} {tk : Nat} {os : OsState}
    (MO : Modl prog K mg h₀) (IF : InitFn prog K fT T cda cc qual params [.Expr (.Call (.Attribute (.Call (.Name "super" p0) [] [] p1) "__init__" p2) [.Name "message" p3] [] p4) p5, .Assign [.Attribute (.Name "self" p6) "value" p7] (.Name "value" p8) p9] scope dV)
    (EK : ExcK K T C) (hroom : A.depth < recursionLimit) (hp : (params.posonlyargs ++ params.args).head? = some ar) (har : ar.arg = "self")
    (hk0 : ∀ b o, h₀.get? b = some o → h.get? b = some o) (hx : h.get? x = some (excObj C t none .none)) (hx0 : h₀.get? x = none) (hsz : h₀.objs.size ≤ h.objs.size)
    (hbind : ∀ fd : FuncData, fd.params = params → fd.defaults = dV → BindsTo ⟨h, g, d, tk, os⟩ fd ⟨[.ref x, v, msg], []⟩ [("self", .ref x), ("value", v), ("message", msg)])
    (s1 : scope.names.lookup ("super" : Str) = some .globalImplicit) (s2 : scope.names.lookup ("__class__" : Str) = some .free) (s3 : scope.names.lookup ("self" : Str) = some .local) (s4 : scope.names.lookup ("value" : Str) = some .local) (s5 : scope.names.lookup ("message" : Str) = some .local)
    (s6 : scope.kind = .function) (s7 : scope.isCoroutine = false) (s8 : scope.isGenerator = false) (s9 : ∀ y ∈ scope.names, y.2 ≠ .cell)
    {pl : Addr → Sem Bool} (hcs : ∀ L, CallsSo (ksEnv qual scope L fT (.ref cda) cc) (.Call (.Name "super" p0) [] [] p1) [.Name "message" p3] p2 p4 (pl L))
    (hsw : ∀ L, swapsWith (.Call (.Attribute (.Call (.Name "super" p0) [] [] p1) "__init__" p2) [.Name "message" p3] [] p4) none p5.line (ksEnv qual scope L fT (.ref cda) cc) = pure false)
    (hia : ∀ L, interactive (ksEnv qual scope L fT (.ref cda) cc) = false) (hsa : ∀ L, swapsWith (.Name "value" p8) (some (.Attribute (.Name "self" p6) "value" p7)) p9.line (ksEnv qual scope L fT (.ref cda) cc) = pure false)
    (hR : ∀ h' tk' dx t', (∀ b o, h₀.get? b = some o → h'.get? b = some o) → h₀.objs.size ≤ dx → dx ≠ x → h'.get? x = some (excObj C t' (some dx) .none) → h'.Ns1 dx (fun y => if y = "value" then some v else none) →
      R (.ok (.ret .none)) ⟨h', g, d, tk', os⟩) :
    codeAny (model prog w) A (.call (.ref fT) ⟨[.ref x, v, msg], []⟩) R ⟨h, g, d, tk, os⟩ := by
  have KX : K.In h := MO.kin.keeps hk0
  obtain ⟨oc, od, kV, doc, pm, an, ct, osl, lk⟩ := IF.lk
  refine ks_codeAny_call_defAt (binds := [("self", .ref x), ("value", v), ("message", msg)]) hroom (KX _ _ lk) rfl (MO.lim.keeps hk0) (codeRec_of KX IF.cd) rfl (hbind _ rfl rfl) s9 ?_ (fun h₁ hns hk₁ => ?_) s7 s8 s6
  · intro y hy
    simp only [List.mem_cons, List.mem_nil_iff, or_false] at hy
    rcases hy with rfl | rfl | rfl
    · exact s3
    · exact s4
    · exact s5
  have F1 : Fr h₀ h.objs.size h₁ (fun y => ([("self", .ref x), ("value", v), ("message", msg)] : List (Str × Value)).reverse.lookup y) := ⟨hns, fun b o e => hk₁ b o (hk0 b o e), hsz⟩
  have N1 : News h₀ h.objs.size h₁ [(x, excObj C t none .none)] := fun p hp => by
    rcases List.mem_cons.mp hp with rfl | hp
    · exact ⟨hk₁ _ _ hx, Nat.ne_of_lt (Heap.lt_size hx), hx0⟩
    · cases hp
  show _root_.PySem.wpAt _ (A.deeper (ksEnv qual scope h.objs.size fT (.ref cda) cc)) (.func _ (ksEnv qual scope h.objs.size fT (.ref cda) cc)) (execs _ (ksEnv qual scope h.objs.size fT (.ref cda) cc)) _ _ _
  refine ks_wpAt_execs_cons (ks_wpAt_Expr_any (ks_wpAt_MethodCall (pl := pl h.objs.size) (super_node MO IF F1 N1 hp (by rw [har]; rfl) (InstAt.of_exc0 N1 (List.Mem.head _)) EK.st (by decide) s1 s2 (by rw [har]; exact s3) s6 (fun so h2 F2 N2 => ?_)) (hcs _)) (hia _) (hsw _))
  refine kxs_method kxs_ValueError F2 MO.kin N2 (List.Mem.head _) (InstAt.of_exc0 N2 (List.Mem.tail _ (List.Mem.head _))) EK.th EK.up EK.sv (by decide) (fun u h3 F3 N3 l3 => ?_)
  have hd : ∀ p ∈ [(so, ks_superObj T x C), (x, excObj C t none .none)], p.1 ≠ u := fun p hp => Nat.ne_of_lt (l3 p hp)
  have hsx : so ≠ x := fun z => by
    have e1 := (N3 _ (List.Mem.tail _ (List.Mem.head _))).1
    have e2 := (N3 _ (List.Mem.tail _ (List.Mem.tail _ (List.Mem.head _)))).1
    rw [show ((so, ks_superObj T x C) : Addr × Obj).1 = x from z] at e1
    rw [e1] at e2
    cases e2
  refine kxs_callWith1 (i := "ValueError.__init__") (x := x) N3 (List.Mem.head _) (Calls.spliced_cons (ESX.ldL F3.ns rfl (Calls.spliced_nil ⟨kxs_at N3 (List.Mem.head _), ?_⟩) s6 s5))
  refine kxs_call F3 MO.kin N3 F.excBase_ValueError EK.ini (List.Mem.head _) (UpdF.tail (fun z => hd _ (List.Mem.tail _ (List.Mem.head _)) z.symm) (UpdF.tail hsx (UpdF.head (fun _ hp => nomatch hp)))) (by show 1 ≤ sizeLine; decide) (fun t' h4 F4 N4 _ => ?_)
  -- self.value = value
  show _root_.PySem.wpAt _ _ _ (execs [_] _) _ _ _
  have hx4 := (N4 (x, excObj C t' none .none) (by simp)).1
  have K4 : K.In h4 := MO.kin.keeps F4.keep
  obtain ⟨nm, q, NN, bs, bm, sn, sub, ab, col, dd, k0, k1, k2, k3, k5, hC, hbm⟩ := EK.cls
  refine ks_wpAt_execs_cons (ks_wpAt_Assign_Attr (_root_.PySem.wpAt_of_wpAny (ESX.ldL F4.ns rfl (ESX.ldL F4.ns rfl ?_ s6 s3) s6 s4)))
  refine set_plain K4 (ox := excObj C t' none .none) (od := none) ⟨hx4, rfl, rfl, trivial⟩ EK.sa ?_
  refine PySem.HandSPX.exc_osa K4 hx4 (show clsIn K C = some _ by unfold clsIn; rw [hC] <;> rfl) (show PySem.HandSPX.refsVE (.ref C :: bm) = true from hbm) rfl EK.nv (fun h5 tk5 dx kk hd1 hd2 hd3 hd4 => ?_)
  refine _root_.PySem.wpAt_of_wpAny (wpAny_execs_nil ?_)
  refine hR h5 tk5 dx t' (fun b o e => kk b o (fun z => ?_) (F4.keep b o e)) ?_ hd2 hd3 hd4
  · rw [z, hx0] at e
    cases e
  · obtain ⟨oL, _, _, eL, _⟩ := F4.ns
    exact Nat.le_trans (Nat.le_trans F4.above (Nat.le_of_lt (Heap.lt_size eL))) hd1
/-- a subclass's __init__(self, value): super().__init__(value, text) -/
theorem sub_code {T fT fI cda' cc' : Addr} {qual qual' : Str} {params params' : Arguments} {scope scope' : Scope} {dV dV' : Value} {p0 p1 p2 p3 p4 p5 p6 p7 p8 p9 : Pos} {q0 q1 q2 q3 q4 q5 q6 : Pos} {ar ar' : Arg} {v : Value} {text : Str} {j : Nat} {t : Addr}
    {R : Result → Shared → Prop} {h : Heap} {g : Array GenState} {d : Drawn} {tk : Nat} {os : OsState} {args : Args}
    (MO : Modl prog K mg h₀) (IT : InitFn prog K fT T cda cc qual params [.Expr (.Call (.Attribute (.Call (.Name "super" p0) [] [] p1) "__init__" p2) [.Name "message" p3] [] p4) p5, .Assign [.Attribute (.Name "self" p6) "value" p7] (.Name "value" p8) p9] scope dV)
    (IC : InitFn prog K fI C cda' cc' qual' params' [.Expr (.Call (.Attribute (.Call (.Name "super" q0) [] [] q1) "__init__" q2) [.Name "value" q3, .Constant (.str text) j q4] [] q5) q6] scope' dV')
    (EK : ExcK K T C) (hup : ks_superIn K C C "__init__" = some (some (.ref fT))) (hty : typeIn K (.ref fT) = some (.type "function")) (hfn : fnIn K fT = true) (hself : mroIn K C (.ref C) = some true)
    (hroom : A.depth + 1 < recursionLimit) (hp : (params.posonlyargs ++ params.args).head? = some ar) (har : ar.arg = "self") (hp' : (params'.posonlyargs ++ params'.args).head? = some ar') (har' : ar'.arg = "self")
    (hk0 : ∀ b o, h₀.get? b = some o → h.get? b = some o) (hx : h.get? x = some (excObj C t none .none)) (hx0 : h₀.get? x = none) (hsz : h₀.objs.size ≤ h.objs.size)
    (hbT : ∀ (s : Shared) (fd : FuncData) (v m : Value), K.In s.heap → fd.params = params → fd.defaults = dV → BindsTo s fd ⟨[.ref x, v, m], []⟩ [("self", .ref x), ("value", v), ("message", m)])
    (hbI : ∀ fd : FuncData, fd.params = params' → fd.defaults = dV' → BindsTo ⟨h, g, d, tk, os⟩ fd args [("self", .ref x), ("value", v)])
    (s1 : scope.names.lookup ("super" : Str) = some .globalImplicit) (s2 : scope.names.lookup ("__class__" : Str) = some .free) (s3 : scope.names.lookup ("self" : Str) = some .local) (s4 : scope.names.lookup ("value" : Str) = some .local) (s5 : scope.names.lookup ("message" : Str) = some .local)
    (s6 : scope.kind = .function) (s7 : scope.isCoroutine = false) (s8 : scope.isGenerator = false) (s9 : ∀ y ∈ scope.names, y.2 ≠ .cell)
    {pl : Addr → Sem Bool} (hcs : ∀ L, CallsSo (ksEnv qual scope L fT (.ref cda) cc) (.Call (.Name "super" p0) [] [] p1) [.Name "message" p3] p2 p4 (pl L))
    (hsw : ∀ L, swapsWith (.Call (.Attribute (.Call (.Name "super" p0) [] [] p1) "__init__" p2) [.Name "message" p3] [] p4) none p5.line (ksEnv qual scope L fT (.ref cda) cc) = pure false)
    (hia : ∀ L, interactive (ksEnv qual scope L fT (.ref cda) cc) = false)
    (z1 : scope'.names.lookup ("super" : Str) = some .globalImplicit) (z2 : scope'.names.lookup ("__class__" : Str) = some .free) (z3 : scope'.names.lookup ("self" : Str) = some .local) (z4 : scope'.names.lookup ("value" : Str) = some .local)
    (z6 : scope'.kind = .function) (z7 : scope'.isCoroutine = false) (z8 : scope'.isGenerator = false) (z9 : ∀ y ∈ scope'.names, y.2 ≠ .cell)
    {pl' : Addr → Sem Bool} (hcs' : ∀ L, CallsSo (ksEnv qual' scope' L fI (.ref cda') cc') (.Call (.Name "super" q0) [] [] q1) [.Name "value" q3, .Constant (.str text) j q4] q2 q5 (pl' L))
    (hsw' : ∀ L, swapsWith (.Call (.Attribute (.Call (.Name "super" q0) [] [] q1) "__init__" q2) [.Name "value" q3, .Constant (.str text) j q4] [] q5) none q6.line (ksEnv qual' scope' L fI (.ref cda') cc') = pure false)
    (hia' : ∀ L, interactive (ksEnv qual' scope' L fI (.ref cda') cc') = false)
    (hR : ∀ h' tk' dx t', (∀ b o, h₀.get? b = some o → h'.get? b = some o) → h₀.objs.size ≤ dx → dx ≠ x → h'.get? x = some (excObj C t' (some dx) .none) → h'.Ns1 dx (fun y => if y = "value" then some v else none) →
      R (.ok (.ret .none)) ⟨h', g, d, tk', os⟩) :
    codeAny (model prog w) A (.call (.ref fI) args) R ⟨h, g, d, tk, os⟩ := by
  have KX : K.In h := MO.kin.keeps hk0
  obtain ⟨oc, od, kV, doc, pm, an, ct, osl, lk⟩ := IC.lk
  refine ks_codeAny_call_defAt (binds := [("self", .ref x), ("value", v)]) (Nat.lt_of_succ_lt hroom) (KX _ _ lk) rfl (MO.lim.keeps hk0) (codeRec_of KX IC.cd) rfl (hbI _ rfl rfl) z9 ?_ (fun h₁ hns hk₁ => ?_) z7 z8 z6
  · intro y hy
    simp only [List.mem_cons, List.mem_nil_iff, or_false] at hy
    rcases hy with rfl | rfl
    · exact z3
    · exact z4
  have F1 : Fr h₀ h.objs.size h₁ (fun y => ([("self", .ref x), ("value", v)] : List (Str × Value)).reverse.lookup y) := ⟨hns, fun b o e => hk₁ b o (hk0 b o e), hsz⟩
  have N1 : News h₀ h.objs.size h₁ [(x, excObj C t none .none)] := fun p hp => by
    rcases List.mem_cons.mp hp with rfl | hp
    · exact ⟨hk₁ _ _ hx, Nat.ne_of_lt (Heap.lt_size hx), hx0⟩
    · cases hp
  show _root_.PySem.wpAt _ (A.deeper (ksEnv qual' scope' h.objs.size fI (.ref cda') cc')) (.func _ (ksEnv qual' scope' h.objs.size fI (.ref cda') cc')) (execs _ (ksEnv qual' scope' h.objs.size fI (.ref cda') cc')) _ _ _
  refine ks_wpAt_execs_cons (ks_wpAt_Expr_any (ks_wpAt_MethodCall (pl := pl' h.objs.size) (super_node MO IC F1 N1 hp' (by rw [har']; rfl) (InstAt.of_exc0 N1 (List.Mem.head _)) hself (by decide) z1 z2 (by rw [har']; exact z3) z6 (fun so h2 F2 N2 => ?_)) (hcs' _)) (hia' _) (hsw' _))
  refine ks_method F2 MO.kin N2 (List.Mem.head _) (InstAt.of_exc0 N2 (List.Mem.tail _ (List.Mem.head _))) EK.th hup hty (by decide) (fun u h3 F3 N3 l3 => ?_)
  refine callWith_M MO.kin N3 (List.Mem.head _) hfn ?_
  refine Calls.spliced_cons (ESX.ldL F3.ns rfl ?_ z6 z4)
  show wpAny _ _ (spliced ((false, eval (.Constant (.str text) j q4) (ksEnv qual' scope' h.objs.size fI (.ref cda') cc')) :: [])) _ _ _
  refine Calls.spliced_cons (Calls.Constant_str (Calls.spliced_nil ⟨⟨(N3 _ (List.Mem.head _)).1, MO.kin.keeps F3.keep⟩, ?_⟩))
  refine call_meth (h₀ := h₀) (L := h.objs.size) (news := (u, methodObj (.ref fT) (.ref x)) :: (so, ks_superObj C x C) :: [(x, excObj C t none .none)]) N3 (List.Mem.head _) ?_
  refine thin_code (x := x) (t := t) MO IT EK ?_ hp har F3.keep (N3 _ (List.Mem.tail _ (List.Mem.tail _ (List.Mem.head _)))).1 hx0 ?_ (fun fd e1 e2 => hbT _ fd _ _ (MO.kin.keeps F3.keep) e1 e2) s1 s2 s3 s4 s5 s6 s7 s8 s9 hcs hsw hia (fun L => ?_) (fun h' tk' dx t' a1 a2 a3 a4 a5 => ?_)
  · show A.depth + 1 < recursionLimit
    exact hroom
  · obtain ⟨oL, _, _, eL, _⟩ := F3.ns
    exact Nat.le_trans F3.above (Nat.le_of_lt (Heap.lt_size eL))
  · rfl
  · exact _root_.PySem.wpAt_of_wpAny (wpAny_execs_nil (hR h' tk' dx t' a1 a2 a3 a4 a5))
end
end TPX
end
section
set_option Elab.async false
set_option maxRecDepth 100000
set_option maxHeartbeats 4000000
namespace TPX
open PySem PySem.W PySem.Calls PyProof.Rows L2

/-- ThinError's __init__ as the text has it -/
def ThinOk (prog : Program) (K : Frag) (T fT : Addr) : Prop :=
  ∃ (cda cc : Addr) (qual : Str) (params : Arguments) (scope : Scope) (dV : Value) (p0 p1 p2 p3 p4 p5 p6 p7 p8 p9 : Pos) (ar : Arg) (pl : Addr → Sem Bool),
    InitFn prog K fT T cda cc qual params [.Expr (.Call (.Attribute (.Call (.Name "super" p0) [] [] p1) "__init__" p2) [.Name "message" p3] [] p4) p5, .Assign [.Attribute (.Name "self" p6) "value" p7] (.Name "value" p8) p9] scope dV ∧
    (params.posonlyargs ++ params.args).head? = some ar ∧ ar.arg = "self" ∧
    (∀ (s : Shared) (fd : FuncData) (x v m : Value), K.In s.heap → fd.params = params → fd.defaults = dV → BindsTo s fd ⟨[x, v, m], []⟩ [("self", x), ("value", v), ("message", m)]) ∧
    scope.names.lookup ("super" : Str) = some .globalImplicit ∧ scope.names.lookup ("__class__" : Str) = some .free ∧ scope.names.lookup ("self" : Str) = some .local ∧ scope.names.lookup ("value" : Str) = some .local ∧ scope.names.lookup ("message" : Str) = some .local ∧
    scope.kind = .function ∧ scope.isCoroutine = false ∧ scope.isGenerator = false ∧ (∀ y ∈ scope.names, y.2 ≠ .cell) ∧
    (∀ L, CallsSo (ksEnv qual scope L fT (.ref cda) cc) (.Call (.Name "super" p0) [] [] p1) [.Name "message" p3] p2 p4 (pl L)) ∧
    (∀ L, swapsWith (.Call (.Attribute (.Call (.Name "super" p0) [] [] p1) "__init__" p2) [.Name "message" p3] [] p4) none p5.line (ksEnv qual scope L fT (.ref cda) cc) = pure false) ∧
    (∀ L, interactive (ksEnv qual scope L fT (.ref cda) cc) = false)
/-- a subclass's __init__ -/
def SubOk (prog : Program) (K : Frag) (C fI : Addr) : Prop :=
  ∃ (cda cc : Addr) (qual : Str) (params : Arguments) (scope : Scope) (dV : Value) (q0 q1 q2 q3 q4 q5 q6 : Pos) (text : Str) (j : Nat) (ar : Arg) (pl : Addr → Sem Bool),
    InitFn prog K fI C cda cc qual params [.Expr (.Call (.Attribute (.Call (.Name "super" q0) [] [] q1) "__init__" q2) [.Name "value" q3, .Constant (.str text) j q4] [] q5) q6] scope dV ∧
    (params.posonlyargs ++ params.args).head? = some ar ∧ ar.arg = "self" ∧
    (∀ (s : Shared) (fd : FuncData) (x v : Value), fd.params = params → fd.defaults = dV → BindsTo s fd ⟨[x, v], []⟩ [("self", x), ("value", v)]) ∧
    (∀ (s : Shared) (fd : FuncData) (x v : Value), fd.params = params → fd.defaults = dV → BindsTo s fd ⟨[x], [("value", v)]⟩ [("self", x), ("value", v)]) ∧
    scope.names.lookup ("super" : Str) = some .globalImplicit ∧ scope.names.lookup ("__class__" : Str) = some .free ∧ scope.names.lookup ("self" : Str) = some .local ∧ scope.names.lookup ("value" : Str) = some .local ∧
    scope.kind = .function ∧ scope.isCoroutine = false ∧ scope.isGenerator = false ∧ (∀ y ∈ scope.names, y.2 ≠ .cell) ∧
    (∀ L, CallsSo (ksEnv qual scope L fI (.ref cda) cc) (.Call (.Name "super" q0) [] [] q1) [.Name "value" q3, .Constant (.str text) j q4] q2 q5 (pl L)) ∧
    (∀ L, swapsWith (.Call (.Attribute (.Call (.Name "super" q0) [] [] q1) "__init__" q2) [.Name "value" q3, .Constant (.str text) j q4] [] q5) none q6.line (ksEnv qual scope L fI (.ref cda) cc) = pure false) ∧
    (∀ L, interactive (ksEnv qual scope L fI (.ref cda) cc) = false)
/-- all that is asked of an error's class -/
structure ErrC (prog : Program) (K : Frag) (T fT C fI : Addr) : Prop where
  ek : ExcK K T C
  up : ks_superIn K C C "__init__" = some (some (.ref fT))
  self : mroIn K C (.ref C) = some true
  ini : findIn K (.ref C) "__init__" = some (some (.ref fI))
  ity : typeIn K (.ref fI) = some (.type "function")
  kp : keepIn K (.ref C) = true
  sub : SubOk prog K C fI
structure ThinC (prog : Program) (K : Frag) (mg : Str → Option Value) (T fT : Addr) : Prop where
  ok : ThinOk prog K T fT
  ty : typeIn K (.ref fT) = some (.type "function")
  fn : fnIn K fT = true
  nos : mg "super" = none
  top : (prog.main.scope.names.lookup ("super" : Str)).isSome = false

section
variable {prog : Program} {w : World} {A : Around} {h₀ : Heap} {mg : Str → Option Value} {K : Frag} {x C T fT fI : Addr}
theorem init_code {v : Value} {t : Addr} {R : Result → Shared → Prop} {h : Heap} {g : Array GenState} {d : Drawn} {tk : Nat} {os : OsState} {args : Args}
    (MO : Modl prog K mg h₀) (TC : ThinC prog K mg T fT) (EC : ErrC prog K T fT C fI) (hroom : A.depth + 1 < recursionLimit)
    (hk0 : ∀ b o, h₀.get? b = some o → h.get? b = some o) (hx : h.get? x = some (excObj C t none .none)) (hx0 : h₀.get? x = none) (hsz : h₀.objs.size ≤ h.objs.size)
    (ha : args = ⟨[.ref x, v], []⟩ ∨ args = ⟨[.ref x], [("value", v)]⟩)
    (hR : ∀ h' tk' dx t', (∀ b o, h₀.get? b = some o → h'.get? b = some o) → h₀.objs.size ≤ dx → dx ≠ x → h'.get? x = some (excObj C t' (some dx) .none) → h'.Ns1 dx (fun y => if y = "value" then some v else none) →
      R (.ok (.ret .none)) ⟨h', g, d, tk', os⟩) :
    codeAny (model prog w) A (.call (.ref fI) args) R ⟨h, g, d, tk, os⟩ := by
  obtain ⟨cda, cc, qual, params, scope, dV, p0, p1, p2, p3, p4, p5, p6, p7, p8, p9, ar, pl, i1, i2, i3, i4, i5, i6, i7, i8, i9, i10, i11, i12, i13, i14, i15, i16⟩ := TC.ok
  obtain ⟨cda', cc', qual', params', scope', dV', q0, q1, q2, q3, q4, q5, q6, text, j, ar', pl', j1, j2, j3, j4, j4', j5, j6, j7, j8, j10, j11, j12, j13, j14, j15, j16⟩ := EC.sub
  refine sub_code MO i1 j1 EC.ek EC.up TC.ty TC.fn EC.self hroom i2 i3 j2 j3 hk0 hx hx0 hsz (fun s fd v m e0 e1 e2 => i4 s fd _ v m e0 e1 e2) (fun fd e1 e2 => ?_) i5 i6 i7 i8 i9 i10 i11 i12 i13 i14 i15 i16 j5 j6 j7 j8 j10 j11 j12 j13 j14 j15 j16 hR
  rcases ha with rfl | rfl
  · exact j4 _ fd _ _ e1 e2
  · exact j4' _ fd _ _ e1 e2
end
section
variable {X : Cx} {C T fT fI : Addr}
theorem inv_exc {pins : List (Addr × Obj)} {σ : L2.St} {H : Hp} {hp h' : Heap} {g : Array GenState} {d : Drawn} {t t2 : Nat} {os : OsState} {x dx t1 : Addr} {y : V} {u : Value} (I : Inv X pins σ H ⟨hp, g, d, t, os⟩)
    (k : ∀ b o, hp.get? b = some o → h'.get? b = some o) (lx : hp.objs.size ≤ x) (ld : hp.objs.size ≤ dx) (ne : dx ≠ x) (ex : h'.get? x = some (excObj C t1 (some dx) .none))
    (en : h'.Ns1 dx (fun z => if z = "value" then some u else none)) (r : RelV y u) :
    Inv X pins σ (upd (upd H dx (exd dx [("value", y)])) x (exo x C (some dx))) ⟨h', g, d, t2, os⟩ := by
  have nx : H x = none := I.hok.fresh lx
  have nd : H dx = none := I.hok.fresh ld
  have ax : ∀ {b : Addr} {o : Obj}, hp.get? b = some o → b ≠ x := fun {b o} e => Nat.ne_of_lt (Nat.lt_of_lt_of_le (Heap.lt_size e) lx)
  have ad : ∀ {b : Addr} {o : Obj}, hp.get? b = some o → b ≠ dx := fun {b o} e => Nat.ne_of_lt (Nat.lt_of_lt_of_le (Heap.lt_size e) ld)
  have up : ∀ {b : Addr} {o : HO}, H b = some o → (upd (upd H dx (exd dx [("value", y)])) x (exo x C (some dx))) b = some o := fun {b o} e => by
    rw [upd_ne (ne_of_none e nx), upd_ne (ne_of_none e nd)]
    exact e
  have U : Un X.fs [] H (upd (upd H dx (exd dx [("value", y)])) x (exo x C (some dx))) hp h' := {
    keep := fun b o e _ _ _ => k b o e
    slot := fun b o e _ _ _ => ⟨o.slots, k b o e⟩
    free := fun b o e n _ => by rw [upd_ne (ax e), upd_ne (ad e)]; exact n
    there := fun b o e _ => ⟨o, k b o e⟩
    tups := fun b xs e => up e
    frzs := fun b o v e => up e
    tbls := fun b ps e => ⟨#[], by rw [up e]; simp⟩ }
  refine I.un (t' := t2) U fun b o e => ?_
  by_cases hb : b = x
  · subst hb
    rw [upd_same] at e
    cases e
    exact exo_ok ex
  · rw [upd_ne hb] at e
    by_cases hd : b = dx
    · subst hd
      rw [upd_same] at e
      cases e
      exact exd_ok en (relO_put (fs := []) r fun g => True.intro)
    · rw [upd_ne hd] at e
      exact (I.hok b o e).stay (fun c v _ z => k c v z) (fun c z => up z) (fun c xs z => up z)

/-- C(e): a new error that keeps e's value -/
def tErr (C : Addr) (ta : TA) : TE := fun σ H Q => ta σ H fun vs H1 => ∃ v, vs = [v] ∧ ∀ a d, H1 a = none → H1 d = none → d ≠ a → Q (.ref a) (upd (upd H1 d (exd d [("value", v)])) a (exo a C (some d)))
theorem modl_of {pins : List (Addr × Obj)} {σ : L2.St} {H : Hp} {s : Shared} (TC : ThinC X.prog X.K X.mg T fT) (I : Inv X pins σ H s) : Modl X.prog X.K X.mg s.heap := by
  obtain ⟨mb, hb, hbb⟩ := I.ok.mod.blt
  exact ⟨I.kIn, I.ok.mod.glob.keeps I.bk, ⟨mb, hb.keeps I.bk, (hbb _ (by decide +kernel)).trans (by kernel_rfl)⟩, TC.nos, I.ok.mod.nolimit.keeps I.bk, TC.top⟩
theorem pe_err {x : Str} {p pos : Pos} {e : Expr} {ta : TA} (TC : ThinC X.prog X.K X.mg T fT) (EC : ErrC X.prog X.K T fT C fI) (hr : Room 0 X.A) (hg : Gl X x) (hm : X.mg x = some (.ref C)) (ha : PA X [e] ta)
    (hdb : (x == ("__debug__" : Str)) = false := by decide) (hs : starEach [e] X.env = (false, eval e X.env) :: starEach [] X.env := by rfl) :
    PE X (.Call (.Name x p) [e] [] pos) (tErr C ta) := by
  refine ⟨fun pins s σ H Q I h => ?_⟩
  obtain ⟨nm, q, N, bs, bm, sn, sub, ab, col, dd, k0, k1, k2, k3, k5, hC, hbm⟩ := EC.ek.cls
  refine wpAny_Call_Name_kw (ld_glob I hg hm ?_ hdb)
  refine callWith_K (h₀ := X.base) I.ok.mod.kin EC.kp (thn (ha.run pos pins s σ H _ I h) fun us s1 z => ⟨?_, ?_⟩) hs rfl
  · obtain ⟨vs, H1, I1, r1, _⟩ := z
    exact I1.kIn
  · obtain ⟨vs, H1, I1, r1, v, rfl, q1⟩ := z
    obtain ⟨u, rfl, ru⟩ : ∃ u, us = [u] ∧ RelV v u := by
      cases r1 with
      | cons ra rb => cases rb; exact ⟨_, rfl, ra⟩
    obtain ⟨hp, g, dr, tk, os⟩ := s1
    have MO := modl_of TC I1
    refine wpAny_call (PySem.HandSPX.call_own F.excBase_ValueError (fun Y => PySem.HandSPX.refsVE_contains Y bm hbm) (I1.kIn _ _ hC) (looks_findIn I1.kIn EC.ini) (fun self => bind_fn I1.kIn self EC.ity) (by show 1 ≤ sizeLine; decide) ?_)
    have get1 : ((hp.push (kdv_tup [u])).push (PySem.HandSPX.excO C hp.objs.size)).get? (hp.objs.size + 1) = some (PySem.HandSPX.excO C hp.objs.size) := by heap_get
    have free1 : hp.get? (hp.objs.size + 1) = none := by
      cases z : hp.get? (hp.objs.size + 1) with
      | none => rfl
      | some o => exact absurd (Heap.lt_size z) (Nat.not_lt.mpr (Nat.le_succ _))
    refine init_code (h₀ := hp) (x := hp.objs.size + 1) (v := u) (t := hp.objs.size) MO TC EC ?_ (fun b o z => Heap.get?_push_of_some _ (Heap.get?_push_of_some _ z)) get1 free1 ?_ (.inl rfl) (fun h' tk' dx t' a1 a2 a3 a4 a5 => ?_)
    · rw [make_depth]
      have := hr.dp
      omega
    · rw [Heap.size_push, Heap.size_push]
      omega
    · refine ⟨rfl, ⟨.ref (hp.objs.size + 1), _, inv_exc (t2 := tk') I1 a1 (Nat.le_succ _) a2 a3 a4 a5 ru, rfl, ?_⟩⟩
      exact q1 _ _ (I1.hok.fresh (Nat.le_succ _)) (I1.hok.fresh a2) a3
end
end TPX
end
section
set_option Elab.async false
set_option maxRecDepth 100000
set_option maxHeartbeats 4000000
namespace TPX
open PySem PySem.W PySem.Calls PyProof.Rows L2 PySem.HandSPX
section
variable {prog : Program} {w : World} {A : Around} {E : Value → Shared → Prop} {R : Result → Shared → Prop} {h : Heap} {g : Array GenState} {d : Drawn} {t : Nat} {os : OsState}
variable {nm q : Str} {C N : Addr} {bs bm bmB : List Value} {hdct : Bool} {sn : List Str} {sub : List Value} {ab : Bool} {col : Option Bool} {dd : Option Addr} {k0 k1 k2 k3 k5 : Option Value} {B newId initId : String} {kn : Str} {u : Value}
theorem kw_check_type (hC : h.get? C = some (excClassObj nm q C N bs bm hdct sn sub ab col dd k0 k1 k2 k3 k5 newId)) {M : Model} {Q : Unit → Shared → Prop} (hq : Q () ⟨h, g, d, t, os⟩) :
    wpAny M A (checkBuiltinCall "type.__call__" ⟨[.ref C], [(kn, u)]⟩) Q E ⟨h, g, d, t, os⟩ := by
  have z := tc_sub
  have ty : (⟨h, g, d, t, os⟩ : Shared).TypeIs (.ref C) "type" := ⟨_, hC, rfl⟩
  simp only [checkBuiltinCall, tc_kind, tc_split]
  repeat (any_goals (first | assumption | with_reducible refine wpAny_loadPart_at hC ?_ | wp_step))
theorem kw_check_new (F : ExcBaseFacts B newId initId bmB) (hT : ∀ Y : String, bm.contains (.type Y) = bmB.contains (.type Y)) {M : Model} {Q : Unit → Shared → Prop}
    (hC : h.get? C = some (excClassObj nm q C N bs bm hdct sn sub ab col dd k0 k1 k2 k3 k5 newId)) (hq : Q () ⟨h, g, d, t, os⟩) : wpAny M A (checkBuiltinCall newId ⟨[.ref C], [(kn, u)]⟩) Q E ⟨h, g, d, t, os⟩ := by
  have c1 : (Value.ref C :: bm).contains (.type B) = true := by rw [List.contains_cons, hT, F.hasB, Bool.or_true]
  have c2 := F.noStar
  simp only [checkBuiltinCall, F.newKind, F.newSplit, F.newRow]
  repeat (first | refine wpAny_loadPart_at hC ?_ | (refine wpAny_isSubtype_exc hC ?_; rw [c1]) | refine wpAny_staticBase_exc hC ?_ | refine wpAny_madeBy_exc hC ?_ | simp only [bne_self_eq_false, Bool.false_eq_true, if_false] | wp_step)
  exact hq
theorem kw_new (F : ExcBaseFacts B newId initId bmB) (hT : ∀ Y : String, bm.contains (.type Y) = bmB.contains (.type Y))
    (hC : h.get? C = some (excClassObj nm q C N bs bm hdct sn sub ab col dd k0 k1 k2 k3 k5 newId))
    (hq : R (.ok (.ret (.ref (h.objs.size + 1)))) ⟨(h.push (kdv_tup [])).push (excO C h.objs.size), g, d, t, os⟩) :
    codeAny (model prog w) A (.builtin newId ⟨[.ref C], [(kn, u)]⟩) R ⟨h, g, d, t, os⟩ := by
  have ends := F.ends
  have c1 : (Value.ref C :: bm).contains (.type B) = true := by rw [List.contains_cons, hT, F.hasB, Bool.or_true]
  have c2 : (Value.ref C :: bm).contains (.type "AttributeError") = false := by rw [List.contains_cons, hT, F.noAttr]; rfl
  have c3 : (Value.ref C :: bm).contains (.type "NameError") = false := by rw [List.contains_cons, hT, F.noName]; rfl
  refine codeAny_builtinAt F.entry ?_
  unfold Builtin.«BaseException.__new__»
  refine _root_.PySem.wpAt_bind ?_
  show _root_.PySem.wpAt _ _ _ (stack >>= _) _ _ _
  refine _root_.PySem.wpAt_bind (_root_.PySem.wpAt_stack fun p below => _root_.PySem.wpAt_of_wpAny ?_)
  wp_walk
  refine _root_.PySem.wpAt_of_wpAny ?_
  rw [F.owner]
  repeat (first | with_reducible refine wpAny_madeHere_exc F.canon hC ?_ | with_reducible refine wpAny_loadPart_at hC ?_ | (with_reducible refine wpAny_isSubtype_exc hC ?_; first | rw [c1] | rw [c2] | rw [c3]) | wp_step)
  show R _ _
  rw [Heap.size_push]
  exact hq
theorem kw_type_call (F : ExcBaseFacts B newId initId bmB) (hT : ∀ Y : String, bm.contains (.type Y) = bmB.contains (.type Y)) {fI : Addr} {Q : Fin → Shared → Prop}
    (hC : h.get? C = some (excClassObj nm q C N bs bm hdct sn sub ab col dd k0 k1 k2 k3 k5 newId))
    (hi : Looks (model prog w) h (typeLookup (.ref C) "__init__") (some (.ref fI))) (hb : ∀ self, Looks (model prog w) h (bindSpecial (.ref fI) self) (.ref fI, [self]))
    (hq : codeAny (model prog w) A (.call (.ref fI) ⟨[.ref (h.objs.size + 1)], [(kn, u)]⟩)
      (fun r s' => match r with | .ok (.ret v) => v = .none ∧ Q (.done (.ret (.ref (h.objs.size + 1)))) s' | .ok _ => False | .error e => E e s')
      ⟨(h.push (kdv_tup [])).push (excO C h.objs.size), g, d, t, os⟩) :
    wpAny (model prog w) A (Builtin.«type.__call__» ⟨[.ref C], [(kn, u)]⟩) Q E ⟨h, g, d, t, os⟩ := by
  repeat (first | with_reducible refine wpAny_loadPart_at hC ?_ | with_reducible refine wpAny_madeBy_exc hC ?_ | wp_step)
  refine codeAny_call_builtin_code (Code.quiet_builtin _ F.quiet) (kw_check_new F hT hC ?_)
  refine kw_new F hT hC ?_
  show wpAny _ _ _ _ _ _
  have kk : ∀ b o, h.get? b = some o → ((h.push (kdv_tup [])).push (excO C h.objs.size)).get? b = some o := fun b o e => Heap.get?_push_of_some _ (Heap.get?_push_of_some _ e)
  have c1 := kk _ _ hC
  have get1 : ((h.push (kdv_tup [])).push (excO C h.objs.size)).get? (h.objs.size + 1) = some (excO C h.objs.size) := by heap_get
  have c2 : (Value.ref C :: bm).contains (.ref C) = true := by simp
  have c3 := hi.keeps kk
  have c4 := (hb (.ref (h.objs.size + 1))).keeps kk
  unfold isInstance
  repeat (first | with_reducible refine wpAny_loadPart_at get1 ?_ | (with_reducible refine wpAny_isSubtype_exc c1 ?_; rw [c2]) | wp_step)
  show wpAny _ _ (typeLookup (.ref C) _) _ _ _
  refine c3.at ?_
  refine wpAny_holding (wpAny_bind (c4.at ?_))
  refine wpAny_bind (wpAny_call (codeAny_mono hq fun r s' z => ?_))
  rcases r with e | (v | _ | _ | _) <;> first | exact z | exact z.elim | skip
  obtain ⟨rfl, z⟩ := z
  first
    | exact wpAny_pure (wpAny_pure z)
    | (wp_walk; exact z)
theorem kw_call (F : ExcBaseFacts B newId initId bmB) (hT : ∀ Y : String, bm.contains (.type Y) = bmB.contains (.type Y)) {fI : Addr}
    (hC : h.get? C = some (excClassObj nm q C N bs bm hdct sn sub ab col dd k0 k1 k2 k3 k5 newId))
    (hi : Looks (model prog w) h (typeLookup (.ref C) "__init__") (some (.ref fI))) (hb : ∀ self, Looks (model prog w) h (bindSpecial (.ref fI) self) (.ref fI, [self]))
    (hq : codeAny (model prog w) (A.under (.builtin "type.__call__" ⟨[.ref C], [(kn, u)]⟩)) (.call (.ref fI) ⟨[.ref (h.objs.size + 1)], [(kn, u)]⟩) (InitBack (h.objs.size + 1) R)
      ⟨(h.push (kdv_tup [])).push (excO C h.objs.size), g, d, t, os⟩) :
    codeAny (model prog w) A (.call (.ref C) ⟨[], [(kn, u)]⟩) R ⟨h, g, d, t, os⟩ := by
  have z1 := tc_lookup
  have z2 := tc_bind (.ref C)
  have ty : (⟨h, g, d, t, os⟩ : Shared).TypeIs (.ref C) "type" := ⟨_, hC, rfl⟩
  refine codeAny_of_tree ?_
  show wpAny _ _ (callAny (.ref C) _) _ _ _
  repeat (any_goals (first | assumption | with_reducible refine wpAny_loadPart_at hC ?_ | wp_step))
  refine ⟨rfl, ?_⟩
  refine codeAny_call_builtin_at (Code.quiet_builtin _ (by decide +kernel)) entry_typeCall (kw_check_type hC (kw_type_call F hT hC hi hb ?_))
  refine codeAny_mono hq fun r s' z => ?_
  rcases r with e | (v | _ | _ | _) <;> exact z
end
end TPX
end
section
set_option Elab.async false
set_option maxRecDepth 100000
set_option maxHeartbeats 4000000
namespace TPX
open PySem PySem.W PySem.Calls PyProof.Rows L2
/-- what isinstance and a read of value ask of an error's class -/
structure ErrI (K : Frag) (C : Addr) : Prop where
  ga : findIn K (.ref C) "__getattribute__" = some (some (.builtin "BaseException.__getattribute__"))
  gg : findIn K (.ref C) "__getattr__" = some none
  sb : subIn K (.ref C) (.type "BaseException") = some true
  hd : hasDictIn K C = true
  ca : findIn K (.ref C) "__class__" = some (some (.builtin "object.__class__"))
  cn : specialIn K (.builtin "object.__class__") "__get__" = some (some (.builtin "getset_descriptor.__get__"))
  ct : takesIn K (.builtin "object.__class__") = some true
  mo : mroIn K C (.type "object") = some true
section
variable {X : Cx} {C T fT fI : Addr}
theorem inst_of {pins : List (Addr × Obj)} {σ : L2.St} {H : Hp} {s : Shared} {a d : Addr} {fs : List (Str × V)} (I : Inv X pins σ H s) (ha : H a = some (exo a C (some d))) (hd : H d = some (exd d fs)) :
    ∃ ox od mA, PySem.W.InstAt s.heap a ox C (some od) ∧ s.heap.Ns1 d mA ∧ (∀ f, RelO (fs.lookup f) (mA f)) ∧ ∀ n, lookIn n od = some (mA n) := by
  obtain ⟨t1, e⟩ := exo_at I.hok ha
  obtain ⟨mA, hns, hr⟩ := exd_at I.hok hd
  obtain ⟨od, ho, hl⟩ := lookIn_ns hns
  exact ⟨_, od, mA, ⟨e, rfl, rfl, ho⟩, hns, hr, hl⟩
/-- e.value of an error -/
def tErrV (K : Frag) (te : TE) : TE := fun σ H Q => te σ H fun x H1 => ∃ a C d v, x = .ref a ∧ ErrI K C ∧ findIn K (.ref C) "value" = some none ∧ H1 a = some (exo a C (some d)) ∧ H1 d = some (exd d [("value", v)]) ∧ Q v H1
theorem pe_errV {e : Expr} {te : TE} {pos : Pos} (he : PE X e te) (hb : attributeBase e "value" X.env (eval e X.env) = eval e X.env := by rfl) : PE X (.Attribute e "value" pos) (tErrV X.K te) := by
  refine ⟨fun pins s σ H Q I h => ?_⟩
  refine attr_of hb (thn (he.run pins s σ H _ I h) fun u s1 z => ?_)
  obtain ⟨x, H1, I1, rx, a, C, d, v, ex, EI, no, ha, hd, q⟩ := z
  subst ex
  obtain rfl : u = Value.ref a := rx
  obtain ⟨ox, od, mA, J, hns, hr, hl⟩ := inst_of I1 ha hd
  obtain ⟨u, hu, ru⟩ := RelO.some_of (v := v) (o := mA "value") (hr "value")
  exact PySem.HandSPX.exc_get I1.kIn J EI.ga EI.gg EI.sb (findObj_own EI.hd no rfl (by rw [hl, hu])) (handed_of ru) ⟨v, H1, I1.tok _, ru, q⟩
/-- isinstance(e, c), e an error -/
def rErrIs (K : Frag) : List V → Hp → VK → Prop := fun xs H Q => ∃ a C d v c cv b, xs = [.ref a, c] ∧ ErrI K C ∧ H a = some (exo a C (some d)) ∧ H d = some (exd d [("value", v)]) ∧ ClsV c cv ∧ kitOne K (.ref C) cv = some b ∧ Q (.bl b) H
theorem call_errIs : CallR X (.builtin "isinstance") (rErrIs X.K) := by
  intro pins s σ H xs us Q I r h
  obtain ⟨a, C, d, v, c, cv, b, rfl, EI, ha, hd, hc, hk, q⟩ := h
  obtain ⟨u1, u2, rfl, r1, r2⟩ := vals2 r
  have e2 := hc.eq r2
  subst e2
  obtain rfl : u1 = Value.ref a := r1
  obtain ⟨ox, od, mA, J, hns, hr, hl⟩ := inst_of I ha hd
  obtain ⟨cd, hcd, _⟩ := any_some EI.hd
  exact kia_one (kitx_exc (gt := none) (by rw [hcd]; rfl) EI.ga EI.gg EI.sb EI.ca EI.cn EI.ct EI.mo) I.kIn J hk (fun z => nomatch z) fun tk => ⟨.bl b, H, I.tok tk, rfl, q⟩
/-- C(value=e) -/
theorem pe_errK {x : Str} {p pos kp : Pos} {e : Expr} {ta : TA} (TC : ThinC X.prog X.K X.mg T fT) (EC : ErrC X.prog X.K T fT C fI) (hr : Room 0 X.A) (hg : Gl X x) (hm : X.mg x = some (.ref C)) (ha : PK X [⟨some "value", e, kp⟩] ta)
    (hdb : (x == ("__debug__" : Str)) = false := by decide) (hall : (backToKw pos (keywordEach [⟨some "value", e, kp⟩] X.env)).all (·.1.isSome) = true := by rfl)
    (hks : (backToKw pos (keywordEach [⟨some "value", e, kp⟩] X.env)).filterMap (·.1) = [("value" : Str)] := by rfl)
    (hpl : ((backTo pos (starEach [] X.env)).any (·.1) || (backToKw pos (keywordEach [⟨some "value", e, kp⟩] X.env)).any (·.1.isNone)) = false := by rfl) :
    PE X (.Call (.Name x p) [] [⟨some "value", e, kp⟩] pos) (tErr C ta) := by
  refine ⟨fun pins s σ H Q I h => ?_⟩
  obtain ⟨nm, q, N, bs, bm, sn, sub, ab, col, dd, k0, k1, k2, k3, k5, hC, hbm⟩ := EC.ek.cls
  refine wpAny_Call_Name_kw (ld_glob I hg hm ?_ hdb)
  refine callWith_KW0 (h₀ := X.base) I.ok.mod.kin EC.kp hall (thn (ha.run pos pins s σ H _ I h) fun us s1 z => ⟨?_, ?_⟩) hpl
  · obtain ⟨vs, H1, I1, r1, _⟩ := z
    exact I1.kIn
  · obtain ⟨vs, H1, I1, r1, v, rfl, q1⟩ := z
    obtain ⟨u, rfl, ru⟩ : ∃ u, us = [u] ∧ RelV v u := by
      cases r1 with
      | cons ra rb => cases rb; exact ⟨_, rfl, ra⟩
    obtain ⟨hp, g, dr, tk, os⟩ := s1
    have MO := modl_of TC I1
    rw [hks]
    show wpAny _ _ (call (.ref C) [] [("value", u)]) _ _ _
    refine wpAny_call (kw_call F.excBase_ValueError (fun Y => PySem.HandSPX.refsVE_contains Y bm hbm) (I1.kIn _ _ hC) (looks_findIn I1.kIn EC.ini) (fun self => bind_fn I1.kIn self EC.ity) ?_)
    have get1 : ((hp.push (kdv_tup [])).push (PySem.HandSPX.excO C hp.objs.size)).get? (hp.objs.size + 1) = some (PySem.HandSPX.excO C hp.objs.size) := by heap_get
    have free1 : hp.get? (hp.objs.size + 1) = none := by
      cases z : hp.get? (hp.objs.size + 1) with
      | none => rfl
      | some o => exact absurd (Heap.lt_size z) (Nat.not_lt.mpr (Nat.le_succ _))
    refine init_code (h₀ := hp) (x := hp.objs.size + 1) (v := u) (t := hp.objs.size) MO TC EC ?_ (fun b o z => Heap.get?_push_of_some _ (Heap.get?_push_of_some _ z)) get1 free1 ?_ (.inr rfl) (fun h' tk' dx t' a1 a2 a3 a4 a5 => ?_)
    · rw [make_depth]
      have := hr.dp
      omega
    · rw [Heap.size_push, Heap.size_push]
      omega
    · refine ⟨rfl, ⟨.ref (hp.objs.size + 1), _, inv_exc (t2 := tk') I1 a1 (Nat.le_succ _) a2 a3 a4 a5 ru, rfl, ?_⟩⟩
      exact q1 _ _ (I1.hok.fresh (Nat.le_succ _)) (I1.hok.fresh a2) a3
end
end TPX
end
section
set_option Elab.async false
set_option maxRecDepth 100000
set_option maxHeartbeats 4000000
namespace TPX
open PySem PySem.W PySem.Calls PyProof.Rows L2
/-! ### data that stands in the heap, dicts with it -/
def keyD : Key → PyData
  | .inl i => .int i
  | .inr z => .str z
mutual
inductive Dq (K : Frag) (H : Hp) : V → PyData → Prop
  | non : Dq K H .non .none
  | bl (b : Bool) : Dq K H (.bl b) (.bool b)
  | int (i : Int) : Dq K H (.int i) (.int i)
  | str (z : Str) : Dq K H (.str z) (.str z)
  | lst {a : Addr} {xs : List V} {ds : List PyData} : SqL K H a xs → sysModules < a → DqAll K H xs ds → Dq K H (.ref a) (.list ds)
  | tup {a : Addr} {xs : List V} {ds : List PyData} : SqT K H a xs → DqAll K H xs ds → Dq K H (.ref a) (.tuple ds)
  | dct {a : Addr} {kvs : List (Key × V)} {ds : List PyData} : H a = some (.dK kvs) → DqAll K H (kvs.map (·.2)) ds → Dq K H (.ref a) (.dict ((kvs.map fun kv => keyD kv.1).zip ds))
inductive DqAll (K : Frag) (H : Hp) : List V → List PyData → Prop
  | nil : DqAll K H [] []
  | cons {v : V} {vs : List V} {d : PyData} {ds : List PyData} : Dq K H v d → DqAll K H vs ds → DqAll K H (v :: vs) (d :: ds)
end
theorem sqL_same {K : Frag} {H H' : Hp} {a : Addr} {xs : List V} (e : Same H H') (h : SqL K H a xs) : SqL K H' a xs := e.seq h
theorem sqT_same {K : Frag} {H H' : Hp} {a : Addr} {xs : List V} (e : Same H H') (h : SqT K H a xs) : SqT K H' a xs := by
  rcases h with h | h
  · rcases h with h | ⟨o, h⟩
    · exact .inl (.inl (e _ _ h))
    · exact .inl (.inr ⟨o, e _ _ h⟩)
  · exact .inr h
mutual
theorem Dq.mono {K : Frag} {H H' : Hp} (e : Same H H') : ∀ {v : V} {d : PyData}, Dq K H v d → Dq K H' v d
  | _, _, .non => .non
  | _, _, .bl b => .bl b
  | _, _, .int i => .int i
  | _, _, .str z => .str z
  | _, _, .lst h1 h2 h3 => .lst (sqL_same e h1) h2 (DqAll.mono e h3)
  | _, _, .tup h1 h3 => .tup (sqT_same e h1) (DqAll.mono e h3)
  | _, _, .dct h1 h3 => .dct (e _ _ h1) (DqAll.mono e h3)
theorem DqAll.mono {K : Frag} {H H' : Hp} (e : Same H H') : ∀ {vs : List V} {ds : List PyData}, DqAll K H vs ds → DqAll K H' vs ds
  | _, _, .nil => .nil
  | _, _, .cons h1 h2 => .cons (Dq.mono e h1) (DqAll.mono e h2)
end
theorem DqAll.len {K : Frag} {H : Hp} : ∀ {vs : List V} {ds : List PyData}, DqAll K H vs ds → vs.length = ds.length
  | _, _, .nil => rfl
  | _, _, .cons _ h => congrArg (· + 1) h.len
section
variable {X : Cx} {pins : List (Addr × Obj)} {σ : L2.St} {H : Hp} {s : Shared}
theorem keys_read {h : Heap} : ∀ {es : List DictEntry} {kvs : List (Key × V)} {vs : List (Key × Value)}, KV kvs vs → Pairs (mixKind X.prog X.w) es vs → ReadsAll h (es.map (·.key)) (kvs.map fun kv => keyD kv.1) [] ∧ Vals (kvs.map (·.2)) (es.map (·.val))
  | _, _, _, .nil, .nil => ⟨.nil, .nil⟩
  | _, _, _, .cons (a := (k, v)) (b := (k', u)) r t, .cons (e := en) hk hv p => by
    obtain ⟨h1, h2⟩ := keys_read (h := h) t p
    obtain ⟨e1, e2⟩ := r
    have e1' : k = k' := e1
    subst e1'
    refine ⟨?_, .cons (by show RelV v en.val; rw [hv]; exact e2) h2⟩
    have z : keyIs k en.key = true := hk
    rcases keyIs_shape z with ⟨i, t, rfl, e⟩ | ⟨x, t, rfl, e⟩
    · exact ReadsAll.cons (as := []) (bs := []) (by show Reads h en.key (.int i) []; rw [e]; exact .int i t) h1
    · exact ReadsAll.cons (as := []) (bs := []) (by show Reads h en.key (.str x) []; rw [e]; exact .str x t) h1
mutual
theorem Dq.reads (I : Inv X pins σ H s) : ∀ {v : V} {d : PyData}, Dq X.K H v d → ∀ u : Value, RelV v u → ∃ as, Reads s.heap u d as ∧ sysModules ∉ as
  | _, _, .non, u, r => by cases r; exact ⟨_, .none, by simp⟩
  | _, _, .bl b, u, r => by cases r; exact ⟨_, .bool b, by simp⟩
  | _, _, .int i, u, r => by obtain ⟨t, rfl⟩ := r; exact ⟨_, .int i t, by simp⟩
  | _, _, .str z, u, r => by obtain ⟨t, rfl⟩ := r; exact ⟨_, .str z t, by simp⟩
  | _, _, .lst h1 h2 h3, u, r => by
    cases r
    obtain ⟨its, rv, ⟨o, n, ho, hc, _, hd⟩, _⟩ := I.list h1
    obtain ⟨as, hr, hn⟩ := DqAll.reads I h3 _ rv
    refine ⟨_, .list ho hc hd hr, fun z => ?_⟩
    rcases List.mem_cons.mp z with z | z
    · exact absurd z (Nat.ne_of_lt h2)
    · exact hn z
  | _, _, .tup h1 h3, u, r => by
    cases r
    obtain ⟨its, rv, ⟨o, ho, hc, n, hd⟩, _⟩ := I.tuple h1
    obtain ⟨as, hr, hn⟩ := DqAll.reads I h3 _ rv
    exact ⟨_, .tuple ho hc hd hr, hn⟩
  | _, _, .dct (a := a) (kvs := kvs) (ds := ds) h1 h3, u, r => by
    cases r
    obtain ⟨hz, hs, vs, rel, o, es, ep, ho, hx, hd, hk, hp, hnd⟩ := (show ObjOk X.prog X.w H s.heap a (.dK kvs) from I.hok a _ h1)
    obtain ⟨k1, k2⟩ := keys_read (X := X) (h := s.heap) rel hp
    obtain ⟨as, hr, hn⟩ := DqAll.reads I h3 _ k2
    have hl : (kvs.map fun kv => keyD kv.1).length = ds.length := by
      have z := h3.len
      rw [List.length_map] at z ⊢
      exact z
    refine ⟨_, .dict ho hx.1 hd (as := []) (bs := as) (by rw [List.map_fst_zip (Nat.le_of_eq hl)]; exact k1) (by rw [List.map_snd_zip (Nat.le_of_eq hl.symm)]; exact hr), fun z => ?_⟩
    rcases List.mem_cons.mp z with z | z
    · rw [← z] at hs
      exact absurd hs (by decide)
    · exact hn z
theorem DqAll.reads (I : Inv X pins σ H s) : ∀ {vs : List V} {ds : List PyData}, DqAll X.K H vs ds → ∀ us : List Value, Vals vs us → ∃ as, ReadsAll s.heap us ds as ∧ sysModules ∉ as
  | _, _, .nil, us, r => by cases r; exact ⟨_, .nil, by simp⟩
  | _, _, .cons h1 h2, us, r => by
    cases r with
    | cons r1 r2 =>
      obtain ⟨as, a1, a2⟩ := Dq.reads I h1 _ r1
      obtain ⟨bs, b1, b2⟩ := DqAll.reads I h2 _ r2
      refine ⟨_, .cons a1 b1, fun z => ?_⟩
      rcases List.mem_append.mp z with z | z
      · exact a2 z
      · exact b2 z
end
end
/-! ### repr(x), x data -/
def rRepr (K : Frag) : List V → Hp → VK → Prop := fun xs H Q => ∃ x d, xs = [x] ∧ Dq K H x d ∧ d.showable = true ∧ d.depth ≤ 100 ∧ d.shown.length ≤ sizeLine ∧ Q (.str d.shown) H
theorem call_reprD {X : Cx} (hg : X.A.guards = some []) (hu : X.A.units + 200 < cLine) : CallR X (.builtin "repr") (rRepr X.K) := by
  intro pins s σ H xs us Q I r h
  obtain ⟨x, d, rfl, hd, hs, hdp, hsz, q⟩ := h
  cases r with
  | cons rx rr =>
    cases rr
    rename_i u
    obtain ⟨as, hr, hn⟩ := hd.reads I _ rx
    have fin : ∀ (h' : Heap) (t : Tok) (tk : Nat), (∀ b o, s.heap.get? b = some o → h'.get? b = some o) → EP X pins σ Q (.str d.shown t) { s with heap := h', toks := tk } := fun h' t tk k => ⟨.str d.shown, H, I.kept (t' := tk) k, ⟨t, rfl⟩, q⟩
    cases hr with
    | none => exact PySem.P.repr_of_none (fin s.heap _ _ fun _ _ z => z)
    | bool b => exact PySem.P.repr_of_bool (fin s.heap _ _ fun _ _ z => z)
    | int i t => exact PySem.P.repr_of_int (by simpa [PyData.showable] using hs) (fin s.heap _ _ fun _ _ z => z)
    | str z t => exact PySem.P.repr_of_str (fin s.heap _ _ fun _ _ z => z) hsz
    | list a b c e => exact repr_of_reads' (Reads.list a b c e) hs (fun _ => hn) hg (by omega) (fun _ _ z => z) (fun h' u tk k => fin h' u tk k) hsz
    | tuple a b c e => exact repr_of_reads' (Reads.tuple a b c e) hs (fun _ => hn) hg (by omega) (fun _ _ z => z) (fun h' u tk k => fin h' u tk k) hsz
    | dict a b c e f => exact repr_of_reads' (Reads.dict a b c e f) hs (fun _ => hn) hg (by omega) (fun _ _ z => z) (fun h' u tk k => fin h' u tk k) hsz
/-! ### a list display whose place is not that of sys.modules -/
def tLstB (t : TA) : TE := fun σ H Q => t σ H fun xs H1 => xs.length ≤ sizeLine ∧ ∀ p, H1 p = none → sysModules < p → Q (.ref p) (upd H1 p (.lst xs))
theorem pe_lstB {X : Cx} {es : List Expr} {t : TA} {pos : Pos} (h : PA X es t) : PE X (.List es pos) (tLstB t) := by
  refine ⟨fun pins s σ H Q I hq => ?_⟩
  refine wpAny_List_spliced (thn (h.run pos pins s σ H _ I hq) fun us s1 z => ?_)
  obtain ⟨xs, H1, I1, r, hz, q⟩ := z
  refine ⟨by rw [← r.length]; exact hz, ⟨.ref s1.heap.objs.size, upd H1 s1.heap.objs.size (.lst xs), ?_, rfl, q _ (I1.hok.fresh (Nat.le_refl _)) I1.big⟩⟩
  exact I1.laid (t' := s1.toks) (fun b u e => Heap.get?_push_of_some _ e) (Nat.le_refl _) ⟨hz, us, 0, r, Heap.get?_push_size _ rfl⟩
end TPX
end
section
set_option Elab.async false
set_option maxRecDepth 100000
set_option maxHeartbeats 4000000
namespace TPX
open PySem PySem.Spec PyProof.Rows L2
/-! ### defs that call repr: no repr runs around them -/
structure FnG (P : Program) (w : World) (K : PySem.W.Frag) (mg : Str → Option Value) (base : Heap) (k : Nat) (f : Addr) (fd : FuncData) (ps : List Str) (sp : Sp) : Prop where
  len : ∀ vs H Q E, sp vs H Q E → vs.length = ps.length
  go : ∀ (A : Around) (outer : List Env) (s : Shared) (H : Hp) (args : Args) (us : List Value) (vs : List V) (Q : VK) (E : XK), A.guards = some [] → Room k A → Env0 P w K mg base A outer s H → BindsTo s fd args (ps.zip us) → Vals vs us → sp vs H Q E →
    codeAny (model P w) A (.call (.ref f) args) (CR CX0 outer P w H s Q E) s
section
variable {P : Program} {w : World} {K : PySem.W.Frag} {mg : Str → Option Value} {base : Heap}
theorem fun_okG {x qual : Str} {st : Stmt} {f : Addr} {fd : FuncData} {N ps : List Str} {k : Nat} {sp : Sp} (F : Fun K x qual st f fd) (S : FnScope N ps (defScope st)) (len : ∀ vs H Q E, sp vs H Q E → vs.length = ps.length)
    (hbody : ∀ (cdv : Value) (A : Around) (outer : List Env) (s : Shared) (H : Hp) (vs : List V) (Q : VK) (E : XK), A.guards = some [] → Room k (A.deeper (envOfC qual (defScope st) s.heap.objs.size f cdv)) → sp vs H Q E →
      ∃ t, PSs (cxOf CX0 P w K mg base N qual (defScope st) f cdv A outer s H E).nox (defBody st) t ∧ t { nx := fun _ H' => Q .non H', rt := Q } (start N vs) H) : FnG P w K mg base (k + 1) f fd ps sp := by
  obtain ⟨oc, od, kV, doc, pm, an, cdv, ct, osl, rfl, lk, hcd⟩ := F.ex
  refine ⟨len, fun A outer s H args us vs Q E hg hr e0 hb r hsp => ?_⟩
  have hn := len _ _ _ _ hsp
  have bk : ∀ b o, base.get? b = some o → s.heap.get? b = some o := fun b o e => (e0.bs b o e).1
  have KI : K.In s.heap := e0.mod.kin.keeps bk
  have kinds : ∀ y ∈ ps.zip us, (defScope st).names.lookup y.1 = some .local ∨ ((defScope st).names.lookup y.1 = some .cell ∧ ((cellsFrom (s.heap.objs.size + 1) (defScope st).names []).lookup y.1).isSome = true) := by
    rintro ⟨n, v⟩ hy
    rcases S.par n (List.of_mem_zip hy).1 with q | q
    · exact .inl q
    · exact .inr ⟨q, PySem.W.cellsFrom_some _ _ _ (.inl q)⟩
  refine codeAny_call_function hr.depth (KI _ _ lk) rfl S.co S.gen rfl (PySem.W.codeRec_of KI hcd) (hb _ _ _ _ ?_)
  refine wpAny_newFunctionEnv_cells S.kind kinds fun env he s1 ic => ?_
  subst he
  refine ⟨(e0.mod.nolimit.keeps bk).keeps ic.toInCall.keep, codeAny_func ?_⟩
  obtain ⟨t, ht, hq⟩ := hbody cdv A outer s H vs Q E hg (hr.deeper _) hsp
  have I0 := inv_start (CX := CX0) (E := E) S hr.hd e0 hn r ic
  refine wpAny_mono (ht.nox.run [] s1 (start N vs) H _ I0 hq) (fun fl s' z => ?_) fun e s' z => z
  have fin : ∀ {σ' : L2.St} {H' : Hp} {v : V} {u : Value}, Inv (cxOf CX0 P w K mg base N qual (defScope st) f cdv A outer s H E) [] σ' H' s' → RelV v u → Q v H' → CE outer P w H s Q u s' :=
    fun {_ H' v u} J rv q => ⟨v, H', J.os, J.bare, J.base, J.hok, rv, q⟩
  cases fl with
  | ret u =>
    obtain ⟨v, σ', H', J, rv, q⟩ := z
    exact fin J rv q
  | next =>
    obtain ⟨σ', H', J, q⟩ := z
    exact fin (v := .non) (u := .none) J rfl q
  | brk => obtain ⟨_, _, _, q⟩ := z; exact False.elim q
  | cont => obtain ⟨_, _, _, q⟩ := z; exact False.elim q
end
section
variable {X : Cx} {k : Nat} {f : Addr} {fd : FuncData} {ps : List Str} {sp : Sp} {x : Str} {p pos : Pos} {e : Expr} {es : List Expr} {t : TA}
theorem pe_callG (F : FnG X.prog X.w X.K X.mg X.base k f fd ps sp) (hg : X.A.guards = some []) (hr : Room k X.A) (hgl : Gl X x) (hm : X.mg x = some (.ref f)) (hk : PySem.W.keepIn X.K (.ref f) = true) (hb : Binds X.K fd ps [])
    (ha : PA X (e :: es) t) (hdb : (x == ("__debug__" : Str)) = false := by decide) (hs : starEach (e :: es) X.env = (false, eval e X.env) :: starEach es X.env := by rfl) (hpl : (backTo pos (starEach es X.env)).any (·.1) = false := by rfl) :
    PE X (.Call (.Name x p) (e :: es) [] pos) (tCall sp [] (fun _ _ _ => False) t) := by
  refine ⟨fun pins s σ H Q I h => ?_⟩
  refine wpAny_Call_Name_kw (ld_glob I hgl hm ?_ hdb)
  refine PySem.W.callWith_K (h₀ := X.base) I.ok.mod.kin hk (thn (ha.run pos pins s σ H _ I h) fun us s1 z => ?_) hs hpl
  obtain ⟨vs, H1, I1, r, q⟩ := z
  refine ⟨I1.kIn, ?_⟩
  rw [List.append_nil] at q
  have hl : us.length = ps.length := by rw [← r.length]; exact F.len _ _ _ _ q
  have hb1 := hb s1 us I1.kIn (by rw [List.append_nil]; exact hl)
  rw [List.append_nil] at hb1
  refine wpAny_call (codeAny_mono (F.go X.A X.stack s1 H1 ⟨us, []⟩ us vs Q _ hg hr I1.env0 hb1 r q) fun rr s' z => ?_)
  cases rr with
  | error er => exact z.elim
  | ok fl =>
    cases fl with
    | ret u => exact I1.after z
    | next => exact z.elim
    | brk => exact z.elim
    | cont => exact z.elim
end
/-! ### the law's own call -/
theorem law_callG {P : Program} {w : World} {K : PySem.W.Frag} {mg mb : Str → Option Value} {k : Nat} {fa a : Addr} {fd : FuncData} {x : Str} {sp : Sp} {s₁ : Shared} {vs : List Value} {ns : List Int}
    (KX : K.In s₁.heap) (hns : s₁.heap.Ns mainGlobals mg) (hb : s₁.heap.Ns builtinsNs mb) (hbb : ∀ x : Str, x ≠ "__name__" → mb x = bootBuiltins x) (hlim : s₁.heap.NoLimit) (hg : s₁.gens = #[])
    (ha : s₁.heap.get? a = some { cls := .type "list", data := .seq vs.toArray }) (hi : IntsAre vs ns) (hl : ns.length ≤ sizeLine) (hr : Room k callerA)
    (F : ∀ base : Heap, K.In base → base.Ns mainGlobals mg → FnG P w K mg base k fa fd [x] sp) (hbind : ∀ (s : Shared) (u : Value), BindsTo s fd ⟨[u], []⟩ [(x, u)])
    (hsp : ∀ H : Hp, Only H → SqL K H a (ns.map V.int) → sp [.ref a] H (fun v _ => v = .bl true) fun _ _ _ => False) :
    codeAny (model P w) callerA (.call (.ref fa) ⟨[.ref a], []⟩) (fun r s' => r = .ok (.ret (.bool true)) ∧ OldK s₁.heap s'.heap ∧ s'.os = s₁.os ∧ AllBare s'.gens) s₁ := by
  have rv := vals_ints hi
  have go : ∀ H : Hp, Only H → SqL K H a (ns.map V.int) → HOk P w H s₁.heap → (∀ b, H b ≠ none → b = a ∧ K.lookup a = none) →
      codeAny (model P w) callerA (.call (.ref fa) ⟨[.ref a], []⟩) (fun r s' => r = .ok (.ret (.bool true)) ∧ OldK s₁.heap s'.heap ∧ s'.os = s₁.os ∧ AllBare s'.gens) s₁ := by
    intro H only sq hok own
    have free : ∀ {b : Addr}, b ≠ a → H b = none := fun {b} hb => by
      cases q : H b with
      | none => rfl
      | some u => exact absurd (own b (by rw [q]; simp)).1 hb
    have kIn : K.In (hidT s₁.heap H) := fun b o e => hidT_get (KX b o e) (by
      cases q : H b with
      | none => rfl
      | some u =>
        obtain ⟨e1, e2⟩ := own b (by rw [q]; simp)
        rw [e1, e2] at e
        cases e)
    have ns1 : ∀ {b : Addr} {m : Str → Option Value}, s₁.heap.Ns b m → (hidT s₁.heap H).Ns b m := by
      rintro b m ⟨o, es, ep, e, d, r⟩
      refine ⟨o, es, ep, hidT_get e (free fun z => ?_), d, r⟩
      rw [z, ha] at e
      cases e
      cases (show Data.seq vs.toArray _ = Data.dict es ep from d)
    obtain ⟨mc, l1, l2⟩ := hlim
    have mo : Mod K mg (hidT s₁.heap H) := ⟨kIn, ns1 hns, ⟨mb, ns1 hb, hbb⟩, ⟨mc, ns1 l1, l2⟩⟩
    have en : Env0 P w K mg (hidT s₁.heap H) callerA [] s₁ H := ⟨rfl, mo, fun b o e => of_hidT e, Nat.le_of_eq (hidT_size _ _), trivial, fun b z => absurd (show b ∈ ([] : List Addr) from z) (by simp), hok, .of_eq hg⟩
    refine codeAny_mono ((F _ kIn (ns1 hns)).go callerA [] s₁ H ⟨[.ref a], []⟩ [.ref a] [.ref a] _ _ rfl hr en (hbind s₁ (.ref a)) (.cons rfl .nil) (hsp H only sq)) fun r s' z => ?_
    cases r with
    | error e => exact z.elim
    | ok fl =>
      cases fl with
      | next => exact z.elim
      | brk => exact z.elim
      | cont => exact z.elim
      | ret u =>
        obtain ⟨v, H', os, bare, un, hok', r', q⟩ := z
        obtain rfl : v = .bl true := q
        obtain rfl : u = Value.bool true := r'
        refine ⟨rfl, OldK.of_keep fun b o e => ?_, os, bare⟩
        rcases only b with n | ⟨ob, xs, n⟩
        · exact un.keep b o e n (fun y => absurd (show b ∈ ([] : List Addr) from y) (by simp)) (by simp)
        · obtain ⟨e1, _⟩ := hok b _ n
          obtain ⟨e2, _⟩ := hok' b _ (un.frzs b ob _ n)
          rw [e1] at e
          cases e
          exact e2
  cases hk : K.lookup a with
  | some o =>
    have e := KX a o hk
    rw [ha] at e
    cases e
    exact go (fun _ => none) (fun _ => .inl rfl) (.inr ⟨_, vs.toArray, _, hk, rfl, rfl, rfl, by rw [List.size_toArray, hi.length]; exact hl, by simpa using rv⟩) (fun b u z => nomatch z) fun b z => absurd rfl z
  | none =>
    refine go (upd (fun _ => none) a (.frz { cls := .type "list", data := .seq vs.toArray } (.lst (ns.map V.int)))) (fun b => ?_) (.inl (.inr ⟨_, upd_same⟩)) (fun b u z => ?_) (fun b z => ?_)
    · by_cases e : b = a
      · exact .inr ⟨_, _, by rw [e]; exact upd_same⟩
      · exact .inl (upd_ne e)
    · by_cases e : b = a
      · subst e
        rw [upd_same] at z
        cases z
        exact ⟨ha, by rw [List.length_map]; exact hl, vs, _, rv, ha⟩
      · rw [upd_ne e] at z
        cases z
    · by_cases e : b = a
      · exact ⟨e, hk⟩
      · exact absurd (upd_ne e) z
theorem walk_ofG {l : PySem.W.OpenLaw} {n k : Nat} {q : Program} {loose : List Str} {XP : (Str → Option Value) → Heap → Prop} {YP : World → Heap → Prop} {d : DefRec} {K : Params → PySem.W.Frag} {sp : PySem.W.Frag → Sp} {x : Str}
    (hn : l.most = some n) (hn2 : n ≤ sizeLine) (hdf : d.params.defaults = []) (hr : Room k callerA) (hY : ∀ (w : World) (h : Heap), YP w h → (K w.params).In h)
    (F : ∀ (w : World) (mg : Str → Option Value) (fa : Addr) (h : Heap), (K w.params).In h → h.Ns mainGlobals mg → mg d.name = some (.ref fa) →
      ∃ fd : FuncData, (∀ (s : Shared) (u : Value), BindsTo s fd ⟨[u], []⟩ [(x, u)]) ∧ ∀ base : Heap, (K w.params).In base → base.Ns mainGlobals mg → FnG l.prog w (K w.params) mg base k fa fd [x] (sp (K w.params)))
    (hsp : ∀ (K : PySem.W.Frag) (H : Hp) (a : Addr) (ns : List Int), ns.length ≤ n → Only H → SqL K H a (ns.map V.int) → sp K [.ref a] H (fun v _ => v = .bl true) fun _ _ _ => False) :
    PySem.W.WalkO q loose XP YP l.row.toRowW d [] (fun f vs => PySem.call f vs) := by
  refine Att.attach_call hn hdf fun w s₀ s₁ mg mb fa o pm cd doc a vs ns G Y ho hd hcd hmg hobj hints hlen hg => ?_
  obtain ⟨fd, b1, b2⟩ := F w mg fa _ (hY w _ Y) G.T.g hmg
  exact law_callG (hY w _ Y) G.T.g G.T.b G.T.builtins G.T.nolimit hg hobj hints (Nat.le_trans hlen hn2) hr b2 b1 fun H z1 z2 => hsp _ H a ns hlen z1 z2
end TPX
end
section
set_option Elab.async false
set_option maxRecDepth 100000
set_option maxHeartbeats 4000000
namespace TP
open PySem L2 PyProof.Rows
def top (i : Nat) : Stmt := PySem.Challenge.pw_thinnedpast_k59_errors_with_any_value.main.body.getD i (.Pass ⟨0, 0, 0, 0⟩)
abbrev sTake : Stmt := top 39
abbrev sOf : Stmt := top 40
abbrev sPotOf : Stmt := top 41

/-! the pot: three ints in a list -/
def potL (a b c : Int) : List V := [.int a, .int b, .int c]
structure Pot (H : Hp) (p : Addr) (n : Nat) : Prop where
  ex : ∃ a b c : Int, H p = some (.lst (potL a b c)) ∧ 0 ≤ b ∧ b < 2 ^ 62 ∧ 0 ≤ c ∧ c ≤ n
/-- H' is H but for the pot at p, which stands at most n times drawn from -/
structure Drawn (H : Hp) (p : Addr) (n : Nat) (H' : Hp) : Prop where
  pot : Pot H' p n
  rest : ∀ a o, a ≠ p → H a = some o → H' a = some o
theorem upd_at {H : Hp} {p : Addr} {o : HO} (h : H p = some o) : upd H p o = H := by
  funext b
  by_cases hb : b = p
  · rw [hb, upd_same, h]
  · rw [upd_ne hb]
theorem Pot.mono {H : Hp} {p : Addr} {n m : Nat} (h : Pot H p n) (l : n ≤ m) : Pot H p m := by
  obtain ⟨a, b, c, e, h1, h2, h3, h4⟩ := h.ex
  exact ⟨a, b, c, e, h1, h2, h3, by omega⟩
theorem Drawn.refl {H : Hp} {p : Addr} {n : Nat} (h : Pot H p n) : Drawn H p n H := ⟨h, fun _ _ _ z => z⟩
theorem Drawn.trans {H H1 H2 : Hp} {p : Addr} {n m : Nat} (a : Drawn H p n H1) (b : Drawn H1 p m H2) : Drawn H p m H2 :=
  ⟨b.pot, fun x o hx z => b.rest x o hx (a.rest x o hx z)⟩

def spTake : Sp := fun vs H Q _ => ∃ (p : Addr) (n : Nat) (m : Int), vs = [.ref p, .int m] ∧ Pot H p n ∧ n < 1000000 ∧ 0 < m ∧ m < 1000000 ∧
  ∀ (r : Int) (H' : Hp), 0 ≤ r → r < m → Drawn H p (n + 1) H' → Q (.int r) H'

section
variable {P : Program} {w : World} {K : PySem.W.Frag} {mg : Str → Option Value} {base : Heap}
theorem scT : FnScope ["_law_pot", "_law_upto", "_law_digit", "_law_prime", "_law_mixed"] ["_law_pot", "_law_upto"] (defScope sTake) := ⟨rfl, rfl, rfl, by decide +kernel, rfl, by decide +kernel, by decide +kernel⟩
theorem op_powX {X : Cx} : OpR X (binaryOp .Pow) (rI (fun i j => 0 ≤ j ∧ (Builtin.Int.intBits i : Int) * j ≤ 2 ^ 27) fun i j => .int (i ^ j.toNat)) := opI fun _ _ _ _ _ _ _ hc q => pow_int hc.1 hc.2 q
theorem prime_at (c : Int) : ∃ q : Int, atI ([.int 2147483647, .int 2147483629, .int 2147483587, .int 2147483579, .int 2147483563] : List V) (c % 5) = some (.int q) ∧ 0 < q ∧ q < 2 ^ 31 := by
  have h : c % 5 = 0 ∨ c % 5 = 1 ∨ c % 5 = 2 ∨ c % 5 = 3 ∨ c % 5 = 4 := by omega
  rcases h with h | h | h | h | h <;> rw [h]
  · exact ⟨2147483647, rfl, by decide, by decide⟩
  · exact ⟨2147483629, rfl, by decide, by decide⟩
  · exact ⟨2147483587, rfl, by decide, by decide⟩
  · exact ⟨2147483579, rfl, by decide, by decide⟩
  · exact ⟨2147483563, rfl, by decide, by decide⟩
theorem ok_take {f : Addr} {fd : FuncData} (F : Fun K "_law_take" "_law_take" sTake f fd) (mi : mg "int" = none) : FnOk P w K mg base CX0 1 f fd ["_law_pot", "_law_upto"] spTake := by
  refine F.ok scT (fun vs H Q E h => ?_) (fun cdv A outer s H vs Q E hr h => ?_)
  · obtain ⟨p, n, m, rfl, _⟩ := h
    rfl
  · obtain ⟨p, n, m, rfl, hp, hn, hm0, hm1, k⟩ := h
    obtain ⟨a, b, c, e, hb0, hb1, hc0, hc1⟩ := hp.ex
    refine ⟨_, pss_cons (ps_if (pt_cmpR op_gt (pe_ix ix_list (pv 0) pe_int (fun _ _ => rfl)) pe_int (nomark _))
        (pss_cons (ps_set (i := 2) scT.nd rfl (Or.inl rfl) (pe_op op_mod (pe_callTy call_int1 (by rfl) mi boot_int (pa_cons (pe_ix ix_list (pv 0) pe_int (fun _ _ => rfl)) pa_nil)) (pv 1)))
        (pss_cons (ps_asg (pe_op op_fdiv (pe_ix ix_list (pv 0) pe_int (fun _ _ => rfl)) (pv 1)) (pg_sub (pv 0) pe_int set_list))
        (pss_one (ps_ret (pv 2))))) pss_nil)
      (pss_cons (ps_asg (pe_op op_add (pe_ix ix_list (pv 0) pe_int (fun _ _ => rfl)) pe_int) (pg_sub (pv 0) pe_int set_list))
      (pss_cons (ps_set (i := 3) scT.nd rfl (Or.inl rfl) (pe_ix ix_list (pe_lst (pa_cons pe_int (pa_cons pe_int (pa_cons pe_int (pa_cons pe_int (pa_cons pe_int pa_nil))))))
          (pe_op op_mod (pe_callTy call_int1 (by rfl) mi boot_int (pa_cons (pe_ix ix_list (pv 0) pe_int (fun _ _ => rfl)) pa_nil)) pe_int) (fun _ _ => rfl)))
      (pss_cons (ps_set (i := 4) scT.nd rfl (Or.inl rfl) (pe_op op_mod (pe_op op_pow (pe_callTy call_int1 (by rfl) mi boot_int (pa_cons
          (pe_op op_add (pe_op op_add (pe_ix ix_list (pv 0) pe_int (fun _ _ => rfl)) (pe_op op_mul (pe_op op_mul pe_int (pe_ix ix_list (pv 0) pe_int (fun _ _ => rfl))) (pe_ix ix_list (pv 0) pe_int (fun _ _ => rfl)))) pe_int) pa_nil)) pe_int) (pv 3)))
      (pss_one (ps_ret (pe_op op_mod (pe_op op_fdiv (pe_op op_mod (pe_callTy call_int1 (by rfl) mi boot_int (pa_cons
          (pe_op op_mul (pv 4) (pe_op op_add (pe_op op_mod (pe_callTy call_int1 (by rfl) mi boot_int (pa_cons (pv 4) pa_nil)) pe_int) (pe_op op_mul pe_int (pe_ix ix_list (pv 0) pe_int (fun _ _ => rfl))))) pa_nil)) pe_int) pe_int) (pv 1))))))), ?_⟩
    have i0 : ∀ {a b c : Int}, atI (potL a b c) 0 = some (.int a) := rfl
    have i1 : ∀ {a b c : Int}, atI (potL a b c) 1 = some (.int b) := rfl
    have i2 : ∀ {a b c : Int}, atI (potL a b c) 2 = some (.int c) := rfl
    refine ⟨_, rfl, p, _, _, _, rfl, rfl, SqL.of e, i0, _, _, rfl, rfl, _, rfl, ?_⟩
    refine ite2 (fun h => ?_) (fun h => ?_)
    · refine ⟨_, rfl, p, _, _, _, rfl, rfl, SqL.of e, i0, .inl ⟨_, rfl, _, rfl, _, _, rfl, rfl, hm0, ?_⟩⟩
      refine ⟨_, rfl, p, _, _, _, rfl, rfl, SqL.of e, i0, _, rfl, _, _, rfl, rfl, ⟨hm0, by omega⟩, ?_⟩
      refine ⟨_, rfl, p, _, _, _, rfl, rfl, e, rfl, ?_⟩
      refine ⟨_, rfl, ?_⟩
      refine k _ _ (Int.emod_nonneg _ (by omega)) (Int.emod_lt_of_pos _ hm0) ⟨⟨a / m, b, c, upd_same, hb0, hb1, hc0, by omega⟩, fun x o hx z => by rw [upd_ne hx]; exact z⟩
    · have e1 : ∀ z, (upd H p (.lst (potL a b z))) p = some (.lst (potL a b z)) := fun z => upd_same
      refine ⟨_, rfl, p, _, _, _, rfl, rfl, SqL.of e, i2, _, _, rfl, rfl, ?_⟩
      refine ⟨_, rfl, p, _, _, _, rfl, rfl, e, rfl, ?_⟩
      have e2 : (upd H p (.lst (potL a b (c + 1)))) p = some (.lst (potL a b (c + 1))) := upd_same
      -- prime
      refine ⟨by show 5 ≤ sizeLine; decide, fun l hl => ?_⟩
      have e3 : (upd (upd H p (.lst (potL a b (c + 1)))) l (.lst [.int 2147483647, .int 2147483629, .int 2147483587, .int 2147483579, .int 2147483563])) p = some (.lst (potL a b (c + 1))) := by
        rw [upd_ne (ne_of_none e2 hl)]; exact e2
      obtain ⟨q, hq, hq0, hq1⟩ := prime_at (c + 1)
      refine ⟨_, rfl, p, _, _, _, rfl, rfl, SqL.of e3, i2, .inl ⟨_, rfl, _, _, rfl, rfl, (by show (0 : Int) < 5; decide), l, _, _, _, rfl, rfl, SqL.of upd_same, hq, ?_⟩⟩
      -- mixed
      have hcc : 0 ≤ 60029 * (c + 1) * (c + 1) ∧ 60029 * (c + 1) * (c + 1) ≤ 60029 * (1000000 * 1000000) := by
        have h1 : 0 ≤ (c + 1) * (c + 1) := Int.mul_nonneg (by omega) (by omega)
        have h2 : (c + 1) * (c + 1) ≤ 1000000 * 1000000 := Int.mul_le_mul (by omega) (by omega) (by omega) (by omega)
        rw [Int.mul_assoc]
        omega
      refine ⟨_, rfl, p, _, _, _, rfl, rfl, SqL.of e3, i1, _, rfl, p, _, _, _, rfl, rfl, SqL.of e3, i2, _, _, rfl, rfl, .inl ⟨by decide, by decide⟩, _, rfl, p, _, _, _, rfl, rfl, SqL.of e3, i2,
        _, _, rfl, rfl, .inl ⟨by omega, by omega⟩, _, _, rfl, rfl, _, _, rfl, rfl, .inl ⟨_, rfl, _, _, rfl, rfl, ⟨by decide, by decide, by omega⟩, _, rfl, _, _, rfl, rfl, hq0, ?_⟩⟩
      -- return
      generalize hx : ((b + 60029 * (c + 1) * (c + 1) + 59) ^ Int.toNat 3) % q = x
      have hx0 : 0 ≤ x := by rw [← hx]; exact Int.emod_nonneg _ (by omega)
      have hx1 : x < q := by rw [← hx]; exact Int.emod_lt_of_pos _ hq0
      refine ⟨_, rfl, _, rfl, .inl ⟨_, rfl, _, _, rfl, rfl, (by show (0 : Int) < 10007; decide), _, rfl, p, _, _, _, rfl, rfl, SqL.of e3, i2, _, _, rfl, rfl, .inl ⟨by decide, by decide⟩, _, _, rfl, rfl,
        _, _, rfl, rfl, .inl ⟨by omega, by omega⟩, .inl ⟨_, rfl, _, _, rfl, rfl, (by show (0 : Int) < 2305843009213693951; decide), _, _, rfl, rfl, ⟨by decide, by decide⟩, _, rfl, _, _, rfl, rfl, hm0, ?_⟩⟩⟩
      refine k _ _ (Int.emod_nonneg _ (by omega)) (Int.emod_lt_of_pos _ hm0) ⟨⟨a, b, c + 1, e3, hb0, hb1, by omega, by omega⟩, fun x o hx z => ?_⟩
      have z1 : (upd H p (.lst (potL a b (c + 1)))) x = some o := by rw [upd_ne hx]; exact z
      have z2 : x ≠ l := ne_of_none z1 hl
      show upd _ l _ x = some o
      rw [upd_ne z2]
      exact z1
theorem Drawn.free {H H' : Hp} {p q : Addr} {n : Nat} (d : Drawn H p n H') (h : H' q = none) : H q = none := by
  cases e : H q with
  | none => rfl
  | some o =>
    have hq : q ≠ p := fun z => by
      obtain ⟨a, b, c, e', _⟩ := d.pot.ex
      rw [z, e'] at h
      cases h
    rw [d.rest q o hq e] at h
    cases h
/-! some[take(pot, len(some))]: one of the items -/
def spOf (K : PySem.W.Frag) : Sp := fun vs H Q _ => ∃ (p a : Addr) (n : Nat) (xs : List V), vs = [.ref p, .ref a] ∧ Pot H p n ∧ n < 1000000 ∧ a ≠ p ∧ SqL K H a xs ∧ xs ≠ [] ∧ xs.length < 1000000 ∧
  ∀ (v : V) (H' : Hp), v ∈ xs → Drawn H p (n + 1) H' → Q v H'
theorem scO : FnScope ["_law_pot", "_law_some"] ["_law_pot", "_law_some"] (defScope sOf) := ⟨rfl, rfl, rfl, by decide +kernel, rfl, by decide +kernel, by decide +kernel⟩
theorem SqL_drawn {H H' : Hp} {p a : Addr} {n : Nat} {xs : List V} (d : Drawn H p n H') (ha : a ≠ p) (h : SqL K H a xs) : SqL K H' a xs := by
  rcases h with h | h
  · left
    rcases h with h | ⟨o, h⟩
    · exact .inl (d.rest _ _ ha h)
    · exact .inr ⟨o, d.rest _ _ ha h⟩
  · exact .inr h
theorem ok_of {f fT : Addr} {fd fdT : FuncData} (F : Fun K "_law_of" "_law_of" sOf f fd) (FT : FnOk P w K mg base CX0 1 fT fdT ["_law_pot", "_law_upto"] spTake) (bT : Binds K fdT ["_law_pot", "_law_upto"] []) (mT : mg "_law_take" = some (.ref fT)) (kT : PySem.W.keepIn K (.ref fT) = true) (ml : mg "len" = none) : FnOk P w K mg base CX0 2 f fd ["_law_pot", "_law_some"] (spOf K) := by
  refine F.ok scO (fun vs H Q E h => ?_) (fun cdv A outer s H vs Q E hr h => ?_)
  · obtain ⟨p, a, n, xs, rfl, _⟩ := h
    rfl
  · obtain ⟨p, a, n, xs, rfl, hp, hn, hap, hx, hne, hl, k⟩ := h
    refine ⟨_, pss_one (ps_ret (pe_ix ix_list (pv 1) (pe_call FT hr rfl mT kT bT .nil pass0 (pa_cons (pv 0) (pa_cons (pe_callB call_len_seq (by rfl) ml PySem.boot_len (pa_cons (pv 1) pa_nil)) pa_nil))) (fun _ _ => rfl))), ?_⟩
    refine ⟨_, rfl, _, rfl, _, rfl, a, xs, rfl, .inl hx, p, n, _, rfl, hp, hn, ?_, by omega, fun r H' h0 h1 d => ?_⟩
    · have : xs.length ≠ 0 := fun z => hne (List.length_eq_zero_iff.mp z)
      omega
    · have hr : r.toNat < xs.length := by omega
      have er : ((r.toNat : Nat) : Int) = r := Int.toNat_of_nonneg h0
      have hg : xs[r.toNat]? = some xs[r.toNat] := List.getElem?_eq_getElem hr
      refine ⟨a, xs, r, _, rfl, rfl, SqL_drawn d hap hx, (by rw [← er]; exact atI_nat hg), ?_⟩
      exact k _ _ (List.getElem_mem hr) d
/-! the pot of a cell -/
theorem bit_small (k : Bool) : -(2 ^ 64) < (if k = true then (1 : Int) else 0) ∧ (if k = true then (1 : Int) else 0) < 2 ^ 64 := by cases k <;> decide
def spPotOf (K : PySem.W.Frag) : Sp := fun vs H Q _ => ∃ (a : Addr) (ns : List Int) (k : Nat), vs = [.ref a, .int k] ∧ SqL K H a (ns.map V.int) ∧ ns.length ≤ 63 ∧ k ≤ 100 ∧
  ∀ (p : Addr) (H' : Hp), H p = none → Same H H' → Pot H' p 0 → Q (.ref p) H'
theorem scP : FnScope ["_law_script", "_law_k", "_law_cell", "_law_own"] ["_law_script", "_law_k"] (defScope sPotOf) := ⟨rfl, rfl, rfl, by decide +kernel, rfl, by decide +kernel, by decide +kernel⟩
theorem ok_potOf {f : Addr} {fd : FuncData} (F : Fun K "_law_pot_of" "_law_pot_of" sPotOf f fd) (mi : mg "int" = none) (ma : mg "abs" = none) (ml : mg "len" = none) : FnOk P w K mg base CX0 1 f fd ["_law_script", "_law_k"] (spPotOf K) := by
  refine F.ok scP (fun vs H Q E h => ?_) (fun cdv A outer s H vs Q E hr h => ?_)
  · obtain ⟨a, ns, k, rfl, _⟩ := h
    rfl
  · obtain ⟨a, ns, k, rfl, hs, hl, hk, kk⟩ := h
    refine ⟨_, C8.pss_cut (ps_set (i := 2) scP.nd rfl (Or.inl rfl) (pe_ifExp (pt_cmpR op_lt (pv 1) (pe_callB call_len_seq (by rfl) ml PySem.boot_len (pa_cons (pv 0) pa_nil)) (nomark _))
        (pe_ix ix_list (pv 0) (pv 1) (fun _ _ => rfl)) (pe_op op_add (pe_op op_mul pe_int (pv 1)) pe_int)))
      (pss_cons (ps_set (i := 3) scP.nd rfl (Or.inl rfl) (pe_op op_mul (pe_op op_mod (pe_callTy call_int1 (by rfl) mi boot_int (pa_cons (pe_callB call_abs (by rfl) ma boot_abs (pa_cons (pv 2) pa_nil)) pa_nil))
          (pe_op op_powX (pe_op op_pow pe_int pe_int) pe_int))
        (pe_callTy call_int1 (by rfl) mi boot_int (pa_cons (pe_cmpR op_ge (pe_callB call_abs (by rfl) ma boot_abs (pa_cons (pv 2) pa_nil)) (pe_op op_pow pe_int pe_int) (nomark _)) pa_nil))))
      (pss_one (ps_ret (pe_lst (pa_cons (pv 3) (pa_cons (pe_op op_mod (pe_op op_add (pe_op op_add (pe_op op_mul (pe_op op_mod (pe_callTy call_int1 (by rfl) mi boot_int (pa_cons (pv 2) pa_nil)) pe_int) pe_int)
          (pe_op op_mul (pe_op op_mul pe_int (pv 1)) (pv 1))) pe_int) pe_int) (pa_cons pe_int pa_nil))))))), ?_⟩
    refine ⟨fun σ' H' => ∃ x : Int, σ' = [some (.ref a), some (.int k), some (.int x), none] ∧ H' = H, ?_, ?_⟩
    · refine ⟨_, rfl, _, rfl, a, _, rfl, .inl hs, _, _, rfl, rfl, _, rfl, ?_⟩
      refine ite2 (fun h => ?_) (fun h => ?_)
      · have h' : k < ns.length := by
          have := of_decide_eq_true h
          rw [List.length_map] at this
          omega
        refine ⟨_, rfl, _, rfl, a, _, _, _, rfl, rfl, hs, atI_nat (v := V.int ns[k]) (by rw [List.getElem?_map, List.getElem?_eq_getElem h']; rfl), ?_⟩
        exact ⟨_, rfl, rfl⟩
      · refine ⟨_, rfl, _, _, rfl, rfl, .inl ⟨by decide, by decide⟩, _, _, rfl, rfl, ?_⟩
        exact ⟨_, rfl, rfl⟩
    · rintro σ' H' ⟨x, rfl, rfl⟩
      refine ⟨_, rfl, _, rfl, .inl ⟨_, rfl, _, _, rfl, rfl, ⟨by decide, by decide, by decide⟩, _, _, rfl, rfl, ⟨by decide, by decide +kernel⟩, _, _, rfl, rfl, ?_, ?_⟩⟩
      · show (0 : Int) < _
        decide +kernel
      refine ⟨_, rfl, _, rfl, _, _, rfl, rfl, ⟨by decide, by decide, by decide⟩, _, _, rfl, rfl, .inr ⟨_, rfl, _, _, rfl, rfl, .inr ?_, ?_⟩⟩
      · exact bit_small _
      refine ⟨_, rfl, _, rfl, .inl ⟨_, rfl, _, _, rfl, rfl, (by show (0 : Int) < 2305843009213693951; decide), _, _, rfl, rfl, .inr ⟨by decide, by decide⟩, _, rfl, _, _, rfl, rfl, .inl ⟨by decide, by decide⟩, _, rfl, _, _, rfl, rfl, .inr ⟨by omega, by omega⟩,
        _, _, rfl, rfl, _, _, rfl, rfl, _, _, rfl, rfl, (by show (0 : Int) < 2305843009213693921; decide), by show 3 ≤ sizeLine; decide, fun p hp => ?_⟩⟩
      refine kk p _ hp (fun b o e => by rw [upd_ne (ne_of_none e hp)]; exact e) ⟨_, _, _, upd_same, Int.emod_nonneg _ (by decide), ?_, Int.le_refl 0, Int.le_refl 0⟩
      exact Int.lt_trans (Int.emod_lt_of_pos _ (by decide)) (by decide)
end
end TP
end
section
set_option Elab.async false
set_option maxRecDepth 100000
set_option maxHeartbeats 4000000
namespace TP
open PySem L2 PyProof.Rows TPX
abbrev sOdd : Stmt := top 42
/-! the heap without the pot -/
theorem del_sub {H : Hp} {p : Addr} : Same (del H p) H := fun b o e => by
  by_cases hb : b = p
  · rw [hb, del_same] at e
    cases e
  · rw [del_ne hb] at e
    exact e
theorem Drawn.hid {H H' : Hp} {p : Addr} {n : Nat} (d : Drawn H p n H') : Same (del H p) (del H' p) := fun b o e => by
  by_cases hb : b = p
  · rw [hb, del_same] at e
    cases e
  · rw [del_ne hb] at e ⊢
    exact d.rest b o hb e
theorem hid_new {H : Hp} {p q : Addr} {o : HO} (hq : H q = none) : Same (del H p) (del (upd H q o) p) := fun b o e => by
  by_cases hb : b = p
  · rw [hb, del_same] at e
    cases e
  · rw [del_ne hb] at e ⊢
    rw [upd_ne (ne_of_none e hq)]
    exact e
theorem hid_at {H : Hp} {p q : Addr} {o : HO} (hq : q ≠ p) : del (upd H q o) p q = some o := by
  rw [del_ne hq, upd_same]
theorem Pot.upd {H : Hp} {p q : Addr} {n : Nat} {o : HO} (h : Pot H p n) (hq : H q = none) : Pot (upd H q o) p n := by
  obtain ⟨a, b, c, e, r⟩ := h.ex
  exact ⟨a, b, c, by rw [upd_ne (ne_of_none e hq)]; exact e, r⟩
theorem Pot.ne {H : Hp} {p q : Addr} {n : Nat} (h : Pot H p n) (hq : H q = none) : q ≠ p := by
  obtain ⟨a, b, c, e, r⟩ := h.ex
  exact (ne_of_none e hq).symm
theorem Drawn.new {H H' : Hp} {p q : Addr} {n : Nat} {o : HO} (d : Drawn H p n H') (hq : H' q = none) : Drawn H p n (L2.upd H' q o) :=
  ⟨d.pot.upd hq, fun a u ha e => by rw [upd_ne (ne_of_none (d.rest a u ha e) hq)]; exact d.rest a u ha e⟩
theorem Drawn.mono {H H' : Hp} {p : Addr} {n m : Nat} (d : Drawn H p n H') (l : n ≤ m) : Drawn H p m H' := ⟨d.pot.mono l, d.rest⟩
/-! what an odd value shows -/
structure Shw (d : PyData) (i : Nat) : Prop where
  sh : d.showable = true
  dp : d.depth ≤ 2 + i
  sz : d.shown.length ≤ 40 + 20 * i
def baseD : List PyData := [.none, .bool true, .bool false, .int 0, .int 1, .int (-1), .int (10 ^ 11), .str "", .str "a.b", .str "\n", .tuple [], .list [], .dict [], .tuple [.tuple []], .tuple [.str "value", .int 1, .str "a.b"]]
theorem base_shw : ∀ d ∈ baseD, Shw d 0 := by
  have h : baseD.all (fun d => d.showable && decide (d.depth ≤ 2) && decide (d.shown.length ≤ 40)) = true := by decide +kernel
  intro d hd
  have z := List.all_eq_true.mp h d hd
  simp only [Bool.and_eq_true, decide_eq_true_eq] at z
  exact ⟨z.1.1, z.1.2, z.2⟩
def wraps (d : PyData) : List PyData := [.tuple [d], .list [d], .dict [(.str "a", d)], .tuple [d, .int 0]]
theorem wrap_shw {d : PyData} {i : Nat} (h : Shw d i) : ∀ e ∈ wraps d, Shw e (i + 1) := by
  intro e he
  simp only [wraps, List.mem_cons, List.mem_nil_iff, or_false] at he
  have h1 := h.sh
  have h2 := h.dp
  have h3 := h.sz
  rcases he with rfl | rfl | rfl | rfl
  · have z := tupleText_len_le (PyData.shownAll [d])
    simp only [PyData.shownAll, List.map_cons, List.map_nil, List.sum_cons, List.sum_nil, List.length_cons, List.length_nil] at z
    exact ⟨by simp only [PyData.showable, PyData.showableAll, h1, Bool.and_self], by simp only [PyData.depth, PyData.depthAll]; omega, by simp only [PyData.shown, PyData.shownAll]; omega⟩
  · have z := listText_len_le (PyData.shownAll [d])
    simp only [PyData.shownAll, List.map_cons, List.map_nil, List.sum_cons, List.sum_nil, List.length_cons, List.length_nil] at z
    exact ⟨by simp only [PyData.showable, PyData.showableAll, h1, Bool.and_self], by simp only [PyData.depth, PyData.depthAll]; omega, by simp only [PyData.shown, PyData.shownAll]; omega⟩
  · have z := dictText_len_le (PyData.shownKv [(.str "a", d)])
    have y : (PyData.shown (.str "a") ++ ": " ++ d.shown).length = d.shown.length + 5 := by
      have y1 : (PyData.shown (.str "a") ++ (": " : Str)).length = 5 := by decide +kernel
      rw [Str.length_append, y1]
      omega
    simp only [PyData.shownKv, List.map_cons, List.map_nil, List.sum_cons, List.sum_nil, List.length_cons, List.length_nil] at z
    exact ⟨by simp only [PyData.showable, PyData.showableKv, h1, Bool.and_self], by simp only [PyData.depth, PyData.depthKv]; omega, by simp only [PyData.shown, PyData.shownKv] at z y ⊢; omega⟩
  · have z := tupleText_len_le (PyData.shownAll [d, .int 0])
    have y : (PyData.shown (.int 0)).length = 1 := by decide +kernel
    simp only [PyData.shownAll, List.map_cons, List.map_nil, List.sum_cons, List.sum_nil, List.length_cons, List.length_nil] at z
    exact ⟨by simp only [PyData.showable, PyData.showableAll, h1]; decide, by simp only [PyData.depth, PyData.depthAll]; omega, by simp only [PyData.shown, PyData.shownAll] at z y ⊢; omega⟩
/-! _law_odd -/
def spOdd (K : PySem.W.Frag) : Sp := fun vs H Q _ => ∃ (p : Addr) (n : Nat), vs = [.ref p] ∧ Pot H p n ∧ n < 900000 ∧
  ∀ (v : V) (d : PyData) (H' : Hp), Drawn H p (n + 40) H' → Dq K (del H' p) v d → Shw d 28 → Q v H'
section
variable {P : Program} {w : World} {K : PySem.W.Frag} {mg : Str → Option Value} {base : Heap}
theorem scOdd : FnScope ["_law_pot", "_law_some", "_law_found", "_law_turn"] ["_law_pot"] (defScope sOdd) := ⟨rfl, rfl, rfl, by decide +kernel, rfl, by decide +kernel, by decide +kernel⟩
theorem Shw.mono {d : PyData} {i j : Nat} (h : Shw d i) (l : i ≤ j) : Shw d j := ⟨h.sh, by have := h.dp; omega, by have := h.sz; omega⟩
theorem same_tr {H H1 H2 : Hp} (a : Same H H1) (b : Same H1 H2) : Same H H2 := fun x o e => b x o (a x o e)
def baseV (t1 l1 d1 t3 t4 : Addr) : List V := [.non, .bl true, .bl false, .int 0, .int 1, .int (-1), .int (10 ^ Int.toNat 11), .str "", .str "a.b", .str "\n", .ref t1, .ref l1, .ref d1, .ref t3, .ref t4]
theorem odd_base {H : Hp} {p t1 l1 d1 t2 t3 t4 L : Addr} {n : Nat} (hp : Pot H p n) (h1 : H t1 = none) (h2 : upd H t1 (.tup []) l1 = none) (b2 : sysModules < l1) (h3 : upd (upd H t1 (.tup [])) l1 (.lst []) d1 = none)
    (h4 : upd (upd (upd H t1 (.tup [])) l1 (.lst [])) d1 (.dK []) t2 = none) (h5 : upd (upd (upd (upd H t1 (.tup [])) l1 (.lst [])) d1 (.dK [])) t2 (.tup []) t3 = none)
    (h6 : upd (upd (upd (upd (upd H t1 (.tup [])) l1 (.lst [])) d1 (.dK [])) t2 (.tup [])) t3 (.tup [.ref t2]) t4 = none)
    (hL : upd (upd (upd (upd (upd (upd H t1 (.tup [])) l1 (.lst [])) d1 (.dK [])) t2 (.tup [])) t3 (.tup [.ref t2])) t4 (.tup [.str "value", .int 1, .str "a.b"]) L = none) :
    ∃ H7 : Hp, H7 = upd (upd (upd (upd (upd (upd (upd H t1 (.tup [])) l1 (.lst [])) d1 (.dK [])) t2 (.tup [])) t3 (.tup [.ref t2])) t4 (.tup [.str "value", .int 1, .str "a.b"])) L (.lst (baseV t1 l1 d1 t3 t4)) ∧
      Drawn H p n H7 ∧ L ≠ p ∧ H7 L = some (.lst (baseV t1 l1 d1 t3 t4)) ∧ ∀ v ∈ baseV t1 l1 d1 t3 t4, ∃ d ∈ baseD, Dq K (del H7 p) v d := by
  have p1 := hp.upd (o := .tup []) h1
  have p2 := p1.upd (o := .lst []) h2
  have p3 := p2.upd (o := .dK []) h3
  have p4 := p3.upd (o := .tup []) h4
  have p5 := p4.upd (o := .tup [.ref t2]) h5
  have p6 := p5.upd (o := .tup [.str "value", .int 1, .str "a.b"]) h6
  have D0 : Drawn H p n H := Drawn.refl hp
  have D7 := ((((((D0.new (o := .tup []) h1).new (o := .lst []) h2).new (o := .dK []) h3).new (o := .tup []) h4).new (o := .tup [.ref t2]) h5).new (o := .tup [.str "value", .int 1, .str "a.b"]) h6).new (o := .lst (baseV t1 l1 d1 t3 t4)) hL
  refine ⟨_, rfl, D7, p6.ne hL, upd_same, ?_⟩
  have s7 := hid_new (p := p) (o := .lst (baseV t1 l1 d1 t3 t4)) hL
  have s6 := same_tr (hid_new (p := p) (o := .tup [.str "value", .int 1, .str "a.b"]) h6) s7
  have s5 := same_tr (hid_new (p := p) (o := .tup [.ref t2]) h5) s6
  have s4 := same_tr (hid_new (p := p) (o := .tup []) h4) s5
  have s3 := same_tr (hid_new (p := p) (o := .dK []) h3) s4
  have s2 := same_tr (hid_new (p := p) (o := .lst []) h2) s3
  have e1 : Dq K _ (.ref t1) (.tuple []) := Dq.mono s2 (.tup (SqT.of (hid_at (hp.ne h1))) .nil)
  have e2 : Dq K _ (.ref l1) (.list []) := Dq.mono s3 (.lst (SqL.of (hid_at (p1.ne h2))) b2 .nil)
  have e3 : Dq K _ (.ref d1) (.dict []) := Dq.mono s4 (.dct (kvs := []) (ds := []) (hid_at (p2.ne h3)) .nil)
  have e5 : Dq K _ (.ref t3) (.tuple [.tuple []]) := Dq.mono s6 (.tup (SqT.of (hid_at (p4.ne h5))) (.cons (Dq.mono (hid_new (p := p) (o := .tup [.ref t2]) h5) (.tup (SqT.of (hid_at (p3.ne h4))) .nil)) .nil))
  have e6 : Dq K _ (.ref t4) (.tuple [.str "value", .int 1, .str "a.b"]) := Dq.mono s7 (.tup (SqT.of (hid_at (p5.ne h6))) (.cons (.str _) (.cons (.int _) (.cons (.str _) .nil))))
  intro v hv
  simp only [baseV, List.mem_cons, List.mem_nil_iff, or_false] at hv
  rcases hv with rfl | rfl | rfl | rfl | rfl | rfl | rfl | rfl | rfl | rfl | rfl | rfl | rfl | rfl | rfl
  · exact ⟨.none, by simp [baseD], .non⟩
  · exact ⟨.bool true, by simp [baseD], .bl _⟩
  · exact ⟨.bool false, by simp [baseD], .bl _⟩
  · exact ⟨.int 0, by simp [baseD], .int _⟩
  · exact ⟨.int 1, by simp [baseD], .int _⟩
  · exact ⟨.int (-1), by simp [baseD], .int _⟩
  · exact ⟨.int (10 ^ 11), by simp [baseD], .int _⟩
  · exact ⟨.str "", by simp [baseD], .str _⟩
  · exact ⟨.str "a.b", by simp [baseD], .str _⟩
  · exact ⟨.str "\n", by simp [baseD], .str _⟩
  · exact ⟨_, by simp [baseD], e1⟩
  · exact ⟨_, by simp [baseD], e2⟩
  · exact ⟨_, by simp [baseD], e3⟩
  · exact ⟨_, by simp [baseD], e5⟩
  · exact ⟨_, by simp [baseD], e6⟩
theorem odd_wrap {H : Hp} {p t1 l1 d1 t2 L : Addr} {n : Nat} {v : V} {d : PyData} (hp : Pot H p n) (hv : Dq K (del H p) v d) (h1 : H t1 = none) (h2 : upd H t1 (.tup [v]) l1 = none) (b2 : sysModules < l1)
    (h3 : upd (upd H t1 (.tup [v])) l1 (.lst [v]) d1 = none) (h4 : upd (upd (upd (upd H t1 (.tup [v])) l1 (.lst [v])) d1 (.dK [])) d1 (.dK [(.inr "a", v)]) t2 = none)
    (hL : upd (upd (upd (upd (upd H t1 (.tup [v])) l1 (.lst [v])) d1 (.dK [])) d1 (.dK [(.inr "a", v)])) t2 (.tup [v, .int 0]) L = none) :
    ∃ H7 : Hp, H7 = upd (upd (upd (upd (upd (upd H t1 (.tup [v])) l1 (.lst [v])) d1 (.dK [])) d1 (.dK [(.inr "a", v)])) t2 (.tup [v, .int 0])) L (.lst [.ref t1, .ref l1, .ref d1, .ref t2]) ∧
      Drawn H p n H7 ∧ L ≠ p ∧ H7 L = some (.lst [.ref t1, .ref l1, .ref d1, .ref t2]) ∧ ∀ u ∈ [V.ref t1, .ref l1, .ref d1, .ref t2], ∃ e ∈ wraps d, Dq K (del H7 p) u e := by
  rw [upd_upd] at h4 hL ⊢
  have p1 := hp.upd (o := .tup [v]) h1
  have p2 := p1.upd (o := .lst [v]) h2
  have p3 := p2.upd (o := .dK [(.inr "a", v)]) h3
  have p4 := p3.upd (o := .tup [v, .int 0]) h4
  have D0 : Drawn H p n H := Drawn.refl hp
  have D7 := ((((D0.new (o := .tup [v]) h1).new (o := .lst [v]) h2).new (o := .dK [(.inr "a", v)]) h3).new (o := .tup [v, .int 0]) h4).new (o := .lst [.ref t1, .ref l1, .ref d1, .ref t2]) hL
  refine ⟨_, rfl, D7, p4.ne hL, upd_same, ?_⟩
  have s5 := hid_new (p := p) (o := .lst [.ref t1, .ref l1, .ref d1, .ref t2]) hL
  have s4 := same_tr (hid_new (p := p) (o := .tup [v, .int 0]) h4) s5
  have s3 := same_tr (hid_new (p := p) (o := .dK [(.inr "a", v)]) h3) s4
  have s2 := same_tr (hid_new (p := p) (o := .lst [v]) h2) s3
  have a1 := Dq.mono (hid_new (p := p) (o := .tup [v]) h1) hv
  have a2 := Dq.mono (hid_new (p := p) (o := .lst [v]) h2) a1
  have a3 := Dq.mono (hid_new (p := p) (o := .dK [(.inr "a", v)]) h3) a2
  have a4 := Dq.mono (hid_new (p := p) (o := .tup [v, .int 0]) h4) a3
  have e1 : Dq K _ (.ref t1) (.tuple [d]) := Dq.mono s2 (.tup (SqT.of (hid_at (hp.ne h1))) (.cons a1 .nil))
  have e2 : Dq K _ (.ref l1) (.list [d]) := Dq.mono s3 (.lst (SqL.of (hid_at (p1.ne h2))) b2 (.cons a2 .nil))
  have e3 : Dq K _ (.ref d1) (.dict [(.str "a", d)]) := Dq.mono s4 (.dct (kvs := [(.inr "a", v)]) (ds := [d]) (hid_at (p2.ne h3)) (.cons a3 .nil))
  have e4 : Dq K _ (.ref t2) (.tuple [d, .int 0]) := Dq.mono s5 (.tup (SqT.of (hid_at (p3.ne h4))) (.cons a4 (.cons (.int 0) .nil)))
  intro u hu
  simp only [List.mem_cons, List.mem_nil_iff, or_false] at hu
  rcases hu with rfl | rfl | rfl | rfl
  · exact ⟨_, by simp [wraps], e1⟩
  · exact ⟨_, by simp [wraps], e2⟩
  · exact ⟨_, by simp [wraps], e3⟩
  · exact ⟨_, by simp [wraps], e4⟩
theorem ok_odd {f fO : Addr} {fd fdO : FuncData} (F : Fun K "_law_odd" "_law_odd" sOdd f fd) (FO : FnOk P w K mg base CX0 2 fO fdO ["_law_pot", "_law_some"] (spOf K)) (bO : Binds K fdO ["_law_pot", "_law_some"] []) (mO : mg "_law_of" = some (.ref fO)) (kO : PySem.W.keepIn K (.ref fO) = true)
    (mr : mg "range" = none) : FnOk P w K mg base CX0 3 f fd ["_law_pot"] (spOdd K) := by
  refine F.ok scOdd (fun vs H Q E h => ?_) (fun cdv A outer s H vs Q E hr h => ?_)
  · obtain ⟨p, n, rfl, _⟩ := h
    rfl
  · obtain ⟨p, n, rfl, hp, hn, k⟩ := h
    refine ⟨_, pss_cons (ps_set (i := 1) scOdd.nd rfl (Or.inl rfl) (pe_lst (pa_cons pe_non (pa_cons pe_bl (pa_cons pe_bl (pa_cons pe_int (pa_cons pe_int (pa_cons (pe_un un_neg pe_int) (pa_cons (pe_op op_pow pe_int pe_int) (pa_cons pe_str (pa_cons pe_str (pa_cons pe_str
        (pa_cons (pe_tup pa_nil) (pa_cons (pe_lstB pa_nil) (pa_cons pe_dnewK (pa_cons (pe_tup (pa_cons (pe_tup pa_nil) pa_nil)) (pa_cons (pe_tup (pa_cons pe_str (pa_cons pe_int (pa_cons pe_str pa_nil)))) pa_nil)))))))))))))))))
      (pss_cons (ps_set (i := 2) scOdd.nd rfl (Or.inl rfl) (pe_call FO hr rfl mO kO bO .nil pass0 (pa_cons (pv 0) (pa_cons (pv 1) pa_nil))))
      (pss_cons (ps_for PassesOwn.never rfl (pi_range1 rfl mr (pa_cons (pe_call FO hr rfl mO kO bO .nil pass0 (pa_cons (pv 0) (pa_cons (pe_lst (pa_cons pe_int (pa_cons pe_int (pa_cons pe_int (pa_cons pe_int (pa_cons pe_int pa_nil)))))) pa_nil))) pa_nil)) (pg_name (i := 3) scOdd.nd rfl (Or.inl rfl))
        (pss_one (ps_set (i := 2) scOdd.nd rfl (Or.inl rfl) (pe_call FO hr rfl mO kO bO .nil pass0 (pa_cons (pv 0) (pa_cons (pe_lst (pa_cons (pe_tup (pa_cons (pv 2) pa_nil)) (pa_cons (pe_lstB (pa_cons (pv 2) pa_nil))
          (pa_cons (pe_disp (pps_cons pe_str (pv 2) pps_nil) rfl rfl (by decide) (by decide)) (pa_cons (pe_tup (pa_cons (pv 2) (pa_cons pe_int pa_nil))) pa_nil))))) pa_nil))))))
      (pss_one (ps_ret (pv 2))))), ?_⟩
    have z0 : ([] : List V).length ≤ sizeLine := by decide
    refine ⟨_, rfl, _, _, rfl, rfl, ⟨by decide, by decide, by decide⟩, z0, fun t1 h1 => ⟨z0, fun l1 h2 b2 => fun d1 h3 => ⟨z0, fun t2 h4 => ⟨by show 1 ≤ sizeLine; decide, fun t3 h5 => ⟨by show 3 ≤ sizeLine; decide, fun t4 h6 => ⟨by show 15 ≤ sizeLine; decide, fun L hL => ?_⟩⟩⟩⟩⟩⟩
    obtain ⟨H7, e7, D7, nL, gL, hb⟩ := odd_base (K := K) hp h1 h2 b2 h3 h4 h5 h6 hL
    show tSeq _ _ _ [some (.ref p), some (.ref L), none, none] (upd _ L (.lst (baseV t1 l1 d1 t3 t4)))
    rw [← e7]
    clear e7 h1 h2 h3 h4 h5 h6 hL
    refine ⟨_, rfl, _, rfl, p, L, n, _, rfl, D7.pot, by omega, nL, SqL.of gL, by simp [baseV], by show 15 < 1000000; decide, fun v H8 hv D8 => ?_⟩
    obtain ⟨d, hd, dq⟩ := hb v hv
    have D8' := D7.trans D8
    have q8 : Dq K (del H8 p) v d := Dq.mono D8.hid dq
    -- for turn in range(..)
    refine ⟨_, rfl, by show 5 ≤ sizeLine; decide, fun l hl => ?_⟩
    have D9 := D8'.new (o := .lst [.int 0, .int 0, .int 1, .int 2, .int 28]) hl
    refine ⟨p, l, n + 1, _, rfl, D9.pot, by omega, D8'.pot.ne hl, SqL.of upd_same, by simp, by show 5 < 1000000; decide, fun r H10 hr10 D10 => ?_⟩
    have D10' := D9.trans D10
    have q10 : Dq K (del H10 p) v d := Dq.mono D10.hid (Dq.mono (hid_new hl) q8)
    obtain ⟨j, rfl, hj⟩ : ∃ j : Nat, r = .int j ∧ j ≤ 28 := by
      simp only [List.mem_cons, List.mem_nil_iff, or_false] at hr10
      rcases hr10 with rfl | rfl | rfl | rfl | rfl
      · exact ⟨0, rfl, by omega⟩
      · exact ⟨0, rfl, by omega⟩
      · exact ⟨1, rfl, by omega⟩
      · exact ⟨2, rfl, by omega⟩
      · exact ⟨28, rfl, by omega⟩
    refine ⟨j, rfl, by omega, by omega, for_range (n := (j : Int).toNat) (fun i σ H2 => ∃ (u : V) (e : PyData) (t : Option V), σ = [some (.ref p), some (.ref L), some u, t] ∧ Drawn H p (n + 2 + i) H2 ∧ Dq K (del H2 p) u e ∧ Shw e i) ?_ ?_ ?_⟩
    · exact ⟨v, d, none, rfl, D10', q10, base_shw d hd⟩
    · rintro i σ H2 hi ⟨u, e, t, rfl, D2, q2, w2⟩
      refine ⟨_, rfl, _, rfl, by show 1 ≤ sizeLine; decide, fun t1 h1 => ⟨_, rfl, by show 1 ≤ sizeLine; decide, fun l1 h2 b2 => fun d1 h3 => ?_⟩⟩
      refine ⟨_, rfl, upd_same, [(.inr "a", u)], rfl, by show 1 ≤ 15; decide, ?_⟩
      refine ⟨_, rfl, by show 2 ≤ sizeLine; decide, fun t2 h4 => ⟨by show 4 ≤ sizeLine; decide, fun Ln hLn => ?_⟩⟩
      obtain ⟨H7, e7, D7, nL7, gL7, hw⟩ := odd_wrap (K := K) D2.pot q2 h1 h2 b2 h3 h4 hLn
      refine ⟨p, Ln, n + 2 + i, _, rfl, (by rw [e7] at D7; exact D7.pot), by omega, nL7, SqL.of upd_same, by simp, by show 4 < 1000000; decide, fun u' H8 hu D8 => ?_⟩
      obtain ⟨e', he', q'⟩ := hw u' hu
      rw [e7] at D7 q'
      exact ⟨u', e', _, rfl, D2.trans (D7.trans D8) |>.mono (by omega), Dq.mono D8.hid q', wrap_shw w2 e' he'⟩
    · rintro σ H2 ⟨u, e, t, rfl, D2, q2, w2⟩
      refine ⟨_, rfl, k u e H2 (D2.mono (by omega)) q2 (w2.mono (by omega))⟩
end
end TP
end
section
set_option Elab.async false
set_option linter.all false
set_option maxRecDepth 100000
set_option maxHeartbeats 4000000
namespace TP
open PySem L2 PyProof.Rows TPX
abbrev sMade : Stmt := top 43
abbrev sSorts : Stmt := top 44
def errNames : List Str := (["BadAnswers", "BadElders", "BadLetter", "BadLine", "BadLot", "BadOffer", "BadPast", "BadPieces", "BadPlaces", "BadPrices", "BadQuestion", "BadRoom"] : List Str) ++ ((["BadRule", "BadText", "BadWorks", "BadWritings", "Contradiction", "InTrial", "NoPast", "NoPath", "NoPerson", "NoPiece", "NoPromise", "NoRight"] : List Str) ++ (["NotLet", "NotOpen", "NotSure", "NothingToUndo", "NoTrial", "NoVersion", "Open", "Promised", "Settled", "Unanswered", "Unsure", "Wrong"] : List Str))
/-- the text's errors, in the law's sequence: class i stands at C i, its __init__ at fI i -/
structure Errs (prog : Program) (K : PySem.W.Frag) (mg : Str → Option Value) (T fT : Addr) (C fI : Nat → Addr) : Prop where
  tc : ThinC prog K mg T fT
  ec : ∀ i, i < 36 → ErrC prog K T fT (C i) (fI i)
  ei : ∀ i, i < 36 → ErrI K (C i)
  mc : ∀ i, i < 36 → mg (errNames.getD i "") = some (.ref (C i))
  kit : ∀ i, i < 36 → ∀ j, j < 36 → PySem.W.kitOne K (.ref (C i)) (.ref (C j)) = some (decide (i = j))
  kT : ∀ i, i < 36 → PySem.W.kitOne K (.ref (C i)) (.ref T) = some true
  kV : ∀ i, i < 36 → PySem.W.kitOne K (.ref (C i)) (.type "ValueError") = some true
  mT : mg "ThinError" = some (.ref T)
  mV : mg "ValueError" = none
  mi : mg "isinstance" = none
/-! an error of the class at C that keeps v -/
def ErrAt (H : Hp) (v : V) (C : Addr) (x : V) : Prop := ∃ a d, x = .ref a ∧ H a = some (exo a C (some d)) ∧ H d = some (exd d [("value", v)])
def ErrL (H : Hp) (v : V) : List Addr → List V → Prop := Paired (ErrAt H v)
theorem ErrAt.mono {H H' : Hp} {v : V} {C : Addr} {x : V} (s : Same H H') (h : ErrAt H v C x) : ErrAt H' v C x := by
  obtain ⟨a, d, e, h1, h2⟩ := h
  exact ⟨a, d, e, s _ _ h1, s _ _ h2⟩
theorem ErrL.mono {H H' : Hp} {v : V} (s : Same H H') : ∀ {Cs : List Addr} {xs : List V}, ErrL H v Cs xs → ErrL H' v Cs xs
  | _, _, .nil => .nil
  | _, _, .cons h t => .cons (h.mono s) (ErrL.mono s t)
theorem ErrL.len {H : Hp} {v : V} {Cs : List Addr} {xs : List V} (h : ErrL H v Cs xs) : Cs.length = xs.length := Paired.length h
theorem ErrL.app {H : Hp} {v : V} : ∀ {Cs Ds : List Addr} {xs ys : List V}, ErrL H v Cs xs → ErrL H v Ds ys → ErrL H v (Cs ++ Ds) (xs ++ ys)
  | _, _, _, _, .nil, h => h
  | _, _, _, _, .cons a t, h => .cons a (ErrL.app t h)
theorem ErrL.small {H : Hp} {v : V} {Cs : List Addr} {xs : List V} (h : ErrL H v Cs xs) (l : Cs.length ≤ 100) : xs.length ≤ 100 := by rw [← h.len]; exact l
theorem line100 {n : Nat} (h : n ≤ 100) : n ≤ sizeLine := Nat.le_trans h (by decide)
theorem two100 {a b : Nat} (h1 : a ≤ 100) (h2 : b ≤ 100) : a + b ≤ sizeLine := Nat.le_trans (Nat.add_le_add h1 h2) (by decide)
theorem new_same {H : Hp} {q : Addr} {o : HO} (h : H q = none) : Same H (upd H q o) := fun b u e => by rw [upd_ne (ne_of_none e h)]; exact e
section
variable {X : Cx} {T fT C fI : Addr}
theorem pa_imp {es : List Expr} {t t' : TA} (h : PA X es t) (hi : ∀ σ H Q, t' σ H Q → t σ H Q) : PA X es t' := ⟨fun pos pins s σ H Q I z => h.run pos pins s σ H Q I (hi _ _ _ z)⟩
/-- C1(e), C2(e), .. of a name e -/
def tErrs (i : Nat) (Cs : List Addr) : TA := fun σ H Q => ∃ v, σ[i]? = some (some v) ∧ ∀ vs H', Same H H' → ErrL H' v Cs vs → Q vs H'
theorem pa_errs_nil {i : Nat} : PA X [] (tErrs i []) := pa_imp pa_nil fun σ H Q ⟨v, hv, k⟩ => k [] H (fun _ _ e => e) .nil
theorem pa_errs_cons {i : Nat} {x n : Str} {p q pos : Pos} {es : List Expr} {Cs : List Addr} (TC : ThinC X.prog X.K X.mg T fT) (EC : ErrC X.prog X.K T fT C fI) (hr : Room 0 X.A) (hg : Gl X x) (hm : X.mg x = some (.ref C)) (hrest : PA X es (tErrs i Cs))
    (hN : X.N[i]? = some n := by rfl) (hv : Vis X.env.scope n := by exact .inl rfl) (hd : (n == ("__debug__" : Str)) = false := by decide) (hcd : (n == ("__classdict__" : Str)) = false := by decide) (hdb : (x == ("__debug__" : Str)) = false := by decide) :
    PA X (.Call (.Name x p) [.Name n q] [] pos :: es) (tErrs i (C :: Cs)) := by
  refine pa_imp (pa_cons (pe_err TC EC hr hg hm (pa_cons (pe_var (i := i) hN hv hd hcd) pa_nil) hdb) hrest) ?_
  rintro σ H Q ⟨v, hv, k⟩
  refine ⟨v, hv, v, rfl, fun a d ha hd hne => ⟨v, hv, fun vs H' s e => k (.ref a :: vs) H' (fun b o z => s b o ?_) (.cons ⟨a, d, rfl, s _ _ upd_same, s _ _ ?_⟩ e)⟩⟩
  · rw [upd_ne (ne_of_none z ha), upd_ne (ne_of_none z hd)]
    exact z
  · rw [upd_ne hne, upd_same]
/-- isinstance(e, D1), isinstance(e, D2), .. of a name e that holds an error -/
def tIsis (K : PySem.W.Frag) (i : Nat) (Ds : List Addr) : TA := fun σ H Q => ∃ a C d v, σ[i]? = some (some (.ref a)) ∧ ErrI K C ∧ H a = some (exo a C (some d)) ∧ H d = some (exd d [("value", v)]) ∧
  ∃ bs : List Bool, Paired (fun D b => PySem.W.kitOne K (.ref C) (.ref D) = some b) Ds bs ∧ Q (bs.map V.bl) H
theorem pa_isis_nil {i : Nat} : PA X [] (tIsis X.K i []) := pa_imp pa_nil fun σ H Q ⟨a, C, d, v, _, _, _, _, bs, hb, k⟩ => by
  cases hb
  exact k
theorem pa_isis_cons {i : Nat} {x n : Str} {p p1 q pos : Pos} {es : List Expr} {D : Addr} {Ds : List Addr} (hgi : Gl X "isinstance") (hmi : X.mg "isinstance" = none) (hg : Gl X x) (hm : X.mg x = some (.ref D)) (hrest : PA X es (tIsis X.K i Ds))
    (hN : X.N[i]? = some n := by rfl) (hv : Vis X.env.scope n := by exact .inl rfl) (hd : (n == ("__debug__" : Str)) = false := by decide) (hcd : (n == ("__classdict__" : Str)) = false := by decide) (hdb : (x == ("__debug__" : Str)) = false := by decide)
    (hs : starEach [.Name n p1, .Name x q] X.env = (false, eval (.Name n p1) X.env) :: starEach [.Name x q] X.env := by rfl) (hs2 : starEach [.Name x q] X.env = (false, eval (.Name x q) X.env) :: starEach [] X.env := by rfl) :
    PA X (.Call (.Name "isinstance" p) [.Name n p1, .Name x q] [] pos :: es) (tIsis X.K i (D :: Ds)) := by
  refine pa_imp (pa_cons (pe_callB call_errIs hgi hmi boot_isinstance (pa_cons (pe_var (i := i) hN hv hd hcd) (pa_cons (pe_glob hg hm (v := .ref D) rfl hdb) pa_nil hs2) hs)) hrest) ?_
  rintro σ H Q ⟨a, C, d, v, hv, EI, ha, hd, bs, hb, k⟩
  cases hb with
  | cons h1 h2 =>
    rename_i b bs
    exact ⟨.ref a, hv, a, C, d, v, .ref D, .ref D, b, rfl, EI, ha, hd, .own D, h1, a, C, d, v, hv, EI, ha, hd, bs, h2, k⟩
end
/-! _law_made -/
structure Grown (H : Hp) (v : V) (G : Hp) (l : Addr) (Cs : List Addr) (xs : List V) : Prop where
  same : Same H G
  new : H l = none
  at_ : G l = some (.lst xs)
  errs : ErrL G v Cs xs
theorem Grown.first {H H1 : Hp} {v : V} {l : Addr} {Cs : List Addr} {xs : List V} (s : Same H H1) (e : ErrL H1 v Cs xs) (n : H1 l = none) : Grown H v (upd H1 l (.lst xs)) l Cs xs :=
  ⟨same_tr s (new_same n), s.free n, upd_same, e.mono (new_same n)⟩
theorem Grown.keep {H G H2 : Hp} {v : V} {l : Addr} {Cs : List Addr} {xs : List V} (A : Grown H v G l Cs xs) (s : Same G H2) : Grown H v H2 l Cs xs := ⟨same_tr A.same s, A.new, s _ _ A.at_, A.errs.mono s⟩
theorem Grown.cat {H G : Hp} {v : V} {l m l' : Addr} {As Bs : List Addr} {xs ys : List V} (A : Grown H v G l As xs) (hm : G m = some (.lst ys)) (e : ErrL G v Bs ys) (n : G l' = none) : Grown H v (upd G l' (.lst (xs ++ ys))) l' (As ++ Bs) (xs ++ ys) :=
  ⟨same_tr A.same (new_same n), A.same.free n, upd_same, (A.errs.app e).mono (new_same n)⟩
theorem exo_lst {e C : Addr} {d : Option Addr} {xs : List V} : exo e C d ≠ .lst xs := fun z => by
  unfold exo at z
  cases z
theorem exd_lst {e : Addr} {fs : List (Str × V)} {xs : List V} : exd e fs ≠ .lst xs := fun z => by
  unfold exd at z
  cases z
theorem ErrL.over {H : Hp} {v : V} {l : Addr} {zs ws : List V} (hl : H l = some (.lst zs)) : ∀ {Cs : List Addr} {xs : List V}, ErrL H v Cs xs → ErrL (upd H l (.lst ws)) v Cs xs
  | _, _, .nil => .nil
  | _, _, .cons ⟨a, d, e, h1, h2⟩ t => .cons ⟨a, d, e, by rw [upd_ne (ne_of h1 hl exo_lst)]; exact h1, by rw [upd_ne (ne_of h2 hl exd_lst)]; exact h2⟩ (ErrL.over hl t)
theorem Grown.push {H G : Hp} {v x : V} {l : Addr} {As : List Addr} {B : Addr} {xs : List V} (A : Grown H v G l As xs) (e : ErrL G v [B] [x]) : Grown H v (upd G l (.lst (xs ++ [x]))) l (As ++ [B]) (xs ++ [x]) :=
  ⟨fun b o z => by rw [upd_ne (ne_of_none z A.new)]; exact A.same b o z, A.new, upd_same, (A.errs.app e).over A.at_⟩
def errCs (C : Nat → Addr) : List Addr := (List.range 36).map C
def spMade (C : Nat → Addr) : Sp := fun vs H Q _ => ∃ v, vs = [v] ∧ ∀ (L : Addr) (H' : Hp) (xs : List V), Same H H' → H' L = some (.lst xs) → ErrL H' v (errCs C) xs → Q (.ref L) H'
section
variable {P : Program} {w : World} {K : PySem.W.Frag} {mg : Str → Option Value} {base : Heap} {T fT : Addr} {C fI : Nat → Addr}
theorem scM : FnScope ["_law_thing", "_law_found"] ["_law_thing"] (defScope sMade) := ⟨rfl, rfl, rfl, by decide +kernel, rfl, by decide +kernel, by decide +kernel⟩
set_option maxHeartbeats 16000000 in
theorem ok_made {f : Addr} {fd : FuncData} (F : Fun K "_law_made" "_law_made" sMade f fd) (T : Errs P K mg T fT C fI) : FnOk P w K mg base CX0 1 f fd ["_law_thing"] (spMade C) := by
  refine F.ok scM (fun vs H Q E h => ?_) (fun cdv A outer s H vs Q E hr h => ?_)
  · obtain ⟨v, rfl, _⟩ := h
    rfl
  · obtain ⟨v, rfl, k⟩ := h
    refine ⟨_, pss_cons (ps_set (i := 1) scM.nd rfl (Or.inl rfl) (pe_lst (pa_errs_cons T.tc (T.ec 0 (by decide)) hr rfl (T.mc 0 (by decide)) (pa_errs_cons T.tc (T.ec 1 (by decide)) hr rfl (T.mc 1 (by decide)) (pa_errs_cons T.tc (T.ec 2 (by decide)) hr rfl (T.mc 2 (by decide)) (pa_errs_cons T.tc (T.ec 3 (by decide)) hr rfl (T.mc 3 (by decide)) (pa_errs_cons T.tc (T.ec 4 (by decide)) hr rfl (T.mc 4 (by decide)) (pa_errs_cons T.tc (T.ec 5 (by decide)) hr rfl (T.mc 5 (by decide)) (pa_errs_nil (i := 0))))))))))
      (pss_cons (ps_set (i := 1) scM.nd rfl (Or.inl rfl) (pe_op op_cat (pv 1) (pe_lst (pa_errs_cons T.tc (T.ec 6 (by decide)) hr rfl (T.mc 6 (by decide)) (pa_errs_cons T.tc (T.ec 7 (by decide)) hr rfl (T.mc 7 (by decide)) (pa_errs_cons T.tc (T.ec 8 (by decide)) hr rfl (T.mc 8 (by decide)) (pa_errs_cons T.tc (T.ec 9 (by decide)) hr rfl (T.mc 9 (by decide)) (pa_errs_cons T.tc (T.ec 10 (by decide)) hr rfl (T.mc 10 (by decide)) (pa_errs_nil (i := 0))))))))))
      (pss_cons (ps_set (i := 1) scM.nd rfl (Or.inl rfl) (pe_op op_cat (pv 1) (pe_lst (pa_errs_cons T.tc (T.ec 11 (by decide)) hr rfl (T.mc 11 (by decide)) (pa_errs_cons T.tc (T.ec 12 (by decide)) hr rfl (T.mc 12 (by decide)) (pa_errs_cons T.tc (T.ec 13 (by decide)) hr rfl (T.mc 13 (by decide)) (pa_errs_cons T.tc (T.ec 14 (by decide)) hr rfl (T.mc 14 (by decide)) (pa_errs_cons T.tc (T.ec 15 (by decide)) hr rfl (T.mc 15 (by decide)) (pa_errs_nil (i := 0))))))))))
      (pss_cons (ps_set (i := 1) scM.nd rfl (Or.inl rfl) (pe_op op_cat (pv 1) (pe_lst (pa_errs_cons T.tc (T.ec 16 (by decide)) hr rfl (T.mc 16 (by decide)) (pa_errs_cons T.tc (T.ec 17 (by decide)) hr rfl (T.mc 17 (by decide)) (pa_errs_cons T.tc (T.ec 18 (by decide)) hr rfl (T.mc 18 (by decide)) (pa_errs_cons T.tc (T.ec 19 (by decide)) hr rfl (T.mc 19 (by decide)) (pa_errs_cons T.tc (T.ec 20 (by decide)) hr rfl (T.mc 20 (by decide)) (pa_errs_nil (i := 0))))))))))
      (pss_cons (ps_expr (pe_bm PySem.F.plainAttrs_list PySem.F.slot_list_append PySem.F.type_list_append mt_append (pv 1) (pa_errs_cons T.tc (T.ec 21 (by decide)) hr rfl (T.mc 21 (by decide)) (pa_errs_nil (i := 0)))))
      (pss_cons (ps_set (i := 1) scM.nd rfl (Or.inl rfl) (pe_op op_cat (pv 1) (pe_lst (pa_errs_cons T.tc (T.ec 22 (by decide)) hr rfl (T.mc 22 (by decide)) (pa_errs_cons T.tc (T.ec 23 (by decide)) hr rfl (T.mc 23 (by decide)) (pa_errs_cons T.tc (T.ec 24 (by decide)) hr rfl (T.mc 24 (by decide)) (pa_errs_cons T.tc (T.ec 25 (by decide)) hr rfl (T.mc 25 (by decide)) (pa_errs_cons T.tc (T.ec 26 (by decide)) hr rfl (T.mc 26 (by decide)) (pa_errs_nil (i := 0))))))))))
      (pss_cons (ps_set (i := 1) scM.nd rfl (Or.inl rfl) (pe_op op_cat (pv 1) (pe_lst (pa_errs_cons T.tc (T.ec 27 (by decide)) hr rfl (T.mc 27 (by decide)) (pa_errs_cons T.tc (T.ec 28 (by decide)) hr rfl (T.mc 28 (by decide)) (pa_errs_cons T.tc (T.ec 29 (by decide)) hr rfl (T.mc 29 (by decide)) (pa_errs_cons T.tc (T.ec 30 (by decide)) hr rfl (T.mc 30 (by decide)) (pa_errs_cons T.tc (T.ec 31 (by decide)) hr rfl (T.mc 31 (by decide)) (pa_errs_nil (i := 0))))))))))
      (pss_one (ps_ret (pe_op op_cat (pv 1) (pe_lst (pa_errs_cons T.tc (T.ec 32 (by decide)) hr rfl (T.mc 32 (by decide)) (pa_errs_cons T.tc (T.ec 33 (by decide)) hr rfl (T.mc 33 (by decide)) (pa_errs_cons T.tc (T.ec 34 (by decide)) hr rfl (T.mc 34 (by decide)) (pa_errs_cons T.tc (T.ec 35 (by decide)) hr rfl (T.mc 35 (by decide)) (pa_errs_nil (i := 0)))))))))))))))), ?_⟩
    refine ⟨v, rfl, fun x1 H1 s1 e1 => ⟨line100 (e1.small (by simp)), fun l1 n1 => ?_⟩⟩
    have A1 := Grown.first s1 e1 n1
    refine ⟨_, rfl, v, rfl, fun x2 H2 s2 e2 => ⟨line100 (e2.small (by simp)), fun m2 k2 => ?_⟩⟩
    have B2 := (A1.keep s2).keep (new_same (o := .lst x2) k2)
    refine ⟨l1, m2, _, x2, rfl, rfl, B2.at_, upd_same, two100 (B2.errs.small (by simp)) (e2.small (by simp)), fun l2 n2 => ?_⟩
    have A2 := B2.cat upd_same (e2.mono (new_same k2)) n2
    refine ⟨_, rfl, v, rfl, fun x3 H3 s3 e3 => ⟨line100 (e3.small (by simp)), fun m3 k3 => ?_⟩⟩
    have B3 := (A2.keep s3).keep (new_same (o := .lst x3) k3)
    refine ⟨l2, m3, _, x3, rfl, rfl, B3.at_, upd_same, two100 (B3.errs.small (by simp)) (e3.small (by simp)), fun l3 n3 => ?_⟩
    have A3 := B3.cat upd_same (e3.mono (new_same k3)) n3
    refine ⟨_, rfl, v, rfl, fun x4 H4 s4 e4 => ⟨line100 (e4.small (by simp)), fun m4 k4 => ?_⟩⟩
    have B4 := (A3.keep s4).keep (new_same (o := .lst x4) k4)
    refine ⟨l3, m4, _, x4, rfl, rfl, B4.at_, upd_same, two100 (B4.errs.small (by simp)) (e4.small (by simp)), fun l4 n4 => ?_⟩
    have A4 := B4.cat upd_same (e4.mono (new_same k4)) n4
    refine ⟨_, rfl, .inl ⟨rfl, _, SqL.of A4.at_⟩, v, rfl, fun x5 H5 s5 e5 => ?_⟩
    have B5 := A4.keep s5
    obtain ⟨y5, rfl⟩ : ∃ y, x5 = [y] := by
      cases e5 with
      | cons _ t => cases t; exact ⟨_, rfl⟩
    refine ⟨l4, _, y5, rfl, rfl, B5.at_, Nat.lt_of_le_of_lt (B5.errs.small (by simp)) (by decide), ?_⟩
    have A5 := B5.push e5
    refine ⟨_, rfl, v, rfl, fun x6 H6 s6 e6 => ⟨line100 (e6.small (by simp)), fun m6 k6 => ?_⟩⟩
    have B6 := (A5.keep s6).keep (new_same (o := .lst x6) k6)
    refine ⟨l4, m6, _, x6, rfl, rfl, B6.at_, upd_same, two100 (B6.errs.small (by simp)) (e6.small (by simp)), fun l6 n6 => ?_⟩
    have A6 := B6.cat upd_same (e6.mono (new_same k6)) n6
    refine ⟨_, rfl, v, rfl, fun x7 H7 s7 e7 => ⟨line100 (e7.small (by simp)), fun m7 k7 => ?_⟩⟩
    have B7 := (A6.keep s7).keep (new_same (o := .lst x7) k7)
    refine ⟨l6, m7, _, x7, rfl, rfl, B7.at_, upd_same, two100 (B7.errs.small (by simp)) (e7.small (by simp)), fun l7 n7 => ?_⟩
    have A7 := B7.cat upd_same (e7.mono (new_same k7)) n7
    refine ⟨_, rfl, v, rfl, fun x8 H8 s8 e8 => ⟨line100 (e8.small (by simp)), fun m8 k8 => ?_⟩⟩
    have B8 := (A7.keep s8).keep (new_same (o := .lst x8) k8)
    refine ⟨l7, m8, _, x8, rfl, rfl, B8.at_, upd_same, two100 (B8.errs.small (by simp)) (e8.small (by simp)), fun l8 n8 => ?_⟩
    have A8 := B8.cat upd_same (e8.mono (new_same k8)) n8
    exact k l8 _ _ A8.same A8.at_ A8.errs
end
end TP
end
section
set_option Elab.async false
set_option linter.all false
set_option maxRecDepth 100000
set_option maxHeartbeats 4000000
namespace TP
open PySem L2 PyProof.Rows TPX
structure Gb (H G : Hp) (l : Addr) (xs : List V) : Prop where
  same : Same H G
  new : H l = none
  at_ : G l = some (.lst xs)
theorem Gb.first {H H1 : Hp} {l : Addr} {xs : List V} (s : Same H H1) (n : H1 l = none) : Gb H (upd H1 l (.lst xs)) l xs := ⟨same_tr s (new_same n), s.free n, upd_same⟩
theorem Gb.keep {H G H2 : Hp} {l : Addr} {xs : List V} (A : Gb H G l xs) (s : Same G H2) : Gb H H2 l xs := ⟨same_tr A.same s, A.new, s _ _ A.at_⟩
theorem Gb.cat {H G : Hp} {l l' : Addr} {xs : List V} (ys : List V) (A : Gb H G l xs) (n : G l' = none) : Gb H (upd G l' (.lst (xs ++ ys))) l' (xs ++ ys) := ⟨same_tr A.same (new_same n), A.same.free n, upd_same⟩
theorem Gb.push {H G : Hp} {x : V} {l : Addr} {xs : List V} (A : Gb H G l xs) : Gb H (upd G l (.lst (xs ++ [x]))) l (xs ++ [x]) := ⟨fun b o z => by rw [upd_ne (ne_of_none z A.new)]; exact A.same b o z, A.new, upd_same⟩
def spSorts (C : Nat → Addr) : Sp := fun vs H Q _ => ∃ (x v : V) (i : Nat), vs = [x] ∧ i < 36 ∧ ErrAt H v (C i) x ∧
  ∀ (L : Addr) (H' : Hp), Same H H' → H' L = some (.lst ((List.range 36).map fun j => V.bl (decide (i = j)))) → Q (.ref L) H'
section
variable {P : Program} {w : World} {K : PySem.W.Frag} {mg : Str → Option Value} {base : Heap} {T fT : Addr} {C fI : Nat → Addr}
theorem scS : FnScope ["_law_one", "_law_found"] ["_law_one"] (defScope sSorts) := ⟨rfl, rfl, rfl, by decide +kernel, rfl, by decide +kernel, by decide +kernel⟩
set_option maxHeartbeats 16000000 in
theorem ok_sorts {f : Addr} {fd : FuncData} (F : Fun K "_law_sorts" "_law_sorts" sSorts f fd) (T : Errs P K mg T fT C fI) : FnOk P w K mg base CX0 1 f fd ["_law_one"] (spSorts C) := by
  refine F.ok scS (fun vs H Q E h => ?_) (fun cdv A outer s H vs Q E hr h => ?_)
  · obtain ⟨x, v, i, rfl, _⟩ := h
    rfl
  · obtain ⟨x, v, i, rfl, hi, ⟨a, d, rfl, ha, hd⟩, k⟩ := h
    have EI := T.ei i hi
    have kk : ∀ j, j < 36 → PySem.W.kitOne K (.ref (C i)) (.ref (C j)) = some (decide (i = j)) := fun j hj => T.kit i hi j hj
    have sm : Same H H := fun _ _ z => z
    refine ⟨_, pss_cons (ps_set (i := 1) scS.nd rfl (Or.inl rfl) (pe_lst (pa_isis_cons rfl T.mi rfl (T.mc 0 (by decide)) (pa_isis_cons rfl T.mi rfl (T.mc 1 (by decide)) (pa_isis_cons rfl T.mi rfl (T.mc 2 (by decide)) (pa_isis_nil (i := 0)))))))
      (pss_cons (ps_set (i := 1) scS.nd rfl (Or.inl rfl) (pe_op op_cat (pv 1) (pe_lst (pa_isis_cons rfl T.mi rfl (T.mc 3 (by decide)) (pa_isis_cons rfl T.mi rfl (T.mc 4 (by decide)) (pa_isis_cons rfl T.mi rfl (T.mc 5 (by decide)) (pa_isis_nil (i := 0))))))))
      (pss_cons (ps_expr (pe_bm PySem.F.plainAttrs_list PySem.F.slot_list_append PySem.F.type_list_append mt_append (pv 1) (pa_isis_cons rfl T.mi rfl (T.mc 6 (by decide)) (pa_isis_nil (i := 0)))))
      (pss_cons (ps_set (i := 1) scS.nd rfl (Or.inl rfl) (pe_op op_cat (pv 1) (pe_lst (pa_isis_cons rfl T.mi rfl (T.mc 7 (by decide)) (pa_isis_cons rfl T.mi rfl (T.mc 8 (by decide)) (pa_isis_cons rfl T.mi rfl (T.mc 9 (by decide)) (pa_isis_nil (i := 0))))))))
      (pss_cons (ps_set (i := 1) scS.nd rfl (Or.inl rfl) (pe_op op_cat (pv 1) (pe_lst (pa_isis_cons rfl T.mi rfl (T.mc 10 (by decide)) (pa_isis_cons rfl T.mi rfl (T.mc 11 (by decide)) (pa_isis_cons rfl T.mi rfl (T.mc 12 (by decide)) (pa_isis_nil (i := 0))))))))
      (pss_cons (ps_set (i := 1) scS.nd rfl (Or.inl rfl) (pe_op op_cat (pv 1) (pe_lst (pa_isis_cons rfl T.mi rfl (T.mc 13 (by decide)) (pa_isis_cons rfl T.mi rfl (T.mc 14 (by decide)) (pa_isis_cons rfl T.mi rfl (T.mc 15 (by decide)) (pa_isis_nil (i := 0))))))))
      (pss_cons (ps_set (i := 1) scS.nd rfl (Or.inl rfl) (pe_op op_cat (pv 1) (pe_lst (pa_isis_cons rfl T.mi rfl (T.mc 16 (by decide)) (pa_isis_cons rfl T.mi rfl (T.mc 17 (by decide)) (pa_isis_cons rfl T.mi rfl (T.mc 18 (by decide)) (pa_isis_nil (i := 0))))))))
      (pss_cons (ps_set (i := 1) scS.nd rfl (Or.inl rfl) (pe_op op_cat (pv 1) (pe_lst (pa_isis_cons rfl T.mi rfl (T.mc 19 (by decide)) (pa_isis_cons rfl T.mi rfl (T.mc 20 (by decide)) (pa_isis_cons rfl T.mi rfl (T.mc 21 (by decide)) (pa_isis_nil (i := 0))))))))
      (pss_cons (ps_set (i := 1) scS.nd rfl (Or.inl rfl) (pe_op op_cat (pv 1) (pe_lst (pa_isis_cons rfl T.mi rfl (T.mc 22 (by decide)) (pa_isis_cons rfl T.mi rfl (T.mc 23 (by decide)) (pa_isis_cons rfl T.mi rfl (T.mc 24 (by decide)) (pa_isis_nil (i := 0))))))))
      (pss_cons (ps_set (i := 1) scS.nd rfl (Or.inl rfl) (pe_op op_cat (pv 1) (pe_lst (pa_isis_cons rfl T.mi rfl (T.mc 25 (by decide)) (pa_isis_cons rfl T.mi rfl (T.mc 26 (by decide)) (pa_isis_cons rfl T.mi rfl (T.mc 27 (by decide)) (pa_isis_nil (i := 0))))))))
      (pss_cons (ps_set (i := 1) scS.nd rfl (Or.inl rfl) (pe_op op_cat (pv 1) (pe_lst (pa_isis_cons rfl T.mi rfl (T.mc 28 (by decide)) (pa_isis_cons rfl T.mi rfl (T.mc 29 (by decide)) (pa_isis_cons rfl T.mi rfl (T.mc 30 (by decide)) (pa_isis_nil (i := 0))))))))
      (pss_cons (ps_set (i := 1) scS.nd rfl (Or.inl rfl) (pe_op op_cat (pv 1) (pe_lst (pa_isis_cons rfl T.mi rfl (T.mc 31 (by decide)) (pa_isis_cons rfl T.mi rfl (T.mc 32 (by decide)) (pa_isis_cons rfl T.mi rfl (T.mc 33 (by decide)) (pa_isis_nil (i := 0))))))))
      (pss_one (ps_ret (pe_op op_cat (pv 1) (pe_lst (pa_isis_cons rfl T.mi rfl (T.mc 34 (by decide)) (pa_isis_cons rfl T.mi rfl (T.mc 35 (by decide)) (pa_isis_nil (i := 0))))))))))))))))))), ?_⟩
    refine ⟨a, C i, d, v, rfl, EI, ha, hd, [decide (i = 0), decide (i = 1), decide (i = 2)], (.cons (kk 0 (by decide)) (.cons (kk 1 (by decide)) (.cons (kk 2 (by decide)) .nil))), by show 3 ≤ sizeLine; decide, fun l0 n0 => ?_⟩
    have A0 := Gb.first (xs := ([decide (i = 0), decide (i = 1), decide (i = 2)] : List Bool).map V.bl) sm n0
    refine ⟨_, rfl, a, C i, d, v, rfl, EI, A0.same _ _ ha, A0.same _ _ hd, [decide (i = 3), decide (i = 4), decide (i = 5)], (.cons (kk 3 (by decide)) (.cons (kk 4 (by decide)) (.cons (kk 5 (by decide)) .nil))), by show 3 ≤ sizeLine; decide, fun m1 k1 => ?_⟩
    have B1 := A0.keep (new_same (o := .lst (([decide (i = 3), decide (i = 4), decide (i = 5)] : List Bool).map V.bl)) k1)
    refine ⟨l0, m1, _, _, rfl, rfl, B1.at_, upd_same, by show 3 + 3 ≤ sizeLine; decide, fun l1 n1 => ?_⟩
    have A1 := B1.cat (([decide (i = 3), decide (i = 4), decide (i = 5)] : List Bool).map V.bl) n1
    refine ⟨_, rfl, .inl ⟨rfl, _, SqL.of A1.at_⟩, a, C i, d, v, rfl, EI, A1.same _ _ ha, A1.same _ _ hd, [decide (i = 6)], (.cons (kk 6 (by decide)) .nil), l1, _, _, rfl, rfl, A1.at_, by show 6 < sizeLine; decide, ?_⟩
    have A2 := A1.push (x := V.bl (decide (i = 6)))
    refine ⟨_, rfl, a, C i, d, v, rfl, EI, A2.same _ _ ha, A2.same _ _ hd, [decide (i = 7), decide (i = 8), decide (i = 9)], (.cons (kk 7 (by decide)) (.cons (kk 8 (by decide)) (.cons (kk 9 (by decide)) .nil))), by show 3 ≤ sizeLine; decide, fun m3 k3 => ?_⟩
    have B3 := A2.keep (new_same (o := .lst (([decide (i = 7), decide (i = 8), decide (i = 9)] : List Bool).map V.bl)) k3)
    refine ⟨l1, m3, _, _, rfl, rfl, B3.at_, upd_same, by show 7 + 3 ≤ sizeLine; decide, fun l3 n3 => ?_⟩
    have A3 := B3.cat (([decide (i = 7), decide (i = 8), decide (i = 9)] : List Bool).map V.bl) n3
    refine ⟨_, rfl, a, C i, d, v, rfl, EI, A3.same _ _ ha, A3.same _ _ hd, [decide (i = 10), decide (i = 11), decide (i = 12)], (.cons (kk 10 (by decide)) (.cons (kk 11 (by decide)) (.cons (kk 12 (by decide)) .nil))), by show 3 ≤ sizeLine; decide, fun m4 k4 => ?_⟩
    have B4 := A3.keep (new_same (o := .lst (([decide (i = 10), decide (i = 11), decide (i = 12)] : List Bool).map V.bl)) k4)
    refine ⟨l3, m4, _, _, rfl, rfl, B4.at_, upd_same, by show 10 + 3 ≤ sizeLine; decide, fun l4 n4 => ?_⟩
    have A4 := B4.cat (([decide (i = 10), decide (i = 11), decide (i = 12)] : List Bool).map V.bl) n4
    refine ⟨_, rfl, a, C i, d, v, rfl, EI, A4.same _ _ ha, A4.same _ _ hd, [decide (i = 13), decide (i = 14), decide (i = 15)], (.cons (kk 13 (by decide)) (.cons (kk 14 (by decide)) (.cons (kk 15 (by decide)) .nil))), by show 3 ≤ sizeLine; decide, fun m5 k5 => ?_⟩
    have B5 := A4.keep (new_same (o := .lst (([decide (i = 13), decide (i = 14), decide (i = 15)] : List Bool).map V.bl)) k5)
    refine ⟨l4, m5, _, _, rfl, rfl, B5.at_, upd_same, by show 13 + 3 ≤ sizeLine; decide, fun l5 n5 => ?_⟩
    have A5 := B5.cat (([decide (i = 13), decide (i = 14), decide (i = 15)] : List Bool).map V.bl) n5
    refine ⟨_, rfl, a, C i, d, v, rfl, EI, A5.same _ _ ha, A5.same _ _ hd, [decide (i = 16), decide (i = 17), decide (i = 18)], (.cons (kk 16 (by decide)) (.cons (kk 17 (by decide)) (.cons (kk 18 (by decide)) .nil))), by show 3 ≤ sizeLine; decide, fun m6 k6 => ?_⟩
    have B6 := A5.keep (new_same (o := .lst (([decide (i = 16), decide (i = 17), decide (i = 18)] : List Bool).map V.bl)) k6)
    refine ⟨l5, m6, _, _, rfl, rfl, B6.at_, upd_same, by show 16 + 3 ≤ sizeLine; decide, fun l6 n6 => ?_⟩
    have A6 := B6.cat (([decide (i = 16), decide (i = 17), decide (i = 18)] : List Bool).map V.bl) n6
    refine ⟨_, rfl, a, C i, d, v, rfl, EI, A6.same _ _ ha, A6.same _ _ hd, [decide (i = 19), decide (i = 20), decide (i = 21)], (.cons (kk 19 (by decide)) (.cons (kk 20 (by decide)) (.cons (kk 21 (by decide)) .nil))), by show 3 ≤ sizeLine; decide, fun m7 k7 => ?_⟩
    have B7 := A6.keep (new_same (o := .lst (([decide (i = 19), decide (i = 20), decide (i = 21)] : List Bool).map V.bl)) k7)
    refine ⟨l6, m7, _, _, rfl, rfl, B7.at_, upd_same, by show 19 + 3 ≤ sizeLine; decide, fun l7 n7 => ?_⟩
    have A7 := B7.cat (([decide (i = 19), decide (i = 20), decide (i = 21)] : List Bool).map V.bl) n7
    refine ⟨_, rfl, a, C i, d, v, rfl, EI, A7.same _ _ ha, A7.same _ _ hd, [decide (i = 22), decide (i = 23), decide (i = 24)], (.cons (kk 22 (by decide)) (.cons (kk 23 (by decide)) (.cons (kk 24 (by decide)) .nil))), by show 3 ≤ sizeLine; decide, fun m8 k8 => ?_⟩
    have B8 := A7.keep (new_same (o := .lst (([decide (i = 22), decide (i = 23), decide (i = 24)] : List Bool).map V.bl)) k8)
    refine ⟨l7, m8, _, _, rfl, rfl, B8.at_, upd_same, by show 22 + 3 ≤ sizeLine; decide, fun l8 n8 => ?_⟩
    have A8 := B8.cat (([decide (i = 22), decide (i = 23), decide (i = 24)] : List Bool).map V.bl) n8
    refine ⟨_, rfl, a, C i, d, v, rfl, EI, A8.same _ _ ha, A8.same _ _ hd, [decide (i = 25), decide (i = 26), decide (i = 27)], (.cons (kk 25 (by decide)) (.cons (kk 26 (by decide)) (.cons (kk 27 (by decide)) .nil))), by show 3 ≤ sizeLine; decide, fun m9 k9 => ?_⟩
    have B9 := A8.keep (new_same (o := .lst (([decide (i = 25), decide (i = 26), decide (i = 27)] : List Bool).map V.bl)) k9)
    refine ⟨l8, m9, _, _, rfl, rfl, B9.at_, upd_same, by show 25 + 3 ≤ sizeLine; decide, fun l9 n9 => ?_⟩
    have A9 := B9.cat (([decide (i = 25), decide (i = 26), decide (i = 27)] : List Bool).map V.bl) n9
    refine ⟨_, rfl, a, C i, d, v, rfl, EI, A9.same _ _ ha, A9.same _ _ hd, [decide (i = 28), decide (i = 29), decide (i = 30)], (.cons (kk 28 (by decide)) (.cons (kk 29 (by decide)) (.cons (kk 30 (by decide)) .nil))), by show 3 ≤ sizeLine; decide, fun m10 k10 => ?_⟩
    have B10 := A9.keep (new_same (o := .lst (([decide (i = 28), decide (i = 29), decide (i = 30)] : List Bool).map V.bl)) k10)
    refine ⟨l9, m10, _, _, rfl, rfl, B10.at_, upd_same, by show 28 + 3 ≤ sizeLine; decide, fun l10 n10 => ?_⟩
    have A10 := B10.cat (([decide (i = 28), decide (i = 29), decide (i = 30)] : List Bool).map V.bl) n10
    refine ⟨_, rfl, a, C i, d, v, rfl, EI, A10.same _ _ ha, A10.same _ _ hd, [decide (i = 31), decide (i = 32), decide (i = 33)], (.cons (kk 31 (by decide)) (.cons (kk 32 (by decide)) (.cons (kk 33 (by decide)) .nil))), by show 3 ≤ sizeLine; decide, fun m11 k11 => ?_⟩
    have B11 := A10.keep (new_same (o := .lst (([decide (i = 31), decide (i = 32), decide (i = 33)] : List Bool).map V.bl)) k11)
    refine ⟨l10, m11, _, _, rfl, rfl, B11.at_, upd_same, by show 31 + 3 ≤ sizeLine; decide, fun l11 n11 => ?_⟩
    have A11 := B11.cat (([decide (i = 31), decide (i = 32), decide (i = 33)] : List Bool).map V.bl) n11
    refine ⟨_, rfl, a, C i, d, v, rfl, EI, A11.same _ _ ha, A11.same _ _ hd, [decide (i = 34), decide (i = 35)], (.cons (kk 34 (by decide)) (.cons (kk 35 (by decide)) .nil)), by show 2 ≤ sizeLine; decide, fun m12 k12 => ?_⟩
    have B12 := A11.keep (new_same (o := .lst (([decide (i = 34), decide (i = 35)] : List Bool).map V.bl)) k12)
    refine ⟨l11, m12, _, _, rfl, rfl, B12.at_, upd_same, by show 34 + 2 ≤ sizeLine; decide, fun l12 n12 => ?_⟩
    have A12 := B12.cat (([decide (i = 34), decide (i = 35)] : List Bool).map V.bl) n12
    exact k l12 _ A12.same A12.at_
end
end TP
end
section
set_option Elab.async false
set_option linter.all false
set_option maxRecDepth 100000
set_option maxHeartbeats 8000000
namespace TP
open PySem L2 PyProof.Rows TPX
abbrev sRight : Stmt := top 45
def spRight : Sp := fun vs H Q _ => ∃ (p : Addr) (n : Nat), vs = [.ref p] ∧ Pot H p n ∧ n < 800000 ∧ ∀ H', Drawn H p (n + 40) H' → Q (.bl true) H'
section
variable {P : Program} {w : World} {K : PySem.W.Frag} {mg : Str → Option Value} {base : Heap} {T fT : Addr} {C fI : Nat → Addr}
abbrev nR : List Str := ["_law_pot", "_law_thing", "_law_some", "_law_at", "_law_one", "_law_k"]
theorem scR : FnScope nR ["_law_pot"] (defScope sRight) := ⟨rfl, rfl, rfl, by decide +kernel, rfl, by decide +kernel, by decide +kernel⟩
theorem dp_bools {H : Hp} : ∀ bs : List Bool, DpAll K H (bs.map V.bl) (bs.map PyData.bool)
  | [] => .nil
  | b :: bs => .cons (.bl b) (dp_bools bs)
theorem lay_bools : ∀ bs : List Bool, PyData.canLayAll0 (bs.map PyData.bool) = true
  | [] => rfl
  | b :: bs => by simp only [List.map_cons, PyData.canLayAll0, PyData.canLay0, lay_bools bs, Bool.and_self]
theorem dep_bools : ∀ bs : List Bool, PyData.depthAll (bs.map PyData.bool) = 0
  | [] => rfl
  | b :: bs => by simp only [List.map_cons, PyData.depthAll, PyData.depth, dep_bools bs, Nat.max_self]
theorem shaped_bools (bs : List Bool) : SeqAt.shaped (.list (bs.map PyData.bool)) = true := by
  unfold SeqAt.shaped
  simp only [PyData.canLay0, PyData.depth, lay_bools, dep_bools]
  decide
theorem eqv_bools (bs : List Bool) : PyData.eqv (.list (bs.map PyData.bool)) (.list (bs.map PyData.bool)) = true := SeqAt.eqv_refl _ (by simp only [PyData.canLay0, lay_bools])
def same01 (i : Nat) (n : Nat) : List Bool := (List.range n).map fun j => decide (i = j)
theorem same01_succ (i j : Nat) : (same01 i (j + 1)).map V.bl = (same01 i j).map V.bl ++ [V.bl (decide (V.int (i : Nat) = V.int (0 + (j : Nat))))] := by
  unfold same01
  rw [List.range_succ, List.map_append, List.map_append]
  congr 1
  show [V.bl (decide (i = j))] = _
  congr 2
  by_cases h : i = j
  · subst h; simp
  · rw [decide_eq_false h, decide_eq_false]
    intro z
    injection z with z
    omega
theorem ErrL.get {H : Hp} {v : V} : ∀ {Cs : List Addr} {xs : List V} {i : Nat} {y : V}, ErrL H v Cs xs → xs[i]? = some y → ∃ D, Cs[i]? = some D ∧ ErrAt H v D y
  | _, _, _, _, .nil, e => by simp at e
  | _, _, 0, _, .cons a _, e => by simp at e; subst e; exact ⟨_, rfl, a⟩
  | _, _, i + 1, y, .cons _ t, e => by
    obtain ⟨D, h1, h2⟩ := ErrL.get (i := i) (y := y) t (by simpa using e)
    exact ⟨D, by simpa using h1, h2⟩
theorem ok_right {f fO fM fS : Addr} {fd fdO fdM fdS : FuncData} (F : Fun K "_law_right" "_law_right" sRight f fd) (T : Errs P K mg T fT C fI)
    (FO : FnOk P w K mg base CX0 3 fO fdO ["_law_pot"] (spOdd K)) (bO : Binds K fdO ["_law_pot"] []) (mO : mg "_law_odd" = some (.ref fO)) (kO : PySem.W.keepIn K (.ref fO) = true)
    (FM : FnOk P w K mg base CX0 1 fM fdM ["_law_thing"] (spMade C)) (bM : Binds K fdM ["_law_thing"] []) (mM : mg "_law_made" = some (.ref fM)) (kM : PySem.W.keepIn K (.ref fM) = true)
    (FS : FnOk P w K mg base CX0 1 fS fdS ["_law_one"] (spSorts C)) (bS : Binds K fdS ["_law_one"] []) (mS : mg "_law_sorts" = some (.ref fS)) (kS : PySem.W.keepIn K (.ref fS) = true)
    (me : mg "enumerate" = none) (mr : mg "range" = none) (ml : mg "len" = none) (mp : mg "repr" = none) : FnG P w K mg base 4 f fd ["_law_pot"] spRight := by
  refine fun_okG F scR (fun vs H Q E h => ?_) (fun cdv A outer s H vs Q E hg hr h => ?_)
  · obtain ⟨p, n, rfl, _⟩ := h
    rfl
  · obtain ⟨p, n, rfl, hp, hn, k⟩ := h
    have hr1 : Room 1 _ := hr.mono (by decide)
    have hr0 : Room 0 _ := hr.mono (by decide)
    have hu : (A.deeper (envOfC "_law_right" (defScope sRight) s.heap.objs.size f cdv)).units + 200 < cLine := by have := hr.un; omega
    have hu64 : (A.deeper (envOfC "_law_right" (defScope sRight) s.heap.objs.size f cdv)).units + 64 < cLine := by omega
    refine ⟨_, pss_cons (ps_set (i := 1) scR.nd rfl (Or.inl rfl) (pe_call FO hr rfl mO kO bO .nil pass0 (pa_cons (pv 0) pa_nil)))
      (pss_cons (ps_set (i := 2) scR.nd rfl (Or.inl rfl) (pe_call FM hr1 rfl mM kM bM .nil pass0 (pa_cons (pv 1) pa_nil)))
      (pss_cons (ps_for PassesOwn.never rfl (pi_enum rfl me (pa_cons (pv 2) pa_nil)) (pg_tup rfl (pgs_cons (pg_name (i := 3) scR.nd rfl (Or.inr rfl)) (pgs_cons (pg_name (i := 4) scR.nd rfl (Or.inl rfl)) pgs_nil)))
        (pss_cons (ps_if (pt_cmpR (op_neD hu64) (pe_call FS hr1 rfl mS kS bS .nil pass0 (pa_cons (pv 4) pa_nil))
            (pe_lc (own := [("_law_k", 5)]) (g := gName 5) (tt := tYes) rfl scR.nd (pi_range1 rfl mr (pa_cons (pe_callB call_len_seq (by rfl) ml PySem.boot_len (pa_cons (pv 2) pa_nil)) pa_nil))
              (blkOk_by (N := nR) (sc := defScope sRight) (by decide +kernel)) (fun _ _ _ _ _ => pg_name (i := 5) scR.nd rfl (Or.inl rfl)) (fun _ _ _ _ _ => pts_nil) (fun _ _ _ _ _ => pe_cmpR op_eq (pv 3) (pv 5) (nomark _))) (nomark _))
          (pss_one (ps_ret pe_bl)) pss_nil)
        (pss_one (ps_if (pw_or (pt_not (pt_val (pe_callB call_errIs (by rfl) T.mi boot_isinstance (pa_cons (pv 4) (pa_cons (pe_glob (by rfl) T.mT (v := .ref _) rfl) pa_nil)))))
            (pw_or (pt_not (pt_val (pe_callB call_errIs (by rfl) T.mi boot_isinstance (pa_cons (pv 4) (pa_cons (pe_bltn (by rfl) T.mV (v := .ty "ValueError") (by decide +kernel) rfl) pa_nil)))))
            (pw_or1 (pt_cmpR op_ne (pe_callB (call_reprD hg hu) (by rfl) mp bootS_repr (pa_cons (pe_errV (pv 4)) pa_nil)) (pe_callB (call_reprD hg hu) (by rfl) mp bootS_repr (pa_cons (pv 1) pa_nil)) (nomark _))))).pt
          (pss_one (ps_ret pe_bl)) pss_nil))))
      (pss_one (ps_ret (pe_cmpR op_eq (pe_callB (call_reprD hg hu) (by rfl) mp bootS_repr (pa_cons (pe_errV (pe_errK T.tc (T.ec 3 (by decide)) hr0 rfl (T.mc 3 (by decide)) (pk_cons (pv 1) pk_nil))) pa_nil))
        (pe_callB (call_reprD hg hu) (by rfl) mp bootS_repr (pa_cons (pv 1) pa_nil)) (nomark _)))))), ?_⟩
    refine ⟨_, rfl, p, n, rfl, hp, by omega, fun thing d H1 D1 q1 w1 => ?_⟩
    refine ⟨_, rfl, thing, rfl, fun L H2 xs s2 hL e2 => ?_⟩
    have q2 : Dq K H2 thing d := Dq.mono (same_tr del_sub s2) q1
    have hx : xs.length = 36 := by rw [← e2.len]; simp [errCs]
    refine ⟨_, rfl, L, xs, rfl, SqL.of hL, for_it (walk_enum (K := K) (a := L) (xs := xs)) (fun i σ G => ∃ t3 t4, σ = [some (.ref p), some thing, some (.ref L), t3, t4, none] ∧ Same H2 G) ⟨none, none, rfl, fun _ _ z => z⟩ ?_ ?_ ?_⟩
    · rintro i σ G hi ⟨t3, t4, rfl, sG⟩
      exact SqL.of (sG _ _ hL)
    · rintro i x σ G G' hi ⟨t3, t4, rfl, sG⟩ ⟨Tt, x1, y1, rfl, hT, rfl, e1, e2'⟩
      cases e1
      have sG' : Same H2 (upd G Tt (.tup [.int (i : Nat), y1])) := same_tr sG (new_same hT)
      refine ⟨Tt, [.int (i : Nat), y1], rfl, SqT.of upd_same, rfl, _, _, rfl, _, _, rfl, rfl, ?_⟩
      have hi36 : i < 36 := by omega
      obtain ⟨D, hD, eA⟩ := ErrL.get e2 e2'
      have hDi : D = C i := by
        unfold errCs at hD
        rw [List.getElem?_map, List.getElem?_range hi36] at hD
        exact (Option.some.inj hD).symm
      subst hDi
      have eA' := eA.mono sG'
      obtain ⟨ae, de, rfl, ha, hd⟩ := id eA'
      -- sorts(one)
      refine ⟨_, rfl, .ref ae, thing, i, rfl, hi36, eA', fun Ls G2 s3 hLs => ?_⟩
      have sG2 := same_tr sG' s3
      -- [at == k for k in range(len(some))]
      refine ⟨_, rfl, L, xs, rfl, .inl (SqL.of (sG2 _ _ hL)), _, rfl, by omega, by omega, fun Dl hDl => lc_range (n := ((xs.length : Int)).toNat) (fun j G3 => G2 Dl = none ∧ Same G2 G3 ∧ G3 Dl = some (.lst ((same01 i j).map V.bl))) ?_ ?_ ?_⟩
      · exact ⟨hDl, new_same hDl, upd_same⟩
      · rintro j G3 hj ⟨n3, s4, g3⟩
        refine ⟨rfl, ⟨_, rfl, _, rfl, rfl, ?_⟩⟩
        refine ⟨_, g3, Nat.lt_of_le_of_lt (show _ ≤ 40 by simp [same01]; omega) (by decide), n3, fun b o z => ?_, ?_⟩
        · rw [upd_ne (ne_of_none z n3)]
          exact s4 b o z
        · rw [upd_same, same01_succ]
      · rintro G3 ⟨n3, s4, g3⟩
        have sG3 := same_tr sG2 s4
        have hLs3 := s4 _ _ hLs
        have n36 : ((xs.length : Int)).toNat = 36 := by omega
        rw [n36] at g3
        have eq1 : ((List.range 36).map fun j => V.bl (decide (i = j))) = (same01 i 36).map V.bl := by unfold same01; rw [List.map_map]; rfl
        rw [eq1] at hLs3
        refine ⟨_, _, .lst (SqL.of hLs3) (dp_bools _), .lst (SqL.of g3) (dp_bools _), shaped_bools _, shaped_bools _, _, rfl, ?_⟩
        rw [eqv_bools]
        refine iteF ?_
        -- the second test
        obtain ⟨ha3, hd3⟩ : G3 ae = some (exo ae (C i) (some de)) ∧ G3 de = some (exd de [("value", thing)]) := ⟨s4 _ _ (s3 _ _ ha), s4 _ _ (s3 _ _ hd)⟩
        have q3 : Dq K G3 thing d := Dq.mono sG3 q2
        have w3 := w1.sz
        have z3 : d.shown.length ≤ sizeLine := Nat.le_trans w3 (by decide)
        have d3 : d.depth ≤ 100 := Nat.le_trans w1.dp (by decide)
        refine ⟨_, rfl, ae, C i, de, thing, _, _, true, rfl, T.ei i hi36, ha3, hd3, .own _, T.kT i hi36, true, rfl, ?_⟩
        refine iteF ?_
        refine ⟨_, rfl, ae, C i, de, thing, _, _, true, rfl, T.ei i hi36, ha3, hd3, .ty _, T.kV i hi36, true, rfl, ?_⟩
        refine iteF ?_
        refine ⟨_, rfl, ae, C i, de, thing, rfl, T.ei i hi36, (T.ec i hi36).ek.nv, ha3, hd3, thing, d, rfl, q3, w1.sh, d3, z3, _, rfl, thing, d, rfl, q3, w1.sh, d3, z3, rfl, _, rfl, ?_⟩
        refine iteNS rfl ?_
        exact ⟨_, _, rfl, sG3⟩
    · rintro σ G ⟨t3, t4, rfl, sG⟩
      have q3 : Dq K G thing d := Dq.mono sG q2
      have w3 := w1.sz
      have z3 : d.shown.length ≤ sizeLine := Nat.le_trans w3 (by decide)
      have d3 : d.depth ≤ 100 := Nat.le_trans w1.dp (by decide)
      refine ⟨_, rfl, thing, rfl, fun a e na ne hne => ?_⟩
      have sG' := same_tr (new_same (o := exd e [("value", thing)]) ne) (new_same (H := upd G e (exd e [("value", thing)])) (q := a) (o := exo a (C 3) (some e)) (by rw [upd_ne (Ne.symm hne)]; exact na))
      have q4 := Dq.mono sG' q3
      refine ⟨a, C 3, e, thing, rfl, T.ei 3 (by decide), (T.ec 3 (by decide)).ek.nv, upd_same, by rw [upd_ne hne, upd_same], thing, d, rfl, q4, w1.sh, d3, z3, _, rfl, thing, d, rfl, q4, w1.sh, d3, z3, rfl, ?_⟩
      rw [decide_eq_true (show V.str d.shown = V.str d.shown from rfl)]
      refine k _ ⟨?_, fun b o hb z => sG' _ _ (sG _ _ (s2 _ _ (D1.rest b o hb z)))⟩
      obtain ⟨a0, b0, c0, e0, r0⟩ := D1.pot.ex
      exact ⟨a0, b0, c0, sG' _ _ (sG _ _ (s2 _ _ e0)), r0⟩
end
end TP
end
section
set_option Elab.async false
set_option linter.all false
set_option maxRecDepth 100000
set_option maxHeartbeats 8000000
namespace TP
open PySem L2 PyProof.Rows TPX
abbrev sLaw : Stmt := top 46
def spLaw (K : PySem.W.Frag) : Sp := fun vs H Q _ => ∃ (a : Addr) (ns : List Int), vs = [.ref a] ∧ SqL K H a (ns.map V.int) ∧ ns.length ≤ 63 ∧ ∀ H', Q (.bl true) H'
section
variable {P : Program} {w : World} {K : PySem.W.Frag} {mg : Str → Option Value} {base : Heap}
abbrev nL : List Str := ["_law_script", "_law_k", "_law_pot", "_law_turn"]
theorem scL : FnScope nL ["_law_script"] (defScope sLaw) := ⟨rfl, rfl, rfl, by decide +kernel, rfl, by decide +kernel, by decide +kernel⟩
theorem ok_law {f fP fR : Addr} {fd fdP fdR : FuncData} (F : Fun K "law" "law" sLaw f fd)
    (FP : FnOk P w K mg base CX0 1 fP fdP ["_law_script", "_law_k"] (spPotOf K)) (bP : Binds K fdP ["_law_script", "_law_k"] []) (mP : mg "_law_pot_of" = some (.ref fP)) (kP : PySem.W.keepIn K (.ref fP) = true)
    (FR : FnG P w K mg base 4 fR fdR ["_law_pot"] spRight) (bR : Binds K fdR ["_law_pot"] []) (mR : mg "_law_right" = some (.ref fR)) (kR : PySem.W.keepIn K (.ref fR) = true)
    (mr : mg "range" = none) (ml : mg "len" = none) (mx : mg "max" = none) (mn : mg "min" = none) (ma : mg "all" = none) : FnG P w K mg base 5 f fd ["_law_script"] (spLaw K) := by
  refine fun_okG F scL (fun vs H Q E h => ?_) (fun cdv A outer s H vs Q E hg hr h => ?_)
  · obtain ⟨a, ns, rfl, _⟩ := h
    rfl
  · obtain ⟨a, ns, rfl, hs, hl, k⟩ := h
    have hr1 : Room 1 _ := hr.mono (by decide)
    refine ⟨_, pss_cons (ps_for PassesOwn.never rfl (pi_range1 rfl mr (pa_cons (pe_callB (call_max2 rfl) (by rfl) mx boot_max (pa_cons pe_int (pa_cons (pe_callB (call_min2 rfl) (by rfl) mn boot_min (pa_cons pe_int (pa_cons (pe_callB call_len_seq (by rfl) ml PySem.boot_len (pa_cons (pv 0) pa_nil)) pa_nil))) pa_nil))) pa_nil)) (pg_name (i := 1) scL.nd rfl (Or.inl rfl))
        (pss_cons (ps_set (i := 2) scL.nd rfl (Or.inr rfl) (pe_call FP hr1 rfl mP kP bP .nil pass0 (pa_cons (pv 0) (pa_cons (pv 1) pa_nil))))
        (pss_one (ps_if (pt_not (pt_val (pe_callB (cr_all rfl) (by rfl) ma (by decide +kernel) (pa_cons (pe_lc (own := [("_law_turn", 3)]) (g := gName 3) (tt := tYes) rfl scL.nd (pi_range1 rfl mr (pa_cons pe_int pa_nil))
              (blkOk_by (N := nL) (sc := defScope sLaw) (by decide +kernel)) (fun _ _ _ _ _ => pg_name (i := 3) scL.nd rfl (Or.inl rfl)) (fun _ _ _ _ _ => pts_nil) (fun _ _ _ _ _ => pe_callG FR hg hr rfl mR kR bR (pa_cons (pv 2) pa_nil))) pa_nil))))
          (pss_one (ps_ret pe_bl)) pss_nil))))
      (pss_one (ps_ret pe_bl)), ?_⟩
    refine ⟨_, rfl, a, _, rfl, .inl hs, 3, _, rfl, 1, _, rfl, _, rfl, ?_, ?_, for_range (lo := 0) (fun i σ G => ∃ t1 t2, σ = [some (.ref a), t1, t2, none] ∧ Same H G) ⟨none, none, rfl, fun _ _ z => z⟩ ?_ ?_⟩
    · rw [List.length_map]; split <;> split <;> omega
    · rw [List.length_map]; split <;> split <;> omega
    · rintro i σ G hi ⟨t1, t2, rfl, sG⟩
      have hi3 : i < 3 := by
        revert hi
        rw [List.length_map]
        split <;> split <;> omega
      refine ⟨_, rfl, _, rfl, a, ns, i, by rw [Int.zero_add]; rfl, sG.seq hs, hl, by omega, fun p G1 hp s1 P1 => ?_⟩
      have sG1 := same_tr sG s1
      have np : H p = none := sG.free hp
      refine ⟨3, rfl, by decide, by decide, fun D hD => lc_range (n := 3) (fun j G3 => D ≠ p ∧ Pot G3 p (40 * j) ∧ Same H G3 ∧ G3 D = some (.lst ((List.replicate j true).map V.bl))) ?_ ?_ ?_⟩
      · exact ⟨P1.ne hD, P1.upd hD, same_tr sG1 (new_same hD), upd_same⟩
      · rintro j G3 hj ⟨nD, P3, s3, g3⟩
        refine ⟨rfl, ⟨_, rfl, p, 40 * j, rfl, P3, by omega, fun G4 D4 => ?_⟩⟩
        have g4 := D4.rest D _ nD g3
        refine ⟨_, g4, Nat.lt_of_le_of_lt (show _ ≤ 40 by simp; omega) (by decide), nD, ?_, fun b o z => ?_, ?_⟩
        · obtain ⟨a0, b0, c0, e0, r1, r2, r3, r4⟩ := D4.pot.ex
          exact ⟨a0, b0, c0, by rw [upd_ne (Ne.symm nD)]; exact e0, r1, r2, r3, by omega⟩
        · have hb : b ≠ p := ne_of_none z np
          have z4 := D4.rest b o hb (s3 b o z)
          rw [upd_ne (ne_of_none z (sG1.free hD))]
          exact z4
        · rw [upd_same, List.replicate_succ', List.map_append]
          rfl
      · rintro G3 ⟨nD, P3, s3, g3⟩
        refine ⟨D, List.replicate 3 true, rfl, SqL.of g3, _, rfl, ?_⟩
        refine iteF ?_
        exact ⟨_, _, rfl, s3⟩
    · rintro σ G ⟨t1, t2, rfl, sG⟩
      exact k G
end
end TP
end
section
set_option Elab.async false
set_option linter.all false
set_option maxRecDepth 100000
set_option maxHeartbeats 8000000
namespace TP
open PySem PySem.W L2 PyProof.Rows TPX
abbrev veMro : List Value := [.type "ValueError", .type "Exception", .type "BaseException", .type "object"]
/-- the class at C as K writes it -/
def excB (K : Frag) (C : Addr) : Bool := match K.lookup C with
  | some ⟨.type "type", _, .cls cd, sl⟩ => (match cd.mro, sl.toList with
    | .ref C' :: bm, [_, _, _, _, some (.builtin n), _] => C' == C && n == "ValueError.__new__" && !cd.hasDel && cd.hasDict && PySem.HandSPX.refsVE bm
    | _, _ => false)
  | _ => false
theorem excB_ok {K : Frag} {C : Addr} (q : excB K C = true) : ∃ nm q N bs bm sn sub ab col dd k0 k1 k2 k3 k5, K.lookup C = some (excClassObj nm q C N bs bm true sn sub ab col dd k0 k1 k2 k3 k5 "ValueError.__new__") ∧ PySem.HandSPX.refsVE bm = true := by
  unfold excB at q
  split at q
  · next dd cd sl ho =>
    split at q
    · next C' bm k0 k1 k2 k3 n k5 hm hs =>
      simp only [Bool.and_eq_true, beq_iff_eq, Bool.not_eq_true'] at q
      obtain ⟨⟨⟨⟨rfl, rfl⟩, hdel⟩, hdc⟩, hr⟩ := q
      obtain ⟨nm, bs, mro, ns, qn, hd, sn, sub, ab, col, del⟩ := cd
      dsimp only at hm hdel hdc
      subst hm hdel hdc
      obtain ⟨l⟩ := sl
      simp only at hs
      subst hs
      exact ⟨nm, qn, ns, bs, bm, sn, sub, ab, col, dd, k0, k1, k2, k3, k5, ho, hr⟩
    · cases q
  · cases q
/-- what is reckoned of a class -/
def clsB (K : Frag) (T fT C fI : Addr) : Bool :=
  excB K C && (excInitIn K C veMro "ValueError.__new__" && (decide (findIn K (.ref C) "__setattr__" = some (some (.builtin "object.__setattr__"))) && (decide (findIn K (.ref C) "value" = some none) &&
  (decide (ks_superIn K C T "__init__" = some (some (.builtin "ValueError.__init__"))) && (decide (subIn K (.ref C) (.type "ValueError") = some true) && (decide (mroIn K C (.ref T) = some true) &&
  (decide (ks_superIn K C C "__init__" = some (some (.ref fT))) && (decide (mroIn K C (.ref C) = some true) && (decide (findIn K (.ref C) "__init__" = some (some (.ref fI))) && (decide (typeIn K (.ref fI) = some (.type "function")) && (keepIn K (.ref C) &&
  (decide (findIn K (.ref C) "__getattribute__" = some (some (.builtin "BaseException.__getattribute__"))) && (decide (findIn K (.ref C) "__getattr__" = some none) && (decide (subIn K (.ref C) (.type "BaseException") = some true) && (hasDictIn K C &&
  (decide (findIn K (.ref C) "__class__" = some (some (.builtin "object.__class__"))) && (decide (mroIn K C (.type "object") = some true) && (clsIn K C).isSome)))))))))))))))))
/-- what is reckoned once -/
def oneB (K : Frag) (fT : Addr) : Bool := decide (nsIn K cStatics "thirdparty.any" = some none) && (decide (specialIn K (.builtin "object.__class__") "__get__" = some (some (.builtin "getset_descriptor.__get__"))) && (decide (takesIn K (.builtin "object.__class__") = some true) &&
  (decide (typeIn K (.ref fT) = some (.type "function")) && fnIn K fT)))
def kitB (K : Frag) (T : Addr) (Cs : List Addr) : Bool := Cs.zipIdx.all fun p => decide (kitOne K (.ref p.1) (.ref T) = some true) && (decide (kitOne K (.ref p.1) (.type "ValueError") = some true) && Cs.zipIdx.all fun q => decide (kitOne K (.ref p.1) (.ref q.1) = some (decide (p.2 = q.2))))
theorem and2 {a b : Bool} (h : (a && b) = true) : a = true ∧ b = true := Bool.and_eq_true_iff.mp h
/-- the text of an error's __init__: everything that is read off it -/
structure SubT (st : Stmt) (text : Str) (j : Nat) (q0 q1 q2 q3 q4 q5 q6 : Pos) (ar : Arg) : Prop where
  body : defBody st = [.Expr (.Call (.Attribute (.Call (.Name "super" q0) [] [] q1) "__init__" q2) [.Name "value" q3, .Constant (.str text) j q4] [] q5) q6]
  hd : ((defArgs st).posonlyargs ++ (defArgs st).args).head? = some ar
  self : ar.arg = "self"
  b1 : ∀ (s : Shared) (fd : FuncData) (x v : Value), fd.params = defArgs st → fd.defaults = .none → BindsTo s fd ⟨[x, v], []⟩ [("self", x), ("value", v)]
  b2 : ∀ (s : Shared) (fd : FuncData) (x v : Value), fd.params = defArgs st → fd.defaults = .none → BindsTo s fd ⟨[x], [("value", v)]⟩ [("self", x), ("value", v)]
  s1 : (defScope st).names.lookup ("super" : Str) = some .globalImplicit
  s2 : (defScope st).names.lookup ("__class__" : Str) = some .free
  s3 : (defScope st).names.lookup ("self" : Str) = some .local
  s4 : (defScope st).names.lookup ("value" : Str) = some .local
  s6 : (defScope st).kind = .function
  s7 : (defScope st).isCoroutine = false
  s8 : (defScope st).isGenerator = false
  s9 : ∀ y ∈ (defScope st).names, y.2 ≠ .cell
  cs : ∀ (qual : Str) (L f cda cc : Addr), ∃ pl, CallsSo (ksEnv qual (defScope st) L f (.ref cda) cc) (.Call (.Name "super" q0) [] [] q1) [.Name "value" q3, .Constant (.str text) j q4] q2 q5 pl
  sw : ∀ (qual : Str) (L f cda cc : Addr), swapsWith (.Call (.Attribute (.Call (.Name "super" q0) [] [] q1) "__init__" q2) [.Name "value" q3, .Constant (.str text) j q4] [] q5) none q6.line (ksEnv qual (defScope st) L f (.ref cda) cc) = pure false
  ia : ∀ (qual : Str) (L f cda cc : Addr), interactive (ksEnv qual (defScope st) L f (.ref cda) cc) = false
theorem sub_of {prog : Program} {K : Frag} {C fI cda cc : Addr} {st : Stmt} {qual : Str} {text : Str} {j : Nat} {q0 q1 q2 q3 q4 q5 q6 : Pos} {ar : Arg} (S : SubT st text j q0 q1 q2 q3 q4 q5 q6 ar)
    (I : InitFn prog K fI C cda cc qual (defArgs st) (defBody st) (defScope st) .none) : SubOk prog K C fI := by
  rw [S.body] at I
  exact ⟨cda, cc, qual, defArgs st, defScope st, .none, q0, q1, q2, q3, q4, q5, q6, text, j, ar, fun L => (S.cs qual L fI cda cc).choose, I, S.hd, S.self, S.b1, S.b2, S.s1, S.s2, S.s3, S.s4, S.s6, S.s7, S.s8, S.s9, fun L => (S.cs qual L fI cda cc).choose_spec, fun L => S.sw qual L fI cda cc, fun L => S.ia qual L fI cda cc⟩
theorem cls_some {K : Frag} {C : Addr} (h : (clsIn K C).isSome = true) : ∃ cd, clsIn K C = some cd := Option.isSome_iff_exists.mp h
theorem err_mk {prog : Program} {K : Frag} {T fT C fI : Addr} (o : oneB K fT = true) (b : clsB K T fT C fI = true) (hsub : SubOk prog K C fI) :
    ErrC prog K T fT C fI ∧ ErrI K C := by
  obtain ⟨o1, o⟩ := and2 o
  obtain ⟨o2, o⟩ := and2 o
  obtain ⟨o3, o⟩ := and2 o
  obtain ⟨b1, b⟩ := and2 b
  obtain ⟨b2, b⟩ := and2 b
  obtain ⟨b3, b⟩ := and2 b
  obtain ⟨b4, b⟩ := and2 b
  obtain ⟨b5, b⟩ := and2 b
  obtain ⟨b6, b⟩ := and2 b
  obtain ⟨b7, b⟩ := and2 b
  obtain ⟨b8, b⟩ := and2 b
  obtain ⟨b9, b⟩ := and2 b
  obtain ⟨b10, b⟩ := and2 b
  obtain ⟨b11, b⟩ := and2 b
  obtain ⟨b12, b⟩ := and2 b
  obtain ⟨b13, b⟩ := and2 b
  obtain ⟨b14, b⟩ := and2 b
  obtain ⟨b15, b⟩ := and2 b
  obtain ⟨b16, b⟩ := and2 b
  obtain ⟨b17, b⟩ := and2 b
  obtain ⟨b18, b⟩ := and2 b
  exact ⟨⟨⟨excB_ok b1, b2, of_decide_eq_true b3, of_decide_eq_true b4, of_decide_eq_true b5, of_decide_eq_true b6, of_decide_eq_true b7, of_decide_eq_true o1⟩, of_decide_eq_true b8, of_decide_eq_true b9, of_decide_eq_true b10, of_decide_eq_true b11, b12,
      hsub⟩,
    ⟨of_decide_eq_true b13, of_decide_eq_true b14, of_decide_eq_true b15, b16, of_decide_eq_true b17, of_decide_eq_true o2, of_decide_eq_true o3, of_decide_eq_true b18⟩⟩
/-! ThinError -/
theorem thin_mk {prog : Program} {K : Frag} {mg : Str → Option Value} {T fT cda cc Td : Addr} {qual : Str} {od1 : Option Addr} {d0 : Value} {n1 : Nat} {sl1 : Array (Option Value)} {oc1 : Value}
    (o : oneB K fT = true) (I : InitFn prog K fT T cda cc qual (defArgs (inClass (top 1) 0)) (defBody (inClass (top 1) 0)) (defScope (inClass (top 1) 0)) (.ref Td))
    (hd : K.lookup Td = some ⟨oc1, od1, .seq #[d0] n1, sl1⟩) (nos : mg "super" = none) (top' : (prog.main.scope.names.lookup ("super" : Str)).isSome = false) : ThinC prog K mg T fT := by
  obtain ⟨o1, o⟩ := and2 o
  obtain ⟨o2, o⟩ := and2 o
  obtain ⟨o3, o⟩ := and2 o
  obtain ⟨o4, o5⟩ := and2 o
  refine ⟨⟨cda, cc, qual, defArgs (inClass (top 1) 0), defScope (inClass (top 1) 0), .ref Td, _, _, _, _, _, _, _, _, _, _, _, fun L => _, I, rfl, rfl, ?_, rfl, rfl, rfl, rfl, rfl, rfl, rfl, rfl, by decide +kernel, fun L => rfl, fun L => rfl, fun L => rfl⟩, of_decide_eq_true o4, o5, nos, top'⟩
  intro s fd x v m KX e1 e2
  cases fd
  dsimp only at e1 e2
  subst e1 e2
  exact binds_K KX rfl hd rfl rfl rfl
end TP
end
section
set_option Elab.async false
set_option linter.all false
set_option maxRecDepth 100000
set_option maxHeartbeats 0
namespace TP
open PySem PySem.Spec PyProof.Rows L2 TPX
/-! ### the head: what the top leaves, read by a Hook -/
abbrev theRow : PySem.W.OpenRow := PySem.W.OpenLaw.row PySem.Challenge.rw_thinnedpast_k59_errors_with_any_value
abbrev aT (K : PySem.W.Frag) : Addr := He.ga K "ThinError"
abbrev aI (K : PySem.W.Frag) (C : Addr) : Addr := He.ma K C "__init__"
def aC (K : PySem.W.Frag) (i : Nat) : Addr := He.ga K (errNames.getD i "")
def aCs (K : PySem.W.Frag) : List Addr := errNames.map fun x => He.ga K x
/-- where the classes stand in the text, in the law's sequence -/
def places : List Nat := [24, 19, 28, 37, 17, 13, 5, 8, 15, 14, 11, 16, 12, 36, 2, 10, 26, 34, 9, 4, 3, 7, 29, 20, 18, 32, 23, 33, 35, 6, 31, 30, 27, 25, 22, 21]
abbrev stI (i : Nat) : Stmt := inClass (top (places.getD i 0)) 0
/-- an __init__: what is compared with the text -/
abbrev InW : Type := Option (Str × Arguments × FuncBody × Scope × Addr × Addr)
def inW (K : PySem.W.Frag) (f : Addr) : InW := match K.lookup f with
  | some ⟨_, _, .func fd, _⟩ => some (fd.name, fd.params, fd.body, fd.scope, fd.globals, fd.builtins)
  | _ => none
def inV (st : Stmt) : InW := some ("__init__", defArgs st, .stmts (defBody st), defScope st, mainGlobals, builtinsNs)
/-- .. and what is reckoned: its cell holds C, its code is of the text's file; b: it has one default | none -/
def inB (file : Str) (K : PySem.W.Frag) (C f : Addr) (b : Bool) : Bool := match K.lookup f with
  | some ⟨_, _, .func fd, _⟩ => (match fd.closure, fd.code with
    | [(n, cc)], .ref cda => decide (n = ("__class__" : Str)) && ((match K.lookup cc with
        | some ⟨_, _, .cell (some (.ref D)), _⟩ => D == C
        | _ => false) && (PySem.W.codeIn K (.ref cda) fd.qualname && ((match K.lookup cda with
        | some ⟨_, _, .fields vs, _⟩ => (match vs[2]? with
          | some (Value.str z _) => file == z
          | _ => false)
        | _ => false) && (match fd.defaults, b with
        | .none, false => true
        | .ref Td, true => (match K.lookup Td with
          | some ⟨_, _, .seq ⟨[_]⟩ _, _⟩ => true
          | _ => false)
        | _, _ => false))))
    | _, _ => false)
  | _ => false
def exB (K : PySem.W.Frag) : Bool := oneB K (aI K (aT K)) && ((PySem.W.clsIn K (aT K)).isSome && (inB theRow.prog.main.file K (aT K) (aI K (aT K)) true && (kitB K (aT K) (aCs K) &&
  (List.range 36).all fun i => clsB K (aT K) (aI K (aT K)) (aC K i) (aI K (aC K i)) && (inB theRow.prog.main.file K (aC K i) (aI K (aC K i)) false && He.eqO (PySem.W.nsIn K mainGlobals (errNames.getD i "")) (some (some (.ref (aC K i))))))))
def dOf (n : Str) (j : Nat) : He.DefD := ⟨(n, none), n, n, defArgs (top j), defBody (top j), defScope (top j), [], []⟩
def defs : List He.DefD := [dOf "_law_take" 39, dOf "_law_of" 40, dOf "_law_pot_of" 41, dOf "_law_odd" 42, dOf "_law_made" 43, dOf "_law_sorts" 44, dOf "_law_right" 45, dOf "law" 46]
def facts : List He.Fa := [.glo "_law_take", .glo "_law_of", .glo "_law_pot_of", .glo "_law_odd", .glo "_law_made", .glo "_law_sorts", .glo "_law_right", .glo "law", .glo "ThinError",
  .free "int", .free "abs", .free "len", .free "range", .free "enumerate", .free "repr", .free "isinstance", .free "max", .free "min", .free "all", .free "ValueError", .free "super"]
def insW (K : PySem.W.Frag) : List InW := inW K (aI K (aT K)) :: (List.range 36).map fun i => inW K (aI K (aC K i))
def insV : List InW := inV (inClass (top 1) 0) :: (List.range 36).map fun i => inV (stI i)
abbrev Al : Type := He.AlD × Bool × List InW
def fragOf (g : Addr → Option Obj) : PySem.W.Frag := He.frG g (He.asD g 6 ++ [cStatics])
def obsG (g : Addr → Option Obj) : Al := (He.obsD facts defs (fragOf g), exB (fragOf g), insW (fragOf g))
def hook : PySem.W.Hook where
  α := Al
  obs := fun s => obsG s.heap.get?
  val := fun _ => (He.valD defs, true, insV)
  says := fun _ h => ∃ K : PySem.W.Frag, K.In h ∧ He.SaysD facts defs K ∧ exB K = true ∧ insW K = insV
  of := fun _ s e => ⟨fragOf s.heap.get?, He.frG_in, congrArg (fun z : Al => z.1) e, congrArg (fun z : Al => z.2.1) e, congrArg (fun z : Al => z.2.2) e⟩
  keeps := fun _ _ _ ⟨K, hK, c⟩ k => ⟨K, PySem.W.Frag.In.keeps hK k, c⟩
def ob (s : PySem.W.SharedT) : Al := obsG (HandSHeadRun.getT s)
theorem ob_eq (s : PySem.W.SharedT) : ob s = hook.obs s.abs := by
  have e : HandSHeadRun.getT s = s.abs.heap.get? := funext (HandSHeadRun.getT_eq s)
  show obsG _ = obsG _
  rw [e]
def loose : List Str := (["ThinError", "BadWorks", "NoPerson", "NoPath", "BadPast", "NoVersion", "NoPiece", "BadPieces", "NoPast", "BadWritings", "BadQuestion", "BadRule", "BadOffer", "BadPrices", "BadPlaces"] : List Str) ++
  ((["BadRoom", "BadLot", "NotLet", "BadElders", "NoRight", "Wrong", "Unsure", "NotSure", "BadAnswers", "Unanswered", "Contradiction", "Settled", "BadLetter", "NoPromise", "Promised"] : List Str) ++
  (["Open", "NotOpen", "NothingToUndo", "InTrial", "NoTrial", "BadText", "BadLine", "_law_take", "_law_of", "_law_pot_of", "_law_odd", "_law_made", "_law_sorts", "_law_right"] : List Str))
theorem run (w : World) : HandSHeadRun.RunEq theRow (PySem.W.view theRow.prog [46]) hook ob 12000 loose w := by
  intro os
  kernel_rfl
end TP
end
section
set_option Elab.async false
set_option linter.all false
set_option maxRecDepth 100000
set_option maxHeartbeats 4000000
namespace TP
open PySem PySem.Spec PyProof.Rows L2 TPX
theorem initFn_of {prog : Program} {K : PySem.W.Frag} {C f : Addr} {st : Stmt} {b : Bool} (e : inW K f = inV st) (h : inB prog.main.file K C f b = true) (hc : (PySem.W.clsIn K C).isSome = true) :
    ∃ cda cc qual dV, InitFn prog K f C cda cc qual (defArgs st) (defBody st) (defScope st) dV ∧ (b = false → dV = .none) ∧ (b = true → ∃ Td oc1 od1 d0 n1 sl1, dV = .ref Td ∧ K.lookup Td = some ⟨oc1, od1, .seq #[d0] n1, sl1⟩) := by
  unfold inB at h
  unfold inW inV at e
  split at h
  · next oc od fd osl lk =>
    rw [lk] at e
    have e' := Option.some.inj e
    obtain ⟨nm, qual, params, body, scope, gl, clo, dV, kV, doc, pm, an, cd, ct, bu⟩ := fd
    dsimp only at e' h lk
    simp only [Prod.mk.injEq] at e'
    obtain ⟨rfl, rfl, rfl, rfl, rfl, rfl⟩ := e'
    split at h
    · next n cc cda =>
      obtain ⟨h1, h⟩ := and2 h
      obtain ⟨h2, h⟩ := and2 h
      obtain ⟨h3, h⟩ := and2 h
      obtain ⟨h4, h5⟩ := and2 h
      obtain rfl := of_decide_eq_true h1
      refine ⟨cda, cc, qual, dV, ⟨⟨oc, od, kV, doc, pm, an, ct, osl, lk⟩, h3, ?_, ?_, cls_some hc⟩, ?_, ?_⟩
      · split at h4
        · next ccl cdd vs ccs lc =>
          split at h4
          · next z tf hz => exact ⟨ccl, cdd, vs, ccs, z, tf, lc, hz, h4⟩
          · cases h4
        · cases h4
      · split at h2
        · next cl cld D csl lc =>
          rw [beq_iff_eq] at h2
          subst h2
          exact ⟨cl, cld, csl, lc⟩
        · cases h2
      · intro hb
        subst hb
        clear h lk e
        cases dV <;> first | rfl | cases h5
      · intro hb
        subst hb
        clear h lk e
        cases dV with
        | ref Td =>
          dsimp only at h5
          split at h5
          · next oc1 od1 d0 n1 sl1 lt => exact ⟨Td, oc1, od1, d0, n1, sl1, rfl, lt⟩
          · cases h5
        | _ => cases h5
    · cases h
  · cases h
def HasT (st : Stmt) : Prop := ∃ text j q0 q1 q2 q3 q4 q5 q6 ar, SubT st text j q0 q1 q2 q3 q4 q5 q6 ar
theorem bnd1 {s : Shared} {fd : FuncData} {st : Stmt} {x v : Value} (h : ∀ nm qual body scope gl clo kV doc pm an cd ct bu, bindArgs ⟨nm, qual, defArgs st, body, scope, gl, clo, .none, kV, doc, pm, an, cd, ct, bu⟩ ⟨[x, v], []⟩ = pure ([("self", x), ("value", v)] : List (Str × Value))) (e1 : fd.params = defArgs st) (e2 : fd.defaults = .none) :
    BindsTo s fd ⟨[x, v], []⟩ [("self", x), ("value", v)] := by
  cases fd
  dsimp only at e1 e2
  subst e1 e2
  exact .of_eq (h _ _ _ _ _ _ _ _ _ _ _ _ _)
theorem bnd2 {s : Shared} {fd : FuncData} {st : Stmt} {x v : Value} (h : ∀ nm qual body scope gl clo kV doc pm an cd ct bu, bindArgs ⟨nm, qual, defArgs st, body, scope, gl, clo, .none, kV, doc, pm, an, cd, ct, bu⟩ ⟨[x], [("value", v)]⟩ = pure ([("self", x), ("value", v)] : List (Str × Value))) (e1 : fd.params = defArgs st) (e2 : fd.defaults = .none) :
    BindsTo s fd ⟨[x], [("value", v)]⟩ [("self", x), ("value", v)] := by
  cases fd
  dsimp only at e1 e2
  subst e1 e2
  exact .of_eq (h _ _ _ _ _ _ _ _ _ _ _ _ _)
theorem hasT0 : HasT (stI 0) := ⟨_, _, _, _, _, _, _, _, _, _, rfl, rfl, rfl, fun _ _ _ _ e1 e2 => bnd1 (fun _ _ _ _ _ _ _ _ _ _ _ _ _ => rfl) e1 e2, fun _ _ _ _ e1 e2 => bnd2 (fun _ _ _ _ _ _ _ _ _ _ _ _ _ => rfl) e1 e2, rfl, rfl, rfl, rfl, rfl, rfl, rfl, by decide +kernel, fun _ _ _ _ _ => ⟨_, rfl⟩, fun _ _ _ _ _ => rfl, fun _ _ _ _ _ => rfl⟩
theorem hasT1 : HasT (stI 1) := ⟨_, _, _, _, _, _, _, _, _, _, rfl, rfl, rfl, fun _ _ _ _ e1 e2 => bnd1 (fun _ _ _ _ _ _ _ _ _ _ _ _ _ => rfl) e1 e2, fun _ _ _ _ e1 e2 => bnd2 (fun _ _ _ _ _ _ _ _ _ _ _ _ _ => rfl) e1 e2, rfl, rfl, rfl, rfl, rfl, rfl, rfl, by decide +kernel, fun _ _ _ _ _ => ⟨_, rfl⟩, fun _ _ _ _ _ => rfl, fun _ _ _ _ _ => rfl⟩
theorem hasT2 : HasT (stI 2) := ⟨_, _, _, _, _, _, _, _, _, _, rfl, rfl, rfl, fun _ _ _ _ e1 e2 => bnd1 (fun _ _ _ _ _ _ _ _ _ _ _ _ _ => rfl) e1 e2, fun _ _ _ _ e1 e2 => bnd2 (fun _ _ _ _ _ _ _ _ _ _ _ _ _ => rfl) e1 e2, rfl, rfl, rfl, rfl, rfl, rfl, rfl, by decide +kernel, fun _ _ _ _ _ => ⟨_, rfl⟩, fun _ _ _ _ _ => rfl, fun _ _ _ _ _ => rfl⟩
theorem hasT3 : HasT (stI 3) := ⟨_, _, _, _, _, _, _, _, _, _, rfl, rfl, rfl, fun _ _ _ _ e1 e2 => bnd1 (fun _ _ _ _ _ _ _ _ _ _ _ _ _ => rfl) e1 e2, fun _ _ _ _ e1 e2 => bnd2 (fun _ _ _ _ _ _ _ _ _ _ _ _ _ => rfl) e1 e2, rfl, rfl, rfl, rfl, rfl, rfl, rfl, by decide +kernel, fun _ _ _ _ _ => ⟨_, rfl⟩, fun _ _ _ _ _ => rfl, fun _ _ _ _ _ => rfl⟩
theorem hasT4 : HasT (stI 4) := ⟨_, _, _, _, _, _, _, _, _, _, rfl, rfl, rfl, fun _ _ _ _ e1 e2 => bnd1 (fun _ _ _ _ _ _ _ _ _ _ _ _ _ => rfl) e1 e2, fun _ _ _ _ e1 e2 => bnd2 (fun _ _ _ _ _ _ _ _ _ _ _ _ _ => rfl) e1 e2, rfl, rfl, rfl, rfl, rfl, rfl, rfl, by decide +kernel, fun _ _ _ _ _ => ⟨_, rfl⟩, fun _ _ _ _ _ => rfl, fun _ _ _ _ _ => rfl⟩
theorem hasT5 : HasT (stI 5) := ⟨_, _, _, _, _, _, _, _, _, _, rfl, rfl, rfl, fun _ _ _ _ e1 e2 => bnd1 (fun _ _ _ _ _ _ _ _ _ _ _ _ _ => rfl) e1 e2, fun _ _ _ _ e1 e2 => bnd2 (fun _ _ _ _ _ _ _ _ _ _ _ _ _ => rfl) e1 e2, rfl, rfl, rfl, rfl, rfl, rfl, rfl, by decide +kernel, fun _ _ _ _ _ => ⟨_, rfl⟩, fun _ _ _ _ _ => rfl, fun _ _ _ _ _ => rfl⟩
theorem hasT6 : HasT (stI 6) := ⟨_, _, _, _, _, _, _, _, _, _, rfl, rfl, rfl, fun _ _ _ _ e1 e2 => bnd1 (fun _ _ _ _ _ _ _ _ _ _ _ _ _ => rfl) e1 e2, fun _ _ _ _ e1 e2 => bnd2 (fun _ _ _ _ _ _ _ _ _ _ _ _ _ => rfl) e1 e2, rfl, rfl, rfl, rfl, rfl, rfl, rfl, by decide +kernel, fun _ _ _ _ _ => ⟨_, rfl⟩, fun _ _ _ _ _ => rfl, fun _ _ _ _ _ => rfl⟩
theorem hasT7 : HasT (stI 7) := ⟨_, _, _, _, _, _, _, _, _, _, rfl, rfl, rfl, fun _ _ _ _ e1 e2 => bnd1 (fun _ _ _ _ _ _ _ _ _ _ _ _ _ => rfl) e1 e2, fun _ _ _ _ e1 e2 => bnd2 (fun _ _ _ _ _ _ _ _ _ _ _ _ _ => rfl) e1 e2, rfl, rfl, rfl, rfl, rfl, rfl, rfl, by decide +kernel, fun _ _ _ _ _ => ⟨_, rfl⟩, fun _ _ _ _ _ => rfl, fun _ _ _ _ _ => rfl⟩
theorem hasT8 : HasT (stI 8) := ⟨_, _, _, _, _, _, _, _, _, _, rfl, rfl, rfl, fun _ _ _ _ e1 e2 => bnd1 (fun _ _ _ _ _ _ _ _ _ _ _ _ _ => rfl) e1 e2, fun _ _ _ _ e1 e2 => bnd2 (fun _ _ _ _ _ _ _ _ _ _ _ _ _ => rfl) e1 e2, rfl, rfl, rfl, rfl, rfl, rfl, rfl, by decide +kernel, fun _ _ _ _ _ => ⟨_, rfl⟩, fun _ _ _ _ _ => rfl, fun _ _ _ _ _ => rfl⟩
theorem hasT9 : HasT (stI 9) := ⟨_, _, _, _, _, _, _, _, _, _, rfl, rfl, rfl, fun _ _ _ _ e1 e2 => bnd1 (fun _ _ _ _ _ _ _ _ _ _ _ _ _ => rfl) e1 e2, fun _ _ _ _ e1 e2 => bnd2 (fun _ _ _ _ _ _ _ _ _ _ _ _ _ => rfl) e1 e2, rfl, rfl, rfl, rfl, rfl, rfl, rfl, by decide +kernel, fun _ _ _ _ _ => ⟨_, rfl⟩, fun _ _ _ _ _ => rfl, fun _ _ _ _ _ => rfl⟩
theorem hasT10 : HasT (stI 10) := ⟨_, _, _, _, _, _, _, _, _, _, rfl, rfl, rfl, fun _ _ _ _ e1 e2 => bnd1 (fun _ _ _ _ _ _ _ _ _ _ _ _ _ => rfl) e1 e2, fun _ _ _ _ e1 e2 => bnd2 (fun _ _ _ _ _ _ _ _ _ _ _ _ _ => rfl) e1 e2, rfl, rfl, rfl, rfl, rfl, rfl, rfl, by decide +kernel, fun _ _ _ _ _ => ⟨_, rfl⟩, fun _ _ _ _ _ => rfl, fun _ _ _ _ _ => rfl⟩
theorem hasT11 : HasT (stI 11) := ⟨_, _, _, _, _, _, _, _, _, _, rfl, rfl, rfl, fun _ _ _ _ e1 e2 => bnd1 (fun _ _ _ _ _ _ _ _ _ _ _ _ _ => rfl) e1 e2, fun _ _ _ _ e1 e2 => bnd2 (fun _ _ _ _ _ _ _ _ _ _ _ _ _ => rfl) e1 e2, rfl, rfl, rfl, rfl, rfl, rfl, rfl, by decide +kernel, fun _ _ _ _ _ => ⟨_, rfl⟩, fun _ _ _ _ _ => rfl, fun _ _ _ _ _ => rfl⟩
theorem hasT12 : HasT (stI 12) := ⟨_, _, _, _, _, _, _, _, _, _, rfl, rfl, rfl, fun _ _ _ _ e1 e2 => bnd1 (fun _ _ _ _ _ _ _ _ _ _ _ _ _ => rfl) e1 e2, fun _ _ _ _ e1 e2 => bnd2 (fun _ _ _ _ _ _ _ _ _ _ _ _ _ => rfl) e1 e2, rfl, rfl, rfl, rfl, rfl, rfl, rfl, by decide +kernel, fun _ _ _ _ _ => ⟨_, rfl⟩, fun _ _ _ _ _ => rfl, fun _ _ _ _ _ => rfl⟩
theorem hasT13 : HasT (stI 13) := ⟨_, _, _, _, _, _, _, _, _, _, rfl, rfl, rfl, fun _ _ _ _ e1 e2 => bnd1 (fun _ _ _ _ _ _ _ _ _ _ _ _ _ => rfl) e1 e2, fun _ _ _ _ e1 e2 => bnd2 (fun _ _ _ _ _ _ _ _ _ _ _ _ _ => rfl) e1 e2, rfl, rfl, rfl, rfl, rfl, rfl, rfl, by decide +kernel, fun _ _ _ _ _ => ⟨_, rfl⟩, fun _ _ _ _ _ => rfl, fun _ _ _ _ _ => rfl⟩
theorem hasT14 : HasT (stI 14) := ⟨_, _, _, _, _, _, _, _, _, _, rfl, rfl, rfl, fun _ _ _ _ e1 e2 => bnd1 (fun _ _ _ _ _ _ _ _ _ _ _ _ _ => rfl) e1 e2, fun _ _ _ _ e1 e2 => bnd2 (fun _ _ _ _ _ _ _ _ _ _ _ _ _ => rfl) e1 e2, rfl, rfl, rfl, rfl, rfl, rfl, rfl, by decide +kernel, fun _ _ _ _ _ => ⟨_, rfl⟩, fun _ _ _ _ _ => rfl, fun _ _ _ _ _ => rfl⟩
theorem hasT15 : HasT (stI 15) := ⟨_, _, _, _, _, _, _, _, _, _, rfl, rfl, rfl, fun _ _ _ _ e1 e2 => bnd1 (fun _ _ _ _ _ _ _ _ _ _ _ _ _ => rfl) e1 e2, fun _ _ _ _ e1 e2 => bnd2 (fun _ _ _ _ _ _ _ _ _ _ _ _ _ => rfl) e1 e2, rfl, rfl, rfl, rfl, rfl, rfl, rfl, by decide +kernel, fun _ _ _ _ _ => ⟨_, rfl⟩, fun _ _ _ _ _ => rfl, fun _ _ _ _ _ => rfl⟩
theorem hasT16 : HasT (stI 16) := ⟨_, _, _, _, _, _, _, _, _, _, rfl, rfl, rfl, fun _ _ _ _ e1 e2 => bnd1 (fun _ _ _ _ _ _ _ _ _ _ _ _ _ => rfl) e1 e2, fun _ _ _ _ e1 e2 => bnd2 (fun _ _ _ _ _ _ _ _ _ _ _ _ _ => rfl) e1 e2, rfl, rfl, rfl, rfl, rfl, rfl, rfl, by decide +kernel, fun _ _ _ _ _ => ⟨_, rfl⟩, fun _ _ _ _ _ => rfl, fun _ _ _ _ _ => rfl⟩
theorem hasT17 : HasT (stI 17) := ⟨_, _, _, _, _, _, _, _, _, _, rfl, rfl, rfl, fun _ _ _ _ e1 e2 => bnd1 (fun _ _ _ _ _ _ _ _ _ _ _ _ _ => rfl) e1 e2, fun _ _ _ _ e1 e2 => bnd2 (fun _ _ _ _ _ _ _ _ _ _ _ _ _ => rfl) e1 e2, rfl, rfl, rfl, rfl, rfl, rfl, rfl, by decide +kernel, fun _ _ _ _ _ => ⟨_, rfl⟩, fun _ _ _ _ _ => rfl, fun _ _ _ _ _ => rfl⟩
theorem hasT18 : HasT (stI 18) := ⟨_, _, _, _, _, _, _, _, _, _, rfl, rfl, rfl, fun _ _ _ _ e1 e2 => bnd1 (fun _ _ _ _ _ _ _ _ _ _ _ _ _ => rfl) e1 e2, fun _ _ _ _ e1 e2 => bnd2 (fun _ _ _ _ _ _ _ _ _ _ _ _ _ => rfl) e1 e2, rfl, rfl, rfl, rfl, rfl, rfl, rfl, by decide +kernel, fun _ _ _ _ _ => ⟨_, rfl⟩, fun _ _ _ _ _ => rfl, fun _ _ _ _ _ => rfl⟩
theorem hasT19 : HasT (stI 19) := ⟨_, _, _, _, _, _, _, _, _, _, rfl, rfl, rfl, fun _ _ _ _ e1 e2 => bnd1 (fun _ _ _ _ _ _ _ _ _ _ _ _ _ => rfl) e1 e2, fun _ _ _ _ e1 e2 => bnd2 (fun _ _ _ _ _ _ _ _ _ _ _ _ _ => rfl) e1 e2, rfl, rfl, rfl, rfl, rfl, rfl, rfl, by decide +kernel, fun _ _ _ _ _ => ⟨_, rfl⟩, fun _ _ _ _ _ => rfl, fun _ _ _ _ _ => rfl⟩
theorem hasT20 : HasT (stI 20) := ⟨_, _, _, _, _, _, _, _, _, _, rfl, rfl, rfl, fun _ _ _ _ e1 e2 => bnd1 (fun _ _ _ _ _ _ _ _ _ _ _ _ _ => rfl) e1 e2, fun _ _ _ _ e1 e2 => bnd2 (fun _ _ _ _ _ _ _ _ _ _ _ _ _ => rfl) e1 e2, rfl, rfl, rfl, rfl, rfl, rfl, rfl, by decide +kernel, fun _ _ _ _ _ => ⟨_, rfl⟩, fun _ _ _ _ _ => rfl, fun _ _ _ _ _ => rfl⟩
theorem hasT21 : HasT (stI 21) := ⟨_, _, _, _, _, _, _, _, _, _, rfl, rfl, rfl, fun _ _ _ _ e1 e2 => bnd1 (fun _ _ _ _ _ _ _ _ _ _ _ _ _ => rfl) e1 e2, fun _ _ _ _ e1 e2 => bnd2 (fun _ _ _ _ _ _ _ _ _ _ _ _ _ => rfl) e1 e2, rfl, rfl, rfl, rfl, rfl, rfl, rfl, by decide +kernel, fun _ _ _ _ _ => ⟨_, rfl⟩, fun _ _ _ _ _ => rfl, fun _ _ _ _ _ => rfl⟩
theorem hasT22 : HasT (stI 22) := ⟨_, _, _, _, _, _, _, _, _, _, rfl, rfl, rfl, fun _ _ _ _ e1 e2 => bnd1 (fun _ _ _ _ _ _ _ _ _ _ _ _ _ => rfl) e1 e2, fun _ _ _ _ e1 e2 => bnd2 (fun _ _ _ _ _ _ _ _ _ _ _ _ _ => rfl) e1 e2, rfl, rfl, rfl, rfl, rfl, rfl, rfl, by decide +kernel, fun _ _ _ _ _ => ⟨_, rfl⟩, fun _ _ _ _ _ => rfl, fun _ _ _ _ _ => rfl⟩
theorem hasT23 : HasT (stI 23) := ⟨_, _, _, _, _, _, _, _, _, _, rfl, rfl, rfl, fun _ _ _ _ e1 e2 => bnd1 (fun _ _ _ _ _ _ _ _ _ _ _ _ _ => rfl) e1 e2, fun _ _ _ _ e1 e2 => bnd2 (fun _ _ _ _ _ _ _ _ _ _ _ _ _ => rfl) e1 e2, rfl, rfl, rfl, rfl, rfl, rfl, rfl, by decide +kernel, fun _ _ _ _ _ => ⟨_, rfl⟩, fun _ _ _ _ _ => rfl, fun _ _ _ _ _ => rfl⟩
theorem hasT24 : HasT (stI 24) := ⟨_, _, _, _, _, _, _, _, _, _, rfl, rfl, rfl, fun _ _ _ _ e1 e2 => bnd1 (fun _ _ _ _ _ _ _ _ _ _ _ _ _ => rfl) e1 e2, fun _ _ _ _ e1 e2 => bnd2 (fun _ _ _ _ _ _ _ _ _ _ _ _ _ => rfl) e1 e2, rfl, rfl, rfl, rfl, rfl, rfl, rfl, by decide +kernel, fun _ _ _ _ _ => ⟨_, rfl⟩, fun _ _ _ _ _ => rfl, fun _ _ _ _ _ => rfl⟩
theorem hasT25 : HasT (stI 25) := ⟨_, _, _, _, _, _, _, _, _, _, rfl, rfl, rfl, fun _ _ _ _ e1 e2 => bnd1 (fun _ _ _ _ _ _ _ _ _ _ _ _ _ => rfl) e1 e2, fun _ _ _ _ e1 e2 => bnd2 (fun _ _ _ _ _ _ _ _ _ _ _ _ _ => rfl) e1 e2, rfl, rfl, rfl, rfl, rfl, rfl, rfl, by decide +kernel, fun _ _ _ _ _ => ⟨_, rfl⟩, fun _ _ _ _ _ => rfl, fun _ _ _ _ _ => rfl⟩
theorem hasT26 : HasT (stI 26) := ⟨_, _, _, _, _, _, _, _, _, _, rfl, rfl, rfl, fun _ _ _ _ e1 e2 => bnd1 (fun _ _ _ _ _ _ _ _ _ _ _ _ _ => rfl) e1 e2, fun _ _ _ _ e1 e2 => bnd2 (fun _ _ _ _ _ _ _ _ _ _ _ _ _ => rfl) e1 e2, rfl, rfl, rfl, rfl, rfl, rfl, rfl, by decide +kernel, fun _ _ _ _ _ => ⟨_, rfl⟩, fun _ _ _ _ _ => rfl, fun _ _ _ _ _ => rfl⟩
theorem hasT27 : HasT (stI 27) := ⟨_, _, _, _, _, _, _, _, _, _, rfl, rfl, rfl, fun _ _ _ _ e1 e2 => bnd1 (fun _ _ _ _ _ _ _ _ _ _ _ _ _ => rfl) e1 e2, fun _ _ _ _ e1 e2 => bnd2 (fun _ _ _ _ _ _ _ _ _ _ _ _ _ => rfl) e1 e2, rfl, rfl, rfl, rfl, rfl, rfl, rfl, by decide +kernel, fun _ _ _ _ _ => ⟨_, rfl⟩, fun _ _ _ _ _ => rfl, fun _ _ _ _ _ => rfl⟩
theorem hasT28 : HasT (stI 28) := ⟨_, _, _, _, _, _, _, _, _, _, rfl, rfl, rfl, fun _ _ _ _ e1 e2 => bnd1 (fun _ _ _ _ _ _ _ _ _ _ _ _ _ => rfl) e1 e2, fun _ _ _ _ e1 e2 => bnd2 (fun _ _ _ _ _ _ _ _ _ _ _ _ _ => rfl) e1 e2, rfl, rfl, rfl, rfl, rfl, rfl, rfl, by decide +kernel, fun _ _ _ _ _ => ⟨_, rfl⟩, fun _ _ _ _ _ => rfl, fun _ _ _ _ _ => rfl⟩
theorem hasT29 : HasT (stI 29) := ⟨_, _, _, _, _, _, _, _, _, _, rfl, rfl, rfl, fun _ _ _ _ e1 e2 => bnd1 (fun _ _ _ _ _ _ _ _ _ _ _ _ _ => rfl) e1 e2, fun _ _ _ _ e1 e2 => bnd2 (fun _ _ _ _ _ _ _ _ _ _ _ _ _ => rfl) e1 e2, rfl, rfl, rfl, rfl, rfl, rfl, rfl, by decide +kernel, fun _ _ _ _ _ => ⟨_, rfl⟩, fun _ _ _ _ _ => rfl, fun _ _ _ _ _ => rfl⟩
theorem hasT30 : HasT (stI 30) := ⟨_, _, _, _, _, _, _, _, _, _, rfl, rfl, rfl, fun _ _ _ _ e1 e2 => bnd1 (fun _ _ _ _ _ _ _ _ _ _ _ _ _ => rfl) e1 e2, fun _ _ _ _ e1 e2 => bnd2 (fun _ _ _ _ _ _ _ _ _ _ _ _ _ => rfl) e1 e2, rfl, rfl, rfl, rfl, rfl, rfl, rfl, by decide +kernel, fun _ _ _ _ _ => ⟨_, rfl⟩, fun _ _ _ _ _ => rfl, fun _ _ _ _ _ => rfl⟩
theorem hasT31 : HasT (stI 31) := ⟨_, _, _, _, _, _, _, _, _, _, rfl, rfl, rfl, fun _ _ _ _ e1 e2 => bnd1 (fun _ _ _ _ _ _ _ _ _ _ _ _ _ => rfl) e1 e2, fun _ _ _ _ e1 e2 => bnd2 (fun _ _ _ _ _ _ _ _ _ _ _ _ _ => rfl) e1 e2, rfl, rfl, rfl, rfl, rfl, rfl, rfl, by decide +kernel, fun _ _ _ _ _ => ⟨_, rfl⟩, fun _ _ _ _ _ => rfl, fun _ _ _ _ _ => rfl⟩
theorem hasT32 : HasT (stI 32) := ⟨_, _, _, _, _, _, _, _, _, _, rfl, rfl, rfl, fun _ _ _ _ e1 e2 => bnd1 (fun _ _ _ _ _ _ _ _ _ _ _ _ _ => rfl) e1 e2, fun _ _ _ _ e1 e2 => bnd2 (fun _ _ _ _ _ _ _ _ _ _ _ _ _ => rfl) e1 e2, rfl, rfl, rfl, rfl, rfl, rfl, rfl, by decide +kernel, fun _ _ _ _ _ => ⟨_, rfl⟩, fun _ _ _ _ _ => rfl, fun _ _ _ _ _ => rfl⟩
theorem hasT33 : HasT (stI 33) := ⟨_, _, _, _, _, _, _, _, _, _, rfl, rfl, rfl, fun _ _ _ _ e1 e2 => bnd1 (fun _ _ _ _ _ _ _ _ _ _ _ _ _ => rfl) e1 e2, fun _ _ _ _ e1 e2 => bnd2 (fun _ _ _ _ _ _ _ _ _ _ _ _ _ => rfl) e1 e2, rfl, rfl, rfl, rfl, rfl, rfl, rfl, by decide +kernel, fun _ _ _ _ _ => ⟨_, rfl⟩, fun _ _ _ _ _ => rfl, fun _ _ _ _ _ => rfl⟩
theorem hasT34 : HasT (stI 34) := ⟨_, _, _, _, _, _, _, _, _, _, rfl, rfl, rfl, fun _ _ _ _ e1 e2 => bnd1 (fun _ _ _ _ _ _ _ _ _ _ _ _ _ => rfl) e1 e2, fun _ _ _ _ e1 e2 => bnd2 (fun _ _ _ _ _ _ _ _ _ _ _ _ _ => rfl) e1 e2, rfl, rfl, rfl, rfl, rfl, rfl, rfl, by decide +kernel, fun _ _ _ _ _ => ⟨_, rfl⟩, fun _ _ _ _ _ => rfl, fun _ _ _ _ _ => rfl⟩
theorem hasT35 : HasT (stI 35) := ⟨_, _, _, _, _, _, _, _, _, _, rfl, rfl, rfl, fun _ _ _ _ e1 e2 => bnd1 (fun _ _ _ _ _ _ _ _ _ _ _ _ _ => rfl) e1 e2, fun _ _ _ _ e1 e2 => bnd2 (fun _ _ _ _ _ _ _ _ _ _ _ _ _ => rfl) e1 e2, rfl, rfl, rfl, rfl, rfl, rfl, rfl, by decide +kernel, fun _ _ _ _ _ => ⟨_, rfl⟩, fun _ _ _ _ _ => rfl, fun _ _ _ _ _ => rfl⟩
theorem hasT : ∀ i, i < 36 → HasT (stI i)
  | 0, _ => hasT0
  | 1, _ => hasT1
  | 2, _ => hasT2
  | 3, _ => hasT3
  | 4, _ => hasT4
  | 5, _ => hasT5
  | 6, _ => hasT6
  | 7, _ => hasT7
  | 8, _ => hasT8
  | 9, _ => hasT9
  | 10, _ => hasT10
  | 11, _ => hasT11
  | 12, _ => hasT12
  | 13, _ => hasT13
  | 14, _ => hasT14
  | 15, _ => hasT15
  | 16, _ => hasT16
  | 17, _ => hasT17
  | 18, _ => hasT18
  | 19, _ => hasT19
  | 20, _ => hasT20
  | 21, _ => hasT21
  | 22, _ => hasT22
  | 23, _ => hasT23
  | 24, _ => hasT24
  | 25, _ => hasT25
  | 26, _ => hasT26
  | 27, _ => hasT27
  | 28, _ => hasT28
  | 29, _ => hasT29
  | 30, _ => hasT30
  | 31, _ => hasT31
  | 32, _ => hasT32
  | 33, _ => hasT33
  | 34, _ => hasT34
  | 35, _ => hasT35
  | n + 36, h => absurd h (by omega)
theorem mem_zi {Cs : List Addr} {i : Nat} {D : Addr} (h : Cs[i]? = some D) : (D, i) ∈ Cs.zipIdx := by
  rw [List.mem_iff_getElem?]
  exact ⟨i, by simp [List.getElem?_zipIdx, h]⟩
section
variable {K : PySem.W.Frag} {h : Heap} {mg : Str → Option Value}
theorem aCs_at {i : Nat} (hi : i < 36) : (aCs K)[i]? = some (aC K i) := by
  unfold aCs aC
  rw [List.getElem?_map]
  have e : errNames[i]? = some (errNames.getD i "") := by
    have l : i < errNames.length := hi
    rw [List.getD_eq_getElem?_getD, List.getElem?_eq_getElem l]
    rfl
  rw [e]
  rfl
theorem errs_of (KX : K.In h) (G : h.Ns mainGlobals mg) (c : He.SaysD facts defs K) (ex : exB K = true) (iw : insW K = insV) : Errs theRow.prog K mg (aT K) (aI K (aT K)) (aC K) (fun i => aI K (aC K i)) := by
  obtain ⟨e1, ex⟩ := and2 ex
  obtain ⟨e2, ex⟩ := and2 ex
  obtain ⟨e3, ex⟩ := and2 ex
  obtain ⟨e4, e5⟩ := and2 ex
  have iw1 : inW K (aI K (aT K)) = inV (inClass (top 1) 0) := (List.cons.inj iw).1
  have iw2 : ∀ i, i < 36 → inW K (aI K (aC K i)) = inV (stI i) := fun i hi => by
    have z := congrArg (fun l : List InW => l[i]?) (List.cons.inj iw).2
    simp only [List.getElem?_map, List.getElem?_range hi, Option.map_some] at z
    exact Option.some.inj z
  have each : ∀ i, i < 36 → _ := fun i hi => List.all_eq_true.mp e5 i (List.mem_range.mpr hi)
  have kits : ∀ i, i < 36 → _ := fun i hi => List.all_eq_true.mp e4 _ (mem_zi (aCs_at (K := K) hi))
  have both : ∀ i, i < 36 → ErrC theRow.prog K (aT K) (aI K (aT K)) (aC K i) (aI K (aC K i)) ∧ ErrI K (aC K i) := fun i hi => by
    obtain ⟨b1, b⟩ := and2 (each i hi)
    obtain ⟨b2, b3⟩ := and2 b
    have hc : (PySem.W.clsIn K (aC K i)).isSome = true := by
      unfold clsB at b1
      simp only [Bool.and_eq_true] at b1
      exact b1.2.2.2.2.2.2.2.2.2.2.2.2.2.2.2.2.2.2
    obtain ⟨cda, cc, qual, dV, I, z, _⟩ := initFn_of (iw2 i hi) b2 hc
    obtain rfl := z rfl
    obtain ⟨text, j, q0, q1, q2, q3, q4, q5, q6, ar, S⟩ := hasT i hi
    exact err_mk e1 b1 (sub_of S I)
  refine ⟨?_, fun i hi => (both i hi).1, fun i hi => (both i hi).2, fun i hi => ?_, fun i hi j hj => ?_, fun i hi => ?_, fun i hi => ?_, He.glo_ok KX G (c.fact 8 (f := .glo "ThinError") rfl), He.free_ok KX G (c.fact 19 (f := .free "ValueError") rfl), He.free_ok KX G (c.fact 15 (f := .free "isinstance") rfl)⟩
  · obtain ⟨cda, cc, qual, dV, I, _, z⟩ := initFn_of iw1 e3 e2
    obtain ⟨Td, oc1, od1, d0, n1, sl1, rfl, lt⟩ := z rfl
    exact thin_mk e1 I lt (He.free_ok KX G (c.fact 20 (f := .free "super") rfl)) (by decide +kernel)
  · obtain ⟨b1, b⟩ := and2 (each i hi)
    obtain ⟨b2, b3⟩ := and2 b
    exact PySem.W.mg_of KX G (He.eqO_ok b3)
  · obtain ⟨k1, k⟩ := and2 (kits i hi)
    obtain ⟨k2, k3⟩ := and2 k
    exact of_decide_eq_true (List.all_eq_true.mp k3 _ (mem_zi (aCs_at (K := K) hj)))
  · obtain ⟨k1, k⟩ := and2 (kits i hi)
    exact of_decide_eq_true k1
  · obtain ⟨k1, k⟩ := and2 (kits i hi)
    obtain ⟨k2, k3⟩ := and2 k
    exact of_decide_eq_true k2
end
end TP
end
set_option Elab.async false
set_option linter.all false
set_option maxRecDepth 100000
set_option maxHeartbeats 4000000
namespace TP
open PySem PySem.Spec PyProof.Rows L2 TPX
theorem fun_of {K : PySem.W.Frag} {st : Stmt} {x q : Str} {f : Addr} {fd : FuncData} (F : FunD K x q (defArgs st) (defBody st) (defScope st) [] [] f fd) : Fun K x q st f fd := by
  obtain ⟨oc, od, dV, kV, doc, pm, an, cdv, ct, osl, e, lk, hcd, hd, _⟩ := F.ex
  rcases hd with ⟨_, rfl⟩ | ⟨z, _⟩
  · exact ⟨⟨oc, od, kV, doc, pm, an, cdv, ct, osl, e, lk, hcd⟩, F.kp⟩
  · exact absurd rfl z
theorem law_of {w : World} {K : PySem.W.Frag} {h : Heap} {mg : Str → Option Value} {f : Addr} (KX : K.In h) (G : h.Ns mainGlobals mg) (c : He.SaysD facts defs K) (ex : exB K = true) (iw : insW K = insV) (hf : mg ("law" : Str) = some (.ref f)) :
    ∃ fd : FuncData, (∀ (s : Shared) (v : Value), BindsTo s fd ⟨[v], []⟩ [("_law_script", v)]) ∧ ∀ base : Heap, K.In base → base.Ns mainGlobals mg → FnG theRow.prog w K mg base 5 f fd ["_law_script"] (spLaw K) := by
  have T := errs_of KX G c ex iw
  obtain ⟨fd0, F0⟩ := c.def_ 0 (d := dOf "_law_take" 39) rfl
  obtain ⟨fd1, F1⟩ := c.def_ 1 (d := dOf "_law_of" 40) rfl
  obtain ⟨fd2, F2⟩ := c.def_ 2 (d := dOf "_law_pot_of" 41) rfl
  obtain ⟨fd3, F3⟩ := c.def_ 3 (d := dOf "_law_odd" 42) rfl
  obtain ⟨fd4, F4⟩ := c.def_ 4 (d := dOf "_law_made" 43) rfl
  obtain ⟨fd5, F5⟩ := c.def_ 5 (d := dOf "_law_sorts" 44) rfl
  obtain ⟨fd6, F6⟩ := c.def_ 6 (d := dOf "_law_right" 45) rfl
  obtain ⟨fd7, F7⟩ := c.def_ 7 (d := dOf "law" 46) rfl
  have g0 := He.glo_ok KX G (c.fact 0 (f := .glo "_law_take") rfl)
  have g1 := He.glo_ok KX G (c.fact 1 (f := .glo "_law_of") rfl)
  have g2 := He.glo_ok KX G (c.fact 2 (f := .glo "_law_pot_of") rfl)
  have g3 := He.glo_ok KX G (c.fact 3 (f := .glo "_law_odd") rfl)
  have g4 := He.glo_ok KX G (c.fact 4 (f := .glo "_law_made") rfl)
  have g5 := He.glo_ok KX G (c.fact 5 (f := .glo "_law_sorts") rfl)
  have g6 := He.glo_ok KX G (c.fact 6 (f := .glo "_law_right") rfl)
  have g7 := He.glo_ok KX G (c.fact 7 (f := .glo "law") rfl)
  have e := hf.symm.trans g7
  cases e
  have nI := He.free_ok KX G (c.fact 9 (f := .free "int") rfl)
  have nA := He.free_ok KX G (c.fact 10 (f := .free "abs") rfl)
  have nL := He.free_ok KX G (c.fact 11 (f := .free "len") rfl)
  have nR := He.free_ok KX G (c.fact 12 (f := .free "range") rfl)
  have nE := He.free_ok KX G (c.fact 13 (f := .free "enumerate") rfl)
  have nP := He.free_ok KX G (c.fact 14 (f := .free "repr") rfl)
  have nX := He.free_ok KX G (c.fact 16 (f := .free "max") rfl)
  have nN := He.free_ok KX G (c.fact 17 (f := .free "min") rfl)
  have nZ := He.free_ok KX G (c.fact 18 (f := .free "all") rfl)
  have b0 : Binds K fd0 ["_law_pot", "_law_upto"] [] := FunD.bindsN F0 fun _ _ _ _ _ _ us hl => match us, hl with | [_, _], _ => rfl
  have b1 : Binds K fd1 ["_law_pot", "_law_some"] [] := FunD.bindsN F1 fun _ _ _ _ _ _ us hl => match us, hl with | [_, _], _ => rfl
  have b2 : Binds K fd2 ["_law_script", "_law_k"] [] := FunD.bindsN F2 fun _ _ _ _ _ _ us hl => match us, hl with | [_, _], _ => rfl
  have b3 : Binds K fd3 ["_law_pot"] [] := FunD.bindsN F3 fun _ _ _ _ _ _ us hl => match us, hl with | [_], _ => rfl
  have b4 : Binds K fd4 ["_law_thing"] [] := FunD.bindsN F4 fun _ _ _ _ _ _ us hl => match us, hl with | [_], _ => rfl
  have b5 : Binds K fd5 ["_law_one"] [] := FunD.bindsN F5 fun _ _ _ _ _ _ us hl => match us, hl with | [_], _ => rfl
  have b6 : Binds K fd6 ["_law_pot"] [] := FunD.bindsN F6 fun _ _ _ _ _ _ us hl => match us, hl with | [_], _ => rfl
  have b7 := FunD.bindsA (ps := ["_law_script"]) F7 fun _ _ _ _ _ _ us hl => match us, hl with | [_], _ => rfl
  refine ⟨fd7, fun s v => b7 s [v] rfl, fun base _ _ => ?_⟩
  have O0 := ok_take (P := theRow.prog) (w := w) (base := base) (fun_of F0) nI
  have O1 := ok_of (P := theRow.prog) (w := w) (base := base) (fun_of F1) O0 b0 g0 F0.kp nL
  have O2 := ok_potOf (P := theRow.prog) (w := w) (base := base) (fun_of F2) nI nA nL
  have O3 := ok_odd (P := theRow.prog) (w := w) (base := base) (fun_of F3) O1 b1 g1 F1.kp nR
  have O4 := ok_made (P := theRow.prog) (w := w) (base := base) (fun_of F4) T
  have O5 := ok_sorts (P := theRow.prog) (w := w) (base := base) (fun_of F5) T
  have O6 := ok_right (P := theRow.prog) (w := w) (base := base) (fun_of F6) T O3 b3 g3 F3.kp O4 b4 g4 F4.kp O5 b5 g5 F5.kp nE nR nL nP
  exact ok_law (fun_of F7) O2 b2 g2 F2.kp O6 b6 g6 F6.kp nR nL nX nN nZ
theorem walk_ofGE {l : PySem.W.OpenLaw} {n k : Nat} {q : Program} {loose : List Str} {XP : (Str → Option Value) → Heap → Prop} {YP : World → Heap → Prop} {d : DefRec} {x : Str}
    (hn : l.most = some n) (hn2 : n ≤ sizeLine) (hdf : d.params.defaults = []) (hr : Room k callerA)
    (F : ∀ (w : World) (mg : Str → Option Value) (fa : Addr) (h : Heap), YP w h → h.Ns mainGlobals mg → mg d.name = some (.ref fa) →
      ∃ (K : PySem.W.Frag) (fd : FuncData) (sp : Sp), K.In h ∧ (∀ (s : Shared) (u : Value), BindsTo s fd ⟨[u], []⟩ [(x, u)]) ∧
        (∀ (H : Hp) (a : Addr) (ns : List Int), ns.length ≤ n → Only H → SqL K H a (ns.map V.int) → sp [.ref a] H (fun v _ => v = .bl true) fun _ _ _ => False) ∧
        ∀ base : Heap, K.In base → base.Ns mainGlobals mg → FnG l.prog w K mg base k fa fd [x] sp) :
    PySem.W.WalkO q loose XP YP l.row.toRowW d [] (fun f vs => PySem.call f vs) := by
  refine Att.attach_call hn hdf fun w s₀ s₁ mg mb fa o pm cd doc a vs ns G Y ho hd hcd hmg hobj hints hlen hg => ?_
  obtain ⟨K, fd, sp, KX, hb, hsp, hF⟩ := F w mg fa _ Y G.T.g hmg
  exact law_callG KX G.T.g G.T.b G.T.builtins G.T.nolimit hg hobj hints (Nat.le_trans hlen hn2) hr hF hb fun H z1 z2 => hsp H a ns hlen z1 z2
end TP
open PySem PySem.W PySem.Calls PyProof.Rows
set_option maxHeartbeats 0 in
theorem PySem.Challenge.cw_thinnedpast_k59_errors_with_any_value_holds : PySem.Challenge.rw_thinnedpast_k59_errors_with_any_value.Holds := by
  w_on; o_law
  refine HandSHeadRun.head_any (r := TP.theRow) (q := view TP.theRow.prog [46]) (H := TP.hook) (ob := TP.ob) (M := 12000) (loose := TP.loose) (d := HandSHeadRun.topDef TP.theRow.prog 46) (kwd := []) TP.ob_eq
    (by kernel_rfl) (fun s => by kernel_rfl) TP.run (by kernel_rfl) (by kernel_rfl) (by kernel_rfl) (by rfl) (by first | assumption | decide +kernel) (by decide +kernel) ⟨rfl, rfl, rfl, rfl, rfl, by decide +kernel⟩ ?hw ?hc
  case hw => w_witness2
  case hc =>
    refine TP.walk_ofGE (l := PySem.Challenge.rw_thinnedpast_k59_errors_with_any_value) (n := 63) (k := 5) (x := "_law_script") rfl (by decide) (by kernel_rfl) ⟨rfl, by decide, by decide⟩ ?F
    intro w mg fa h Y G hmg0
    obtain ⟨K, KX, c, ex, iw⟩ := Y
    have hmg : mg ("law" : PySem.Str) = some (.ref fa) := by
      have e : (HandSHeadRun.topDef TP.theRow.prog 46).name = ("law" : PySem.Str) := by kernel_rfl
      rw [← e]
      exact hmg0
    obtain ⟨fd, hb, hF⟩ := TP.law_of (w := w) KX G c ex iw hmg
    exact ⟨K, fd, TP.spLaw K, KX, hb, fun H a ns hl _ hS => ⟨a, ns, rfl, hS, hl, fun _ => rfl⟩, hF⟩
