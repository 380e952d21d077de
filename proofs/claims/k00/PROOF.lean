import PyProof.Rows.All
import Wide.All
import OpenK.AllK
import Wide.FinOn
import HandS.ForExc
import HandS.ExcInit
import HandS.TryMany
import HandS.ExcIs
import HandS.ExcField
import HandS.Head2
import HandS.HeadEnd
import HandS.HeadHook2
import HandS.HotCalls
import HandS.Defaults
import HandS.ForMost
import KE.KExcSuper
import KE.KExcIs
import PyProof.ReprRoads
import PySem.Challenge.RW_treewrought_k00_errors_and_limits
set_option Elab.async false
set_option linter.all false
set_option maxRecDepth 100000
set_option maxHeartbeats 4000000
/-! exceptions of the program's own whose __init__ (their own or a base's) says super().__init__(..) and then stores fields -/
namespace PySem
namespace SupX
open PySem.W PySem.Calls PyProof.Rows PySem.HandSPX
/-- what the written part says of the class at C whose __init__ was written in the class at D -/
structure SupC (prog : Program) (K : Frag) (C D cda cc : Addr) : Prop where
  cls : ∃ nm q N bs bm sn sub ab col dd k0 k1 k2 k3 k5, K.lookup C = some (excClassObj nm q C N bs bm true sn sub ab col dd k0 k1 k2 k3 k5 "ValueError.__new__") ∧ refsVE bm = true
  sa : findIn K (.ref C) "__setattr__" = some (some (.builtin "object.__setattr__"))
  code : ∃ ccl cdd vs ccs file tf, K.lookup cda = some ⟨ccl, cdd, .fields vs, ccs⟩ ∧ vs[2]? = some (.str file tf) ∧ ((prog.main.file : Str) == file) = true
  cell : ∃ cl cld csl, K.lookup cc = some ⟨cl, cld, .cell (some (.ref D)), csl⟩
  hD : ∃ cdD, clsIn K D = some cdD
  sub : mroIn K C (.ref D) = some true
  nsup : nsIn K mainGlobals "super" = some none
  any : nsIn K cStatics "thirdparty.any" = some none
  along : ks_superIn K C D "__init__" = some (some (.builtin "ValueError.__init__"))
  ve : subIn K (.ref C) (.type "ValueError") = some true
section
variable {prog : Program} {w : World} {A : Around} {E : Value → Shared → Prop} {s : Shared} {K : Frag} {mg : Str → Option Value} {base : Heap} {C D cda cc fI x t0 L : Addr} {m : Str → Option Value}
theorem sup_stmt {body : List Stmt} {q : Str} {scope : Scope} {p0 p1 p2 p4 p5 : Pos} {e : Expr} {es : List Expr} {us : List Value} {oc : Value} {od : Option Addr} {fd : FuncData} {osl : Array (Option Value)} {ar : Arg} {Q : Flow → Shared → Prop}
    (Md : L2.Mod K mg base) (kb : ∀ b o, base.get? b = some o → s.heap.get? b = some o)
    (T : SupC prog K C D cda cc) (hfI : K.lookup fI = some ⟨oc, od, .func fd, osl⟩) (hp : (fd.params.posonlyargs ++ fd.params.args).head? = some ar) (har : ar.arg = "self")
    (hn : s.heap.Ns L m) (hself : m "self" = some (.ref x)) (hx : s.heap.get? x = some (excO C t0))
    (hk : scope.kind = .function) (hks : scope.names.lookup ("super" : Str) = some .globalImplicit) (hkc : scope.names.lookup ("__class__" : Str) = some .free) (hka : scope.names.lookup ("self" : Str) = some .local)
    (htop : (prog.main.scope.names.lookup ("super" : Str)).isSome = false) (hus : us.length ≤ sizeLine)
    (hargs : ∀ (s' : Shared) (R : List Value → Shared → Prop), (∀ b o, s.heap.get? b = some o → s'.heap.get? b = some o) → R us s' → wpAny (model prog w) A (spliced (backTo p4 (starEach (e :: es) (ksEnv q scope L fI (.ref cda) cc)))) R E s')
    (he : starEach (e :: es) (ksEnv q scope L fI (.ref cda) cc) = (false, eval e (ksEnv q scope L fI (.ref cda) cc)) :: starEach es (ksEnv q scope L fI (.ref cda) cc)) (hpl : (backTo p4 (starEach es (ksEnv q scope L fI (.ref cda) cc))).any (·.1) = false)
    (hi : interactive (ksEnv q scope L fI (.ref cda) cc) = false) (hs : swapsWith (.Call (.Attribute (.Call (.Name "super" p0) [] [] p1) "__init__" p2) (e :: es) [] p4) none p5.line (ksEnv q scope L fI (.ref cda) cc) = pure false)
    (hcall : ∃ pl : Sem Bool, eval (.Call (.Attribute (.Call (.Name "super" p0) [] [] p1) "__init__" p2) (e :: es) [] p4) (ksEnv q scope L fI (.ref cda) cc) = (do
      let ov ← attributeBase (.Call (.Name "super" p0) [] [] p1) "__init__" (ksEnv q scope L fI (.ref cda) cc) (eval (.Call (.Name "super" p0) [] [] p1) (ksEnv q scope L fI (.ref cda) cc))
      standAt p2.atName
      let (f, first) ← holding [ov] (getMethod ov "__init__" pl)
      callWith p4 f first (backTo p4 (starEach (e :: es) (ksEnv q scope L fI (.ref cda) cc))) []))
    (h : ∀ h' tk t1, (∀ b o, b ≠ x → s.heap.get? b = some o → h'.get? b = some o) → h'.get? x = some (excO C t1) → Q .next { s with heap := h', toks := tk }) :
    _root_.PySem.wpAt (model prog w) A (.func body (ksEnv q scope L fI (.ref cda) cc)) (exec (.Expr (.Call (.Attribute (.Call (.Name "super" p0) [] [] p1) "__init__" p2) (e :: es) [] p4) p5) (ksEnv q scope L fI (.ref cda) cc)) Q E s := by
  obtain ⟨nm, qn, N, bs, bm, sn, sub, ab, col, dd, k0, k1, k2, k3, k5, hC, hbm⟩ := T.cls
  obtain ⟨ccl, cdd, vs, ccs, file, tf, hcode, hvs, hfile⟩ := T.code
  obtain ⟨cl, cld, csl, hcell⟩ := T.cell
  obtain ⟨cdD, hD⟩ := T.hD
  obtain ⟨mb, hb1, hb2⟩ := Md.blt
  obtain ⟨pl, hcall⟩ := hcall
  have X : K.In s.heap := Md.kin.keeps kb
  obtain ⟨hh, g, d, t, os⟩ := s
  have I : InstAt hh x (excO C t0) C none := ⟨hx, rfl, rfl, trivial⟩
  obtain ⟨oD, hD1, hD2⟩ : ∃ oD, hh.get? D = some oD ∧ oD.data = .cls cdD := by
    unfold clsIn at hD
    split at hD
    · rename_i c d cd' sl ho
      cases hD
      exact ⟨_, X _ _ ho, rfl⟩
    · cases hD
  refine ks_wpAt_Expr_any ?_ hi hs
  refine ks_wpAt_MethodCall (pl := pl) ?_ hcall
  refine ks_wpAt_super_base (env := ksEnv q scope L fI (.ref cda) cc) hks hkc (by decide) rfl (X _ _ hfI) rfl hp rfl (X _ _ hcode) rfl hvs hfile htop ?_
  refine ks_loadName_global hk hks (loadGlobal_builtin (env := ksEnv q scope L fI (.ref cda) cc) (Md.glob.keeps kb) (mg_none_of Md.kin Md.glob T.nsup) (hb1.keeps kb) ((hb2 _ (by decide)).trans (by decide +kernel)) ⟨rfl, ?_⟩)
  refine wpAny_loadName_free hk hkc rfl ⟨_, X _ _ hcell, rfl⟩ ?_
  rw [har]
  refine wpAny_loadName_local hk hka hn hself ?_
  refine ks_wpAny_isType_cls hD1 hD2 ⟨rfl, ?_⟩
  refine ks_wpAny_call_super hD1 hD2 I.at_ I.cls (fun c e => ?_) (looks_mroIn X T.sub) (fun h1 e1 kk1 => ?_)
  · have := I.no
    unfold notCls at this
    rw [e] at this
    exact Bool.noConfusion this
  -- the bound __init__
  have X1 : K.In h1 := X.keeps kk1
  have I1 : InstAt h1 x (excO C t0) C none := ⟨kk1 _ _ hx, rfl, rfl, trivial⟩
  have hI1 : Looks (model prog w) h1 (isInstance (.ref x) (.type "ValueError")) true := I1.type.andThen (looks_subIn X1 T.ve)
  cases hc : clsIn K C with
  | none =>
    have hm := T.along
    unfold ks_superIn at hm
    rw [hc] at hm
    cases hm
  | some cd =>
    have hm := T.along
    unfold ks_superIn at hm
    rw [hc] at hm
    refine kxs_getMethod kxs_ValueError e1 (looks_opaque X1 T.any) (l₀ := cd.mro) (fun A Q E s k q => wpAny_bind ((looks_clsIn X1 hc) A _ E s k (wpAny_pure q))) rfl X1 hm hI1 (ks_ne X1 I1 hc) (by decide) ?_
    have up : ∀ b o, hh.get? b = some o → (h1.push (kxs_mw "ValueError.__init__" x)).get? b = some o := fun b o q => Heap.get?_push_of_some _ (kk1 b o q)
    have hu : (h1.push (kxs_mw "ValueError.__init__" x)).get? h1.objs.size = some (kxs_mw "ValueError.__init__" x) := Heap.get?_push_at rfl rfl
    rw [he]
    refine kxs_callWith (i := "ValueError.__init__") (x := x) (by show (false || (backTo p4 (starEach es _)).any (·.1)) = false; rw [hpl]; rfl) ?_
    refine evalArgs_plain ?_
    have ha := hargs ⟨h1.push (kxs_mw "ValueError.__init__" x), g, d, t + 1, os⟩ (fun vs s₁ => KxsAt "ValueError.__init__" h1.objs.size x s₁.heap ∧ wpAny (model prog w) A (call (.ref h1.objs.size) ([] ++ vs) []) (fun _ => Q .next) E s₁) up ⟨hu, ?_⟩
    · rw [he] at ha
      exact ha
    · show wpAny _ _ (call (.ref h1.objs.size) us) _ _ _
      refine wpAny_call (codeAny_of_tree ?_)
      show wpAny _ A.in1 (callAny (.ref h1.objs.size) ⟨us, []⟩) _ _ _
      simp only [callAny]
      refine wpAny_bind (wpAny_load hu ?_)
      simp only [kxs_mw, show (Value.type "method-wrapper" == Value.type "method" || Value.type "method-wrapper" == Value.type "builtin_function_or_method" || Value.type "method-wrapper" == Value.type "method-wrapper") = true by decide, if_true]
      refine KFB.if_so (by decide) ?_
      refine wpAny_bind (check_bound_init (PySem.F.excBase_ValueError).toExcCallFacts (up _ _ (X _ _ hC)) (up _ _ hx) rfl ?_)
      refine wpAny_bind (wpAny_pure (wpAny_pure ?_))
      refine ⟨plainId_quiet (PySem.F.excBase_ValueError).init.plain _, codeAny_builtin (PySem.F.excBase_ValueError).initEntry ?_⟩
      refine exc_init_tree (cls := .ref C) (t0 := t0) (dv := none) (c2 := .none) (c3 := .none) (b4 := .bool false) (up _ _ hx) hus (fun h' k hx' ht' => ?_)
      exact h h' _ _ (fun b o hb q => k b o hb (up b o q)) hx'
end
end SupX
end PySem
set_option Elab.async false
set_option linter.all false
set_option maxRecDepth 100000
set_option maxHeartbeats 4000000
namespace PySem
namespace SupX
open PySem.W PySem.Calls PyProof.Rows PySem.HandSPX
abbrev supS (f : List Expr) (p0 p1 p2 p4 p5 : Pos) : Stmt := .Expr (.Call (.Attribute (.Call (.Name "super" p0) [] [] p1) "__init__" p2) f [] p4) p5
abbrev stS (f : Str) (q1 q2 q3 q4 : Pos) : Stmt := .Assign [.Attribute (.Name "self" q1) f q2] (.Name f q3) q4
/-- how the call of super().__init__ is read -/
def CallsSup (es : List Expr) (p0 p1 p2 p4 : Pos) (env : Env) : Prop := ∃ pl : Sem Bool, eval (.Call (.Attribute (.Call (.Name "super" p0) [] [] p1) "__init__" p2) es [] p4) env = (do
      let ov ← attributeBase (.Call (.Name "super" p0) [] [] p1) "__init__" env (eval (.Call (.Name "super" p0) [] [] p1) env)
      standAt p2.atName
      let (f, first) ← holding [ov] (getMethod ov "__init__" pl)
      callWith p4 f first (backTo p4 (starEach es env)) [])
/-- what __init__ leaves of a fresh exception at x: its dict at dx with the map mA -/
structure InitEnd (h h' : Heap) (x C dx t1 : Addr) (mA : Str → Option Value) : Prop where
  keep : ∀ b o, b ≠ x → h.get? b = some o → h'.get? b = some o
  obj : h'.get? x = some { cls := .ref C, dict := some dx, data := .fields #[.ref t1, .none, .none, .none, .bool false, .none] }
  dbig : h.objs.size ≤ dx
  dne : dx ≠ x
  ns : h'.Ns1 dx mA
theorem ldK {M : Model} {s : Shared} {name : Str} {scope : Scope} {L a : Addr} {cd : Value} {cc : Addr} {m : Str → Option Value} {x : Str} {pos : Pos} {v : Value} {Q : Value → Shared → Prop} {A : Around} {E : Value → Shared → Prop} (hn : s.heap.Ns L m) (hv : m x = some v) (h : Q v s)
    (hk : scope.kind = .function) (hl : scope.names.lookup x = some .local) (hd : (x == ("__debug__" : Str)) = false) :
    wpAny M A (eval (.Name x pos) (ksEnv name scope L a cd cc)) Q E s := wpAny_Name (wpAny_loadName_local hk hl hn hv h) hd
section
variable {prog : Program} {w : World} {A : Around} {E : Value → Shared → Prop} {R : Result → Shared → Prop} {s : Shared} {K : Frag} {mg : Str → Option Value} {base : Heap} {C D cda cc fI x t0 : Addr}
variable {oc : Value} {od : Option Addr} {osl : Array (Option Value)} {q : Str} {params : Arguments} {scope : Scope} {dV kV doc pm ct : Value} {an : Option Addr} {p0 p1 p2 p4 p5 n1 n2 q1 q2 q3 q4 r1 r2 r3 r4 : Pos} {ar : Arg} {f g : Str} {v u : Value}
/-- def __init__(self, f): super().__init__(f); self.f = f -/
theorem init1 (Md : L2.Mod K mg base) (kb : ∀ b o, base.get? b = some o → s.heap.get? b = some o) (hnx : base.get? x = none) (T : SupC prog K C D cda cc)
    (ho : K.lookup fI = some ⟨oc, od, .func (ksFn "__init__" q params [supS [.Name f n1] p0 p1 p2 p4 p5, stS f q1 q2 q3 q4] scope dV kV doc pm an (.ref cda) ct cc), osl⟩) (hcd : codeIn K (.ref cda) q = true)
    (hp : (params.posonlyargs ++ params.args).head? = some ar) (har : ar.arg = "self")
    (hbind : ∀ s', BindsTo s' (ksFn "__init__" q params [supS [.Name f n1] p0 p1 p2 p4 p5, stS f q1 q2 q3 q4] scope dV kV doc pm an (.ref cda) ct cc) ⟨[.ref x, v], []⟩ [("self", .ref x), (f, v)])
    (hk : scope.kind = .function) (hco : scope.isCoroutine = false) (hgen : scope.isGenerator = false) (hcell : ∀ x ∈ scope.names, x.2 ≠ .cell)
    (hks : scope.names.lookup ("super" : Str) = some .globalImplicit) (hkc : scope.names.lookup ("__class__" : Str) = some .free) (hka : scope.names.lookup ("self" : Str) = some .local) (hkf : scope.names.lookup f = some .local)
    (hcl : ∀ L, CallsSup [.Name f n1] p0 p1 p2 p4 (ksEnv q scope L fI (.ref cda) cc)) (hfs : f ≠ "self") (hfd : (f == ("__debug__" : Str)) = false) (htop : (prog.main.scope.names.lookup ("super" : Str)).isSome = false) (hno : findIn K (.ref C) f = some none)
    (hx : s.heap.get? x = some (excO C t0)) (hroom : A.depth < recursionLimit)
    (hq : ∀ h' tk dx t1, InitEnd s.heap h' x C dx t1 (fun y => if y = f then some v else none) → R (.ok (.ret .none)) { s with heap := h', toks := tk }) :
    codeAny (model prog w) A (.call (.ref fI) ⟨[.ref x, v], []⟩) R s := by
  obtain ⟨nm, qn, N, bs, bm, sn, sub, ab, col, dd, k0, k1, k2, k3, k5, hC, hbm⟩ := T.cls
  have hcC : clsIn K C = some { name := nm, bases := bs, mro := .ref C :: bm, ns := N, qualname := qn, hasDict := true, slotNames := sn, subclasses := sub, abstract := ab, collection := col, hasDel := false } := by unfold clsIn; rw [hC] <;> rfl
  have X : K.In s.heap := Md.kin.keeps kb
  refine ks_codeAny_call_defAt (fd := ksFn "__init__" q params [supS [.Name f n1] p0 p1 p2 p4 p5, stS f q1 q2 q3 q4] scope dV kV doc pm an (.ref cda) ct cc) hroom (X _ _ ho) rfl (Md.nolimit.keeps kb) (codeRec_of X hcd) rfl (hbind s) hcell ?_ ?_ hco hgen hk
  · intro y hy
    rcases List.mem_cons.mp hy with rfl | hy
    · exact hka
    · rcases List.mem_cons.mp hy with rfl | hy
      · exact hkf
      · cases hy
  · intro h₀ hn k
    have hself : ([("self", Value.ref x), (f, v)] : List (Str × Value)).reverse.lookup ("self" : Str) = some (.ref x) := by
      have e : (("self" : Str) == f) = false := by simpa using Ne.symm hfs
      simp [List.lookup, e]
    have hfv : ([("self", Value.ref x), (f, v)] : List (Str × Value)).reverse.lookup f = some v := by simp [List.lookup]
    have hxL : s.heap.objs.size ≠ x := Nat.ne_of_gt (Heap.lt_size hx)
    refine ks_wpAt_execs_cons ?_
    refine sup_stmt (s := { s with heap := h₀, toks := s.toks + ([("self", Value.ref x), (f, v)] : List (Str × Value)).length }) (us := [v]) (L := s.heap.objs.size) Md (fun b o e => k b o (kb b o e)) T ho hp har hn hself (k _ _ hx) hk hks hkc hka htop (by rw [sizeLine_eq]; show _ ≤ _; simp only [List.length_cons, List.length_nil]; omega)
      (fun s' R' k' hr => ?_) rfl rfl (by simp [interactive, hk]) rfl (hcl _) (fun h1 tk1 t1 k1' hx1 => ?_)
    · refine spliced_cons ?_
      obtain ⟨oL, es, ep, hL, rr⟩ := hn
      exact ldK (v := v) ⟨oL, es, ep, k' _ _ hL, rr⟩ hfv (spliced_nil hr) hk hkf hfd
    · have hn1 : h1.Ns s.heap.objs.size (fun y => ([("self", Value.ref x), (f, v)] : List (Str × Value)).reverse.lookup y) := by
        obtain ⟨oL, es, ep, hL, rr⟩ := hn
        exact ⟨oL, es, ep, k1' _ _ hxL hL, rr⟩
      have X1 : K.In h1 := Md.kin.keeps fun b o e => k1' b o (fun z => by rw [z, hnx] at e; cases e) (k b o (kb b o e))
      refine wpAt_of_wpAny ?_
      refine wpAny_execs_cons (plainObj_wpAny_Assign_Attribute ?_)
      refine ldK (v := v) hn1 hfv (ldK (v := .ref x) hn1 hself ?_ hk hka (by decide)) hk hkf hfd
      refine set_plain X1 (ox := excO C t1) (od := none) ⟨hx1, rfl, rfl, trivial⟩ T.sa ?_
      refine exc_osa X1 hx1 hcC (show refsVE (.ref C :: bm) = true from hbm) rfl hno (fun h₃ tk₃ dx k₃ dn dne hx₃ hn₃ => ?_)
      show wpAny _ _ (execs _ _) _ _ _
      have z : s.heap.objs.size < h1.objs.size := hn1.lt
      exact wpAny_execs_nil (hq h₃ tk₃ dx t1 ⟨fun b o hb e => k₃ b o hb (k1' b o hb (k b o e)), hx₃, Nat.le_of_lt (Nat.lt_of_lt_of_le z dn), dne, hn₃⟩)
/-- def __init__(self, f, g): super().__init__(f, g); self.f = f; self.g = g -/
theorem init2 (Md : L2.Mod K mg base) (kb : ∀ b o, base.get? b = some o → s.heap.get? b = some o) (hnx : base.get? x = none) (T : SupC prog K C D cda cc)
    (ho : K.lookup fI = some ⟨oc, od, .func (ksFn "__init__" q params [supS [.Name f n1, .Name g n2] p0 p1 p2 p4 p5, stS f q1 q2 q3 q4, stS g r1 r2 r3 r4] scope dV kV doc pm an (.ref cda) ct cc), osl⟩) (hcd : codeIn K (.ref cda) q = true)
    (hp : (params.posonlyargs ++ params.args).head? = some ar) (har : ar.arg = "self")
    (hbind : ∀ s', BindsTo s' (ksFn "__init__" q params [supS [.Name f n1, .Name g n2] p0 p1 p2 p4 p5, stS f q1 q2 q3 q4, stS g r1 r2 r3 r4] scope dV kV doc pm an (.ref cda) ct cc) ⟨[.ref x, v, u], []⟩ [("self", .ref x), (f, v), (g, u)])
    (hk : scope.kind = .function) (hco : scope.isCoroutine = false) (hgen : scope.isGenerator = false) (hcell : ∀ x ∈ scope.names, x.2 ≠ .cell)
    (hks : scope.names.lookup ("super" : Str) = some .globalImplicit) (hkc : scope.names.lookup ("__class__" : Str) = some .free) (hka : scope.names.lookup ("self" : Str) = some .local) (hkf : scope.names.lookup f = some .local) (hkg : scope.names.lookup g = some .local)
    (hcl : ∀ L, CallsSup [.Name f n1, .Name g n2] p0 p1 p2 p4 (ksEnv q scope L fI (.ref cda) cc)) (hfs : f ≠ "self") (hgs : g ≠ "self") (hfg : f ≠ g) (hfd : (f == ("__debug__" : Str)) = false) (hgd : (g == ("__debug__" : Str)) = false) (htop : (prog.main.scope.names.lookup ("super" : Str)).isSome = false) (hno : findIn K (.ref C) f = some none) (hno2 : findIn K (.ref C) g = some none)
    (hx : s.heap.get? x = some (excO C t0)) (hroom : A.depth < recursionLimit)
    (hq : ∀ h' tk dx t1, InitEnd s.heap h' x C dx t1 (fun y => if y = g then some u else if y = f then some v else none) → R (.ok (.ret .none)) { s with heap := h', toks := tk }) :
    codeAny (model prog w) A (.call (.ref fI) ⟨[.ref x, v, u], []⟩) R s := by
  obtain ⟨nm, qn, N, bs, bm, sn, sub, ab, col, dd, k0, k1, k2, k3, k5, hC, hbm⟩ := T.cls
  have hcC : clsIn K C = some { name := nm, bases := bs, mro := .ref C :: bm, ns := N, qualname := qn, hasDict := true, slotNames := sn, subclasses := sub, abstract := ab, collection := col, hasDel := false } := by unfold clsIn; rw [hC] <;> rfl
  have X : K.In s.heap := Md.kin.keeps kb
  refine ks_codeAny_call_defAt (fd := ksFn "__init__" q params [supS [.Name f n1, .Name g n2] p0 p1 p2 p4 p5, stS f q1 q2 q3 q4, stS g r1 r2 r3 r4] scope dV kV doc pm an (.ref cda) ct cc) hroom (X _ _ ho) rfl (Md.nolimit.keeps kb) (codeRec_of X hcd) rfl (hbind s) hcell ?_ ?_ hco hgen hk
  · intro y hy
    rcases List.mem_cons.mp hy with rfl | hy
    · exact hka
    · rcases List.mem_cons.mp hy with rfl | hy
      · exact hkf
      · rcases List.mem_cons.mp hy with rfl | hy
        · exact hkg
        · cases hy
  · intro h₀ hn k
    have e1 : (("self" : Str) == f) = false := by simpa using Ne.symm hfs
    have e2 : (("self" : Str) == g) = false := by simpa using Ne.symm hgs
    have e3 : (f == g) = false := by simpa using hfg
    have hself : ([("self", Value.ref x), (f, v), (g, u)] : List (Str × Value)).reverse.lookup ("self" : Str) = some (.ref x) := by
      simp [List.lookup, e1, e2]
    have hfv : ([("self", Value.ref x), (f, v), (g, u)] : List (Str × Value)).reverse.lookup f = some v := by simp [List.lookup, e3]
    have hgv : ([("self", Value.ref x), (f, v), (g, u)] : List (Str × Value)).reverse.lookup g = some u := by simp [List.lookup]
    have hxL : s.heap.objs.size ≠ x := Nat.ne_of_gt (Heap.lt_size hx)
    refine ks_wpAt_execs_cons ?_
    refine sup_stmt (s := { s with heap := h₀, toks := s.toks + ([("self", Value.ref x), (f, v), (g, u)] : List (Str × Value)).length }) (us := [v, u]) (L := s.heap.objs.size) Md (fun b o e => k b o (kb b o e)) T ho hp har hn hself (k _ _ hx) hk hks hkc hka htop (by rw [sizeLine_eq]; show _ ≤ _; simp only [List.length_cons, List.length_nil]; omega)
      (fun s' R' k' hr => ?_) rfl rfl (by simp [interactive, hk]) rfl (hcl _) (fun h1 tk1 t1 k1' hx1 => ?_)
    · obtain ⟨oL, es, ep, hL, rr⟩ := hn
      have hn' : s'.heap.Ns s.heap.objs.size (fun y => ([("self", Value.ref x), (f, v), (g, u)] : List (Str × Value)).reverse.lookup y) := ⟨oL, es, ep, k' _ _ hL, rr⟩
      refine spliced_cons ?_
      refine ldK (v := v) hn' hfv ?_ hk hkf hfd
      refine spliced_cons ?_
      exact ldK (v := u) hn' hgv (spliced_nil hr) hk hkg hgd
    · have hn1 : h1.Ns s.heap.objs.size (fun y => ([("self", Value.ref x), (f, v), (g, u)] : List (Str × Value)).reverse.lookup y) := by
        obtain ⟨oL, es, ep, hL, rr⟩ := hn
        exact ⟨oL, es, ep, k1' _ _ hxL hL, rr⟩
      have X1 : K.In h1 := Md.kin.keeps fun b o e => k1' b o (fun z => by rw [z, hnx] at e; cases e) (k b o (kb b o e))
      refine wpAt_of_wpAny ?_
      refine wpAny_execs_cons (plainObj_wpAny_Assign_Attribute ?_)
      refine ldK (v := v) hn1 hfv (ldK (v := .ref x) hn1 hself ?_ hk hka (by decide)) hk hkf hfd
      refine set_plain X1 (ox := excO C t1) (od := none) ⟨hx1, rfl, rfl, trivial⟩ T.sa ?_
      refine exc_osa X1 hx1 hcC (show refsVE (.ref C :: bm) = true from hbm) rfl hno (fun h₃ tk₃ dx k₃ dn dne hx₃ hn₃ => ?_)
      show wpAny _ _ (execs _ _) _ _ _
      have z : s.heap.objs.size < h1.objs.size := hn1.lt
      have hn3 : h₃.Ns s.heap.objs.size (fun y => ([("self", Value.ref x), (f, v), (g, u)] : List (Str × Value)).reverse.lookup y) := by
        obtain ⟨oL, es, ep, hL, rr⟩ := hn1
        exact ⟨oL, es, ep, k₃ _ _ hxL hL, rr⟩
      have X3 : K.In h₃ := Md.kin.keeps fun b o e => by
        have bx : b ≠ x := fun z => by rw [z, hnx] at e; cases e
        exact k₃ b o bx (k1' b o bx (k b o (kb b o e)))
      obtain ⟨oD, _, _, hoD, _⟩ := id hn₃
      refine wpAny_execs_cons (plainObj_wpAny_Assign_Attribute ?_)
      refine ldK (v := u) hn3 hgv (ldK (v := .ref x) hn3 hself ?_ hk hka (by decide)) hk hkg hgd
      refine set_plain X3 (ox := { cls := .ref C, dict := some dx, data := .fields #[.ref t1, .none, .none, .none, .bool false, .none] }) (od := some oD) ⟨hx₃, rfl, rfl, hoD⟩ T.sa ?_
      refine PySem.OEX.osa_old (nl := [f]) X3 hx₃ hn₃ (fun y hy => ?_) (by show 1 ≤ 1000; decide) hcC (show refsVE (.ref C :: bm) = true from hbm) rfl hno2 (fun h₄ tk₄ k₄ hn₄ => ?_)
      · by_cases hyf : y = f
        · rw [hyf]
          exact List.mem_cons_self
        · exact absurd (if_neg hyf) hy
      · show wpAny _ _ (execs _ _) _ _ _
        refine wpAny_execs_nil (hq h₄ tk₄ dx t1 ⟨fun b o hb e => k₄ b o (fun zz => ?_) (k₃ b o hb (k1' b o hb (k b o e))), k₄ _ _ (Ne.symm dne) hx₃, Nat.le_of_lt (Nat.lt_of_lt_of_le z dn), dne, hn₄⟩)
        have lt : b < s.heap.objs.size := Heap.lt_size e
        have dn' : h1.objs.size ≤ dx := dn
        have z' : s.heap.objs.size < h1.objs.size := z
        exact absurd (Nat.lt_of_lt_of_le (Nat.lt_trans lt z') dn') (by rw [zz]; exact Nat.lt_irrefl _)
/-- C(v): the exception made -/
structure Made (h h' : Heap) (e C d : Addr) (mA : Str → Option Value) : Prop where
  keep : ∀ b o, h.get? b = some o → h'.get? b = some o
  new : h.objs.size ≤ e
  obj : ∃ oe vs, h'.get? e = some oe ∧ oe.cls = .ref C ∧ oe.dict = some d ∧ oe.data = .fields vs ∧ vs[1]? = some .none
  dbig : h.objs.size ≤ d
  dne : d ≠ e
  ns : h'.Ns1 d mA
theorem made {us : List Value} {mA : Str → Option Value} (X : K.In s.heap) (hus : us.length ≤ sizeLine)
    (cls : ∃ nm q N bs bm sn sub ab col dd k0 k1 k2 k3 k5, K.lookup C = some (excClassObj nm q C N bs bm true sn sub ab col dd k0 k1 k2 k3 k5 "ValueError.__new__") ∧ refsVE bm = true)
    (iC : findIn K (.ref C) "__init__" = some (some (.ref fI))) (tC : typeIn K (.ref fI) = some (.type "function"))
    (hinit : ∀ (A' : Around) (R' : Result → Shared → Prop) (s' : Shared) (x t0 : Addr), A'.depth = A.depth + 1 → (∀ b o, s.heap.get? b = some o → s'.heap.get? b = some o) → s.heap.objs.size ≤ x → s'.heap.get? x = some (excO C t0) →
      (∀ h' tk dx t1, InitEnd s'.heap h' x C dx t1 mA → R' (.ok (.ret .none)) { s' with heap := h', toks := tk }) → codeAny (model prog w) A' (.call (.ref fI) ⟨.ref x :: us, []⟩) R' s')
    (hq : ∀ h' tk e d, Made s.heap h' e C d mA → R (.ok (.ret (.ref e))) { s with heap := h', toks := tk }) :
    codeAny (model prog w) A (.call (.ref C) ⟨us, []⟩) R s := by
  obtain ⟨nm, q, N, bs, bm, sn, sub, ab, col, dd, k0, k1, k2, k3, k5, hC, hbm⟩ := cls
  obtain ⟨hp, g, dr, tk, os⟩ := s
  have k : ∀ b o, hp.get? b = some o → ((hp.push (kdv_tup us)).push (excO C hp.objs.size)).get? b = some o := fun b o e => Heap.get?_push_of_some _ (Heap.get?_push_of_some _ e)
  have hget : ((hp.push (kdv_tup us)).push (excO C hp.objs.size)).get? (hp.objs.size + 1) = some (excO C hp.objs.size) := by heap_get
  refine call_own F.excBase_ValueError (fun X => refsVE_contains X bm hbm) (X _ _ hC) (looks_findIn X iC) (fun self => bind_fn X self tC) hus ?_
  refine hinit _ _ ⟨(hp.push (kdv_tup us)).push (excO C hp.objs.size), g, dr, tk, os⟩ (hp.objs.size + 1) hp.objs.size ?_ k (Nat.le_succ _) hget fun h' tk' dx t1 ⟨k', hx, dn, dne, hns⟩ => ?_
  · first
      | rfl
      | (rw [L2.make_depth])
  · have old : ∀ b o, hp.get? b = some o → h'.get? b = some o := fun b o e => k' b o (Nat.ne_of_lt (Nat.lt_succ_of_lt (Heap.lt_size e))) (k b o e)
    have z : hp.objs.size + 1 + 1 ≤ dx := by
      first
        | (simpa only [Heap.size_push] using dn)
        | exact dn
        | (have q := dn; rw [Heap.size_push, Heap.size_push] at q; exact q)
    exact ⟨rfl, hq h' tk' (hp.objs.size + 1) dx ⟨old, Nat.le_succ _, ⟨_, _, hx, rfl, rfl, rfl, rfl⟩, Nat.le_trans (Nat.le_trans (Nat.le_succ _) (Nat.le_succ _)) z, dne, hns⟩⟩
end
end SupX
end PySem
set_option Elab.async false
set_option linter.all false
set_option maxRecDepth 100000
set_option maxHeartbeats 4000000
namespace L2
open PySem PySem.Spec PyProof.Rows
/-- a class of exceptions, by its name x at C, that is made with as many arguments as it has fields -/
structure ExcMk (P : Program) (w : World) (K : PySem.W.Frag) (mg : Str → Option Value) (base : Heap) (x : Str) (C : Addr) (fs : List Str) : Prop where
  gC : mg x = some (.ref C)
  kC : PySem.W.keepIn K (.ref C) = true
  exC : PySem.W.subIn K (.ref C) (.type "BaseException") = some true
  tyC : PySem.W.typeIn K (.ref C) = some (.type "type")
  xf : XfC K C
  noF : ∀ f ∈ fs, PySem.W.findIn K (.ref C) f = some none
  run : ∀ (A : Around) (R : Result → Shared → Prop) (s : Shared) (vs : List V) (us : List Value), Vals vs us → us.length = fs.length → A.depth + 1 < recursionLimit → (∀ b o, base.get? b = some o → s.heap.get? b = some o) →
    (∀ h' tk e d mA, PySem.SupX.Made s.heap h' e C d mA → (∀ y, RelO ((fs.zip vs).lookup y) (mA y)) → R (.ok (.ret (.ref e))) { s with heap := h', toks := tk }) → codeAny (model P w) A (.call (.ref C) ⟨us, []⟩) R s
section
variable {X : Cx} {C : Addr} {x : Str} {fs : List Str}
/-- C(e, ..) -/
def tMkX (C : Addr) (fs : List Str) (ta : TA) : St → Hp → XK → Prop := fun σ H Q => ta σ H fun vs H1 => vs.length = fs.length ∧ ∀ d, H1 d = none → Q (.ref C) (some d) (upd H1 d (.xd (fs.zip vs)))
theorem pmk_x {e : Expr} {es : List Expr} {ta : TA} {p pos : Pos} {k : Nat} (T : ExcMk X.prog X.w X.K X.mg X.base x C fs) (hr : Room k X.A) (hg : Gl X x) (ha : PA X (e :: es) ta) (hdb : (x == ("__debug__" : Str)) = false := by decide)
    (he : starEach (e :: es) X.env = (false, eval e X.env) :: starEach es X.env := by rfl) (hpl : (backTo pos (starEach es X.env)).any (·.1) = false := by rfl) :
    PMk X (.Call (.Name x p) (e :: es) [] pos) (tMkX C fs ta) := by
  intro pins s σ H Q I h
  refine wpAny_Call_Name_kw (ld_glob I hg T.gC ?_ hdb)
  refine PySem.W.callWith_K (h₀ := X.base) I.ok.mod.kin T.kC (thn (ha.run pos pins s σ H _ I h) fun us s1 hh => ?_) he hpl
  obtain ⟨vs, H1, I1, r1, ev, q1⟩ := hh
  refine ⟨I1.kIn, ?_⟩
  show wpAny _ _ (call (.ref C) us) _ _ _
  refine wpAny_call (T.run X.A _ s1 vs us r1 (by rw [← r1.length]; exact ev) (by have := hr.dp; omega) I1.bk fun h' tk' e d mA M hrel => ?_)
  obtain ⟨hp, g, dr, tk, os⟩ := s1
  show MkP X pins σ Q (.ref e) ⟨h', g, dr, tk', os⟩
  obtain ⟨oe, fv, hoe, hc, hd, hdat, h1⟩ := M.obj
  have hns := M.ns
  obtain ⟨G', g1, g2⟩ := restrict h' fun b => decide (b ≠ e)
  have gk : ∀ b, b ≠ e → G'.get? b = h'.get? b := fun b hb => g1 b (decide_eq_true hb)
  have ge : G'.get? e = none := g2 e (by simp)
  have old : ∀ b o, hp.get? b = some o → G'.get? b = some o := fun b o q => (gk b (Nat.ne_of_lt (Nat.lt_of_lt_of_le (Heap.lt_size q) M.new))).trans (M.keep b o q)
  have ob : ObjOk X.prog X.w (upd H1 d (.xd (fs.zip vs))) G' d (.xd (fs.zip vs)) := ⟨_, hns.at (fun o q => (gk d M.dne).trans q), hrel⟩
  have J : Inv X pins σ (upd H1 d (.xd (fs.zip vs))) ⟨G', g, dr, tk', os⟩ := I1.laid (t' := tk') old M.dbig ob
  refine ⟨e, oe, fv, ⟨G', g, dr, tk', os⟩, _, .ref C, some d, rfl, J, fun b o q => ?_, ge, hoe, ⟨hc, hd⟩, hdat, h1, ?_, rfl, I1.bare, raises_own T.exC T.tyC, q1 d (I1.hok.fresh M.dbig)⟩
  · by_cases hb : b = e
    · have q' : G'.get? b = some o := q
      rw [hb, ge] at q'; cases q'
    · exact (gk b hb).symm.trans q
  · rw [upd_ne (Ne.symm M.dne)]
    exact I1.hok.fresh M.new
/-- raise C(e, ..) -/
def tRaiseX (C : Addr) (fs : List Str) (W : WX) (ta : TA) : TS := fun _ σ H => tMkX C fs ta σ H fun cls d H' => W cls d σ H'
theorem ps_raiseX {e : Expr} {es : List Expr} {ta : TA} {W : WX} {p pos pos2 : Pos} {k : Nat} (hc : X.calm = true) (T : ExcMk X.prog X.w X.K X.mg X.base x C fs) (hr : Room k X.A) (tk : Takes X W) (hg : Gl X x) (ha : PA X (e :: es) ta) (hdb : (x == ("__debug__" : Str)) = false := by decide)
    (he : starEach (e :: es) X.env = (false, eval e X.env) :: starEach es X.env := by rfl) (hpl : (backTo pos (starEach es X.env)).any (·.1) = false := by rfl) :
    PS X (.Raise (some (.Call (.Name x p) (e :: es) [] pos)) none pos2) (tRaiseX C fs W ta) := ps_raise hc tk (pmk_x T hr hg ha hdb he hpl)
end
/-! ### from the written part -/
section
variable {P : Program} {w : World} {K : PySem.W.Frag} {mg : Str → Option Value} {base : Heap} {x q : Str} {C D cda cc fI : Addr} {f g : Str}
variable {oc : Value} {od : Option Addr} {osl : Array (Option Value)} {params : Arguments} {scope : Scope} {dV kV doc pm ct : Value} {an : Option Addr} {p0 p1 p2 p4 p5 n1 n2 q1 q2 q3 q4 r1 r2 r3 r4 : Pos} {ar : Arg}
open PySem.W PySem.SupX
theorem relO_1 {v : V} {u : Value} (r : RelV v u) (y : Str) : RelO (List.lookup y (([f] : List Str).zip [v])) (if y = f then some u else none) := by
  by_cases hw : y = f
  · subst hw
    rw [if_pos rfl]
    have e : List.lookup y (([y] : List Str).zip [v]) = some v := by simp [List.lookup]
    rw [e]
    exact r
  · rw [if_neg hw]
    have qw : (y == f) = false := by simpa using hw
    have q2 : List.lookup y (([f] : List Str).zip [v]) = none := by simp [List.lookup, qw]
    rw [q2]
    trivial
theorem relO_2 {v v2 : V} {u u2 : Value} (hfg : f ≠ g) (r : RelV v u) (r2 : RelV v2 u2) (y : Str) : RelO (List.lookup y (([f, g] : List Str).zip [v, v2])) (if y = g then some u2 else if y = f then some u else none) := by
  by_cases hg : y = g
  · subst hg
    rw [if_pos rfl]
    have qf : (y == f) = false := by simpa using Ne.symm hfg
    have e : List.lookup y (([f, y] : List Str).zip [v, v2]) = some v2 := by simp [List.lookup, qf]
    rw [e]
    exact r2
  · rw [if_neg hg]
    by_cases hw : y = f
    · subst hw
      rw [if_pos rfl]
      have e : List.lookup y (([y, g] : List Str).zip [v, v2]) = some v := by simp [List.lookup]
      rw [e]
      exact r
    · rw [if_neg hw]
      have qw : (y == f) = false := by simpa using hw
      have qg : (y == g) = false := by simpa using hg
      have q2 : List.lookup y (([f, g] : List Str).zip [v, v2]) = none := by simp [List.lookup, qw, qg]
      rw [q2]
      trivial
/-- the facts of the class that hold for either kind -/
structure ExcF (K : PySem.W.Frag) (mg : Str → Option Value) (x : Str) (C fI : Addr) : Prop where
  gC : mg x = some (.ref C)
  kC : PySem.W.keepIn K (.ref C) = true
  exC : PySem.W.subIn K (.ref C) (.type "BaseException") = some true
  tyC : PySem.W.typeIn K (.ref C) = some (.type "type")
  xf : XfC K C
  iC : findIn K (.ref C) "__init__" = some (some (.ref fI))
  tC : typeIn K (.ref fI) = some (.type "function")
theorem excMk1 (Md : Mod K mg base) (F : ExcF K mg x C fI) (T : SupC P K C D cda cc)
    (ho : K.lookup fI = some ⟨oc, od, .func (ksFn "__init__" q params [supS [.Name f n1] p0 p1 p2 p4 p5, stS f q1 q2 q3 q4] scope dV kV doc pm an (.ref cda) ct cc), osl⟩) (hcd : codeIn K (.ref cda) q = true)
    (hp : (params.posonlyargs ++ params.args).head? = some ar) (har : ar.arg = "self")
    (hbind : ∀ s' x v, BindsTo s' (ksFn "__init__" q params [supS [.Name f n1] p0 p1 p2 p4 p5, stS f q1 q2 q3 q4] scope dV kV doc pm an (.ref cda) ct cc) ⟨[.ref x, v], []⟩ [("self", .ref x), (f, v)])
    (hk : scope.kind = .function) (hco : scope.isCoroutine = false) (hgen : scope.isGenerator = false) (hcell : ∀ x ∈ scope.names, x.2 ≠ .cell)
    (hks : scope.names.lookup ("super" : Str) = some .globalImplicit) (hkc : scope.names.lookup ("__class__" : Str) = some .free) (hka : scope.names.lookup ("self" : Str) = some .local) (hkf : scope.names.lookup f = some .local)
    (hcl : ∀ L, CallsSup [.Name f n1] p0 p1 p2 p4 (ksEnv q scope L fI (.ref cda) cc)) (hfs : f ≠ "self") (hfd : (f == ("__debug__" : Str)) = false) (htop : (P.main.scope.names.lookup ("super" : Str)).isSome = false) (hno : findIn K (.ref C) f = some none) :
    ExcMk P w K mg base x C [f] := by
  refine ⟨F.gC, F.kC, F.exC, F.tyC, F.xf, fun y hy => ?_, fun A R s vs us rv hl hroom kb hq => ?_⟩
  · rcases List.mem_cons.mp hy with rfl | hy
    · exact hno
    · cases hy
  · match us, vs, rv, hl with
    | [u], [v], .cons r1 _, _ =>
      refine made (Md.kin.keeps kb) (by rw [sizeLine_eq]; show 1 ≤ 16777216; decide) T.cls F.iC F.tC (mA := fun y => if y = f then some u else none) (fun A' R' s' x t0 hd k hx0 hx hq' => ?_) (fun h' tk e d M => hq h' tk e d _ M fun y => relO_1 r1 y)
      refine init1 Md (fun b o e => k b o (kb b o e)) ?_ T ho hcd hp har (fun s' => hbind s' x u) hk hco hgen hcell hks hkc hka hkf hcl hfs hfd htop hno hx (by rw [hd]; exact hroom) hq'
      cases e : base.get? x with
      | none => rfl
      | some o => exact absurd (Nat.lt_of_lt_of_le (Heap.lt_size (kb _ _ e)) hx0) (Nat.lt_irrefl _)
theorem excMk2 (Md : Mod K mg base) (F : ExcF K mg x C fI) (T : SupC P K C D cda cc)
    (ho : K.lookup fI = some ⟨oc, od, .func (ksFn "__init__" q params [supS [.Name f n1, .Name g n2] p0 p1 p2 p4 p5, stS f q1 q2 q3 q4, stS g r1 r2 r3 r4] scope dV kV doc pm an (.ref cda) ct cc), osl⟩) (hcd : codeIn K (.ref cda) q = true)
    (hp : (params.posonlyargs ++ params.args).head? = some ar) (har : ar.arg = "self")
    (hbind : ∀ s' x v u, BindsTo s' (ksFn "__init__" q params [supS [.Name f n1, .Name g n2] p0 p1 p2 p4 p5, stS f q1 q2 q3 q4, stS g r1 r2 r3 r4] scope dV kV doc pm an (.ref cda) ct cc) ⟨[.ref x, v, u], []⟩ [("self", .ref x), (f, v), (g, u)])
    (hk : scope.kind = .function) (hco : scope.isCoroutine = false) (hgen : scope.isGenerator = false) (hcell : ∀ x ∈ scope.names, x.2 ≠ .cell)
    (hks : scope.names.lookup ("super" : Str) = some .globalImplicit) (hkc : scope.names.lookup ("__class__" : Str) = some .free) (hka : scope.names.lookup ("self" : Str) = some .local) (hkf : scope.names.lookup f = some .local) (hkg : scope.names.lookup g = some .local)
    (hcl : ∀ L, CallsSup [.Name f n1, .Name g n2] p0 p1 p2 p4 (ksEnv q scope L fI (.ref cda) cc)) (hfs : f ≠ "self") (hgs : g ≠ "self") (hfg : f ≠ g) (hfd : (f == ("__debug__" : Str)) = false) (hgd : (g == ("__debug__" : Str)) = false)
    (htop : (P.main.scope.names.lookup ("super" : Str)).isSome = false) (hno : findIn K (.ref C) f = some none) (hno2 : findIn K (.ref C) g = some none) :
    ExcMk P w K mg base x C [f, g] := by
  refine ⟨F.gC, F.kC, F.exC, F.tyC, F.xf, fun y hy => ?_, fun A R s vs us rv hl hroom kb hq => ?_⟩
  · rcases List.mem_cons.mp hy with rfl | hy
    · exact hno
    · rcases List.mem_cons.mp hy with rfl | hy
      · exact hno2
      · cases hy
  · match us, vs, rv, hl with
    | [u, u2], [v, v2], .cons r1 (.cons r2 _), _ =>
      refine made (Md.kin.keeps kb) (by rw [sizeLine_eq]; show 2 ≤ 16777216; decide) T.cls F.iC F.tC (mA := fun y => if y = g then some u2 else if y = f then some u else none) (fun A' R' s' x t0 hd k hx0 hx hq' => ?_) (fun h' tk e d M => hq h' tk e d _ M fun y => relO_2 hfg r1 r2 y)
      refine init2 Md (fun b o e => k b o (kb b o e)) ?_ T ho hcd hp har (fun s' => hbind s' x u u2) hk hco hgen hcell hks hkc hka hkf hkg hcl hfs hgs hfg hfd hgd htop hno hno2 hx (by rw [hd]; exact hroom) hq'
      cases e : base.get? x with
      | none => rfl
      | some o => exact absurd (Nat.lt_of_lt_of_le (Heap.lt_size (kb _ _ e)) hx0) (Nat.lt_irrefl _)
end
end L2
set_option Elab.async false
set_option linter.all false
set_option maxRecDepth 100000
set_option maxHeartbeats 4000000
/-! the head's facts: defs, names, and exceptions whose __init__ says super().__init__ -/
namespace HX
open PySem PySem.Spec PyProof.Rows L2 He PySem.SupX
/-- the class of exceptions x; its __init__ stands in the class y -/
structure ExD where
  x : Str
  y : Str
  qual : Str
  params : Arguments
  body : List Stmt
  scope : Scope
abbrev InV : Type := Option (Str × Str × Arguments × FuncBody × Scope × Addr × List Str × Addr)
def iAd (K : PySem.W.Frag) (x : Str) : Addr := ma K (ga K x) "__init__"
def inObs (K : PySem.W.Frag) (x : Str) : InV := match K.lookup (iAd K x) with
  | some ⟨_, _, .func fd, _⟩ => some (fd.name, fd.qualname, fd.params, fd.body, fd.scope, fd.globals, fd.closure.map (·.1), fd.builtins)
  | _ => none
def ExD.val (d : ExD) : InV := some ("__init__", d.qual, d.params, .stmts d.body, d.scope, mainGlobals, ["__class__"], builtinsNs)
def fileIn (K : PySem.W.Frag) (c : Addr) (file : Str) : Bool := match K.lookup c with
  | some ⟨_, _, .fields vs, _⟩ => (match (vs[2]? : Option Value) with
    | some (Value.str f _) => file == f
    | _ => false)
  | _ => false
def cellIn (K : PySem.W.Frag) (c D : Addr) : Bool := match K.lookup c with
  | some ⟨_, _, .cell (some (.ref a)), _⟩ => decide (a = D)
  | _ => false
def codeB (K : PySem.W.Frag) (file q : Str) (fI D : Addr) : Bool := match K.lookup fI with
  | some ⟨_, _, .func fd, _⟩ => (match fd.code, fd.closure, fd.defaults with
    | .ref cda, [(_, cc)], .none => PySem.W.codeIn K (.ref cda) q && (fileIn K cda file && cellIn K cc D)
    | _, _, _ => false)
  | _ => false
def clsB (K : PySem.W.Frag) (C : Addr) : Bool := match K.lookup C with
  | some ⟨.type "type", _, .cls cd, sl⟩ => (match cd.mro, sl.toList with
    | .ref C' :: bm, [_, _, _, _, some (.builtin n), _] => C' == C && (n == "ValueError.__new__" && (!cd.hasDel && (cd.hasDict && PySem.HandSPX.refsVE bm)))
    | _, _ => false)
  | _ => false
theorem clsB_ok {K : PySem.W.Frag} {C : Addr} (h : clsB K C = true) : ∃ nm q N bs bm sn sub ab col dd k0 k1 k2 k3 k5, K.lookup C = some (excClassObj nm q C N bs bm true sn sub ab col dd k0 k1 k2 k3 k5 "ValueError.__new__") ∧ PySem.HandSPX.refsVE bm = true := by
  unfold clsB at h
  split at h
  · rename_i dd cd sl ho
    split at h
    · rename_i C' bm k0 k1 k2 k3 n k5 hm hs
      simp only [Bool.and_eq_true, beq_iff_eq, Bool.not_eq_true'] at h
      obtain ⟨rfl, rfl, hdel, hdc, hv⟩ := h
      obtain ⟨nm, bs, mro, ns, qn, hd, sn, sub, ab, col, del⟩ := cd
      dsimp only at hm hdel hdc
      subst hm hdel hdc
      have hsl : sl = #[k0, k1, k2, k3, some (.builtin "ValueError.__new__"), k5] := by
        obtain ⟨l⟩ := sl
        simp only at hs
        rw [hs]
      subst hsl
      exact ⟨nm, qn, ns, bs, bm, sn, sub, ab, col, dd, k0, k1, k2, k3, k5, ho, hv⟩
    · cases h
  · cases h
def ExD.ok (K : PySem.W.Frag) (file : Str) (d : ExD) : Bool :=
  codeB K file d.qual (iAd K d.x) (ga K d.y) && (clsB K (ga K d.x) && (eqO (PySem.W.findIn K (.ref (ga K d.x)) "__setattr__") (some (some (.builtin "object.__setattr__"))) && ((PySem.W.clsIn K (ga K d.y)).isSome &&
  (decide (PySem.W.mroIn K (ga K d.x) (.ref (ga K d.y)) = some true) && (eqO (PySem.W.nsIn K mainGlobals "super") (some none) && (eqO (PySem.W.nsIn K cStatics "thirdparty.any") (some none) && (eqO (PySem.W.ks_superIn K (ga K d.x) (ga K d.y) "__init__") (some (some (.builtin "ValueError.__init__"))) &&
  (decide (PySem.W.subIn K (.ref (ga K d.x)) (.type "ValueError") = some true) && (eqO (PySem.W.nsIn K mainGlobals d.x) (some (some (.ref (ga K d.x)))) && (PySem.W.keepIn K (.ref (ga K d.x)) && (decide (PySem.W.subIn K (.ref (ga K d.x)) (.type "BaseException") = some true) &&
  (decide (PySem.W.typeIn K (.ref (ga K d.x)) = some (.type "type")) && (xfB K (ga K d.x) && (eqO (PySem.W.findIn K (.ref (ga K d.x)) "__init__") (some (some (.ref (iAd K d.x)))) && decide (PySem.W.typeIn K (.ref (iAd K d.x)) = some (.type "function"))))))))))))))))
theorem ExD.facts {P : Program} {K : PySem.W.Frag} {h : Heap} {mg : Str → Option Value} {d : ExD} (X : K.In h) (G : h.Ns mainGlobals mg) (e : inObs K d.x = d.val) (c : d.ok K P.main.file = true) :
    ∃ cda cc oc od osl kV doc pm an ct, ExcF K mg d.x (ga K d.x) (iAd K d.x) ∧ SupC P K (ga K d.x) (ga K d.y) cda cc ∧
      K.lookup (iAd K d.x) = some ⟨oc, od, .func (PySem.W.ksFn "__init__" d.qual d.params d.body d.scope .none kV doc pm an (.ref cda) ct cc), osl⟩ ∧ PySem.W.codeIn K (.ref cda) d.qual = true := by
  unfold ExD.ok at c
  obtain ⟨c1, c⟩ := ba c
  obtain ⟨c2, c⟩ := ba c
  obtain ⟨c3, c⟩ := ba c
  obtain ⟨c4, c⟩ := ba c
  obtain ⟨c5, c⟩ := ba c
  obtain ⟨c6, c⟩ := ba c
  obtain ⟨c7, c⟩ := ba c
  obtain ⟨c8, c⟩ := ba c
  obtain ⟨c9, c⟩ := ba c
  obtain ⟨c10, c⟩ := ba c
  obtain ⟨c11, c⟩ := ba c
  obtain ⟨c12, c⟩ := ba c
  obtain ⟨c13, c⟩ := ba c
  obtain ⟨c14, c⟩ := ba c
  obtain ⟨c15, c16⟩ := ba c
  unfold codeB at c1
  unfold inObs at e
  cases q : K.lookup (iAd K d.x) with
  | none =>
    rw [q] at c1
    cases c1
  | some o =>
    obtain ⟨oc, od, dt, osl⟩ := o
    rw [q] at c1 e
    cases dt with
    | func fd =>
      obtain ⟨n1, n2, n3, n4, n5, n6, n7, n8, n9, n10, n11, n12, n13, n14, n15⟩ := fd
      dsimp only at c1 e
      have e2 : (some (n1, n2, n3, n4, n5, n6, n7.map (·.1), n15) : InV) = d.val := e
      unfold ExD.val at e2
      simp only [Option.some.injEq, Prod.mk.injEq] at e2
      obtain ⟨h1, h2, h3, h4, h5, h6, h7, h8⟩ := e2
      subst h1 h2 h3 h4 h5 h6 h8
      split at c1
      · rename_i _ _ _ cda nn cc
        obtain ⟨a1, a⟩ := ba c1
        obtain ⟨a2, a3⟩ := ba a
        have hnn : nn = "__class__" := by simpa using h7
        subst hnn
        refine ⟨cda, cc, oc, od, osl, n9, n10, n11, n12, n14, ⟨PySem.W.mg_of X G (eqO_ok c10), c11, of_decide_eq_true c12, of_decide_eq_true c13, xfB_ok c14, eqO_ok c15, of_decide_eq_true c16⟩,
          ⟨clsB_ok c2, eqO_ok c3, ?_, ?_, Option.isSome_iff_exists.mp c4, of_decide_eq_true c5, eqO_ok c6, eqO_ok c7, eqO_ok c8, of_decide_eq_true c9⟩, rfl, a1⟩
        · unfold fileIn at a2
          split at a2
          · rename_i ccl cdd vs ccs hl
            split at a2
            · rename_i f tf hv
              exact ⟨ccl, cdd, vs, ccs, f, tf, hl, hv, a2⟩
            · cases a2
          · cases a2
        · unfold cellIn at a3
          split at a3
          · rename_i cl cld a csl hl
            have ea : a = ga K d.y := of_decide_eq_true a3
            subst ea
            exact ⟨cl, cld, csl, hl⟩
          · cases a3
      · cases c1
    | _ => cases c1
/-! ### the Hook -/
def refsX (o : Obj) : List Addr := refsD o ++ match o.data with
  | .func fd => fd.closure.map (·.2)
  | .cell (some v) => refV v
  | _ => []
def growX (g : Addr → Option Obj) (as : List Addr) : List Addr := (as ++ as.flatMap fun a => match g a with
  | some o => refsX o
  | none => []).eraseDups
def asX (g : Addr → Option Obj) : Nat → List Addr
  | 0 => [mainGlobals, cStatics]
  | n + 1 => growX g (asX g n)
abbrev AlX : Type := Bool × List FnW × List InV
def obsX (file : Str) (ok : PySem.W.Frag → Bool) (fn : List DefD) (ex : List ExD) (K : PySem.W.Frag) : AlX := (ok K && ((fn.all fun d => d.ok K) && ex.all fun d => d.ok K file), fn.map (fun d => fnW K d.at_), ex.map fun d => inObs K d.x)
def valX (fn : List DefD) (ex : List ExD) : AlX := (true, fn.map DefD.val, ex.map ExD.val)
def SaysX (file : Str) (ok : PySem.W.Frag → Bool) (fn : List DefD) (ex : List ExD) (K : PySem.W.Frag) : Prop := obsX file ok fn ex K = valX fn ex
def obsXG (n : Nat) (file : Str) (ok : PySem.W.Frag → Bool) (fn : List DefD) (ex : List ExD) (g : Addr → Option Obj) : AlX := obsX file ok fn ex (frG g (asX g n))
def hookX (n : Nat) (file : Str) (ok : PySem.W.Frag → Bool) (fn : List DefD) (ex : List ExD) : PySem.W.Hook where
  α := AlX
  obs := fun s => obsXG n file ok fn ex s.heap.get?
  val := fun _ => valX fn ex
  says := fun _ h => ∃ K : PySem.W.Frag, K.In h ∧ SaysX file ok fn ex K
  of := fun _ _ e => ⟨_, frG_in, e⟩
  keeps := fun _ _ _ ⟨K, hK, c⟩ k => ⟨K, PySem.W.Frag.In.keeps hK k, c⟩
theorem obsXG_eq {n : Nat} {file : Str} {ok : PySem.W.Frag → Bool} {fn : List DefD} {ex : List ExD} {g : Addr → Option Obj} {s : Shared} (h : ∀ a, g a = s.heap.get? a) : obsXG n file ok fn ex g = (hookX n file ok fn ex).obs s := by
  have e : g = s.heap.get? := funext h
  rw [e] <;> rfl
section
variable {file : Str} {ok : PySem.W.Frag → Bool} {fn : List DefD} {ex : List ExD} {K : PySem.W.Frag}
theorem SaysX.all (c : SaysX file ok fn ex K) : ok K = true ∧ (fn.all fun d => d.ok K) = true ∧ (ex.all fun d => d.ok K file) = true := by
  obtain ⟨c1, c2⟩ := ba (show (ok K && ((fn.all fun d => d.ok K) && ex.all fun d => d.ok K file)) = true from congrArg (fun z : AlX => z.1) c)
  exact ⟨c1, ba c2⟩
theorem SaysX.def_ (c : SaysX file ok fn ex K) (i : Nat) {d : DefD} (h : fn[i]? = some d := by rfl) : ∃ fd, FunD K d.name d.qual d.params d.body d.scope (d.dvs K) (d.kws K) (fAd K d.at_) fd := by
  have e : fn.map (fun d => fnW K d.at_) = fn.map DefD.val := congrArg (fun z : AlX => z.2.1) c
  have e2 : (fn.map fun d => fnW K d.at_)[i]? = (fn.map DefD.val)[i]? := by rw [e]
  rw [List.getElem?_map, List.getElem?_map, h] at e2
  exact DefD.funD (Option.some.inj e2) (List.all_eq_true.mp c.all.2.1 d (List.mem_of_getElem? h))
theorem SaysX.exc {P : Program} {h : Heap} {mg : Str → Option Value} (X : K.In h) (G : h.Ns mainGlobals mg) (c : SaysX P.main.file ok fn ex K) (i : Nat) {d : ExD} (hi : ex[i]? = some d := by rfl) :
    ∃ cda cc oc od osl kV doc pm an ct, ExcF K mg d.x (ga K d.x) (iAd K d.x) ∧ SupC P K (ga K d.x) (ga K d.y) cda cc ∧
      K.lookup (iAd K d.x) = some ⟨oc, od, .func (PySem.W.ksFn "__init__" d.qual d.params d.body d.scope .none kV doc pm an (.ref cda) ct cc), osl⟩ ∧ PySem.W.codeIn K (.ref cda) d.qual = true := by
  have e : ex.map (fun d => inObs K d.x) = ex.map ExD.val := congrArg (fun z : AlX => z.2.2) c
  have e2 : (ex.map fun d => inObs K d.x)[i]? = (ex.map ExD.val)[i]? := by rw [e]
  rw [List.getElem?_map, List.getElem?_map, hi] at e2
  exact ExD.facts X G (Option.some.inj e2) (List.all_eq_true.mp c.all.2.2 d (List.mem_of_getElem? hi))
end
end HX
set_option Elab.async false
set_option linter.all false
set_option maxRecDepth 100000
set_option maxHeartbeats 4000000
/-! several except clauses, each with a name -/
namespace L2
open PySem PySem.Spec PyProof.Rows
/-- a clause: the class that it names, its name's slot, its suite's reading -/
abbrev ClA : Type := Value × Nat × (Addr → Value → Option Addr → TS)
/-- behind a clause's suite its name is gone -/
def endsAs (D : Ends) (i : Nat) : Ends := { nx := fun σ H => D.nx (σ.set i none) H, rt := D.rt, bk := fun σ H => D.bk (σ.set i none) H, ct := fun σ H => D.ct (σ.set i none) H }
/-- what the clauses wish of an exception of the body -/
def wClauses (K : PySem.W.Frag) (Wout : WX) (D : Ends) : List ClA → WX
  | [] => Wout
  | (c, i, ts) :: r => fun cls d σ H => ∃ b, PySem.W.exmOne K cls c = some b ∧ (b = true → ∀ a, H a = none → ts a cls d (endsAs D i) (σ.set i (some (.ref a))) H) ∧ (b = false → wClauses K Wout D r cls d σ H)
inductive ClsOk (X : Cx) : List ExceptHandler → List ClA → Prop
  | nil : ClsOk X [] []
  | cons {x n : Str} {c : Value} {i : Nat} {ts : Addr → Value → Option Addr → TS} {b₀ : Stmt} {suite : List Stmt} {np pos' : Pos} {hds : List ExceptHandler} {l : List ClA} (hc : Names X x c) (hi : X.N[i]? = some n) (hln : X.env.kindOf n = some .local)
      (hsu : ∀ (a : Addr) (oe : Obj) (cls : Value) (d : Option Addr) (pn : List (Addr × Obj)), Zc cls d oe → (∃ vs, oe.data = .fields vs) → PSs (X.suite a ((a, oe) :: pn)) (b₀ :: suite) (ts a cls d)) (r : ClsOk X hds l) :
      ClsOk X (.ExceptHandler (some (.Name x np)) (some n) (b₀ :: suite) pos' :: hds) ((c, i, ts) :: l)
section
variable {X : Cx} {pins : List (Addr × Obj)} {D : Ends} {Wout : WX}
/-- an exception that lies over a try: its address, its class, its dict, the heap behind the body -/
structure Over (X : Cx) (pins : List (Addr × Obj)) (B : Heap) (sI s : Shared) (h3 : Heap) (a : Addr) (cls : Value) (d : Option Addr) (σ : St) (H : Hp) : Prop where
  inv : Inv X pins σ H sI
  fly : HandSPX.FlyingZ B (X.env :: X.outer) a (Zc cls d) h3
  up : sI.heap.UpToSlots h3
  sl : ∀ b o, sI.heap.get? b = some o → b ∉ frs X.stack → B.get? b = some o
  na : H a = none
  os : s.os = sI.os
  bare : AllBare s.gens
theorem Over.land {B : Heap} {sI s : Shared} {h3 h4 : Heap} {a : Addr} {cls : Value} {d : Option Addr} {σ : St} {H : Hp} (O : Over X pins B sI s h3 a cls d σ H) (fl : HandSPX.FlyingZ B (X.env :: X.outer) a (Zc cls d) h4) (up : h3.UpToSlots h4) : Inv X pins σ H { s with heap := h4 } :=
  O.inv.landed O.sl fl.1 (O.up.trans up) O.os O.bare
theorem Over.far {B : Heap} {sI s : Shared} {h3 : Heap} {a : Addr} {cls : Value} {d : Option Addr} {σ : St} {H : Hp} (O : Over X pins B sI s h3 a cls d σ H) (hf : X.env.frame = some X.env.locals) : a ≠ X.env.locals ∧ a ∉ X.fs := by
  obtain ⟨oe, vs, he, _, hd⟩ := O.fly.there
  have nfr : a ∉ frs (X.env :: X.outer) := fun hm => by
    obtain ⟨_, o', e', hnf⟩ := O.fly.2.2.1.mem hm
    obtain rfl := Option.some.inj (he.symm.trans e')
    exact hnf _ hd
  refine ⟨fun z => nfr (List.mem_filterMap.mpr ⟨X.env, List.mem_cons_self, by rw [hf, z]⟩), fun hm => ?_⟩
  obtain ⟨e, he, q⟩ := List.mem_filterMap.mp hm
  exact nfr (List.mem_filterMap.mpr ⟨e, List.mem_cons_of_mem _ he, q⟩)
/-- the clauses, one after the other -/
theorem clauses_ok {B : Heap} {sI s : Shared} {h3 : Heap} {a : Addr} {cls : Value} {d : Option Addr} {σ : St} {H : Hp} (ok : X.Ok) (hs : X.stack = X.env :: X.outer) (hf : X.env.frame = some X.env.locals) (hN : X.N.Nodup) (tk : Takes X Wout)
    (O : Over X pins B sI s h3 a cls d σ H) : ∀ {hds : List ExceptHandler} {l : List ClA}, ClsOk X hds l → wClauses X.K Wout D l cls d σ H → wpAny (model X.prog X.w) X.A (handleBy (.ref a) X.env hds) (SP X pins D) X.xe { s with heap := h3 } := by
  obtain ⟨nL, nF⟩ := O.far hf
  have J3 : Inv X pins σ H { s with heap := h3 } := O.inv.landed O.sl O.fly.1 O.up O.os O.bare
  obtain ⟨oe3, vs3, he3, hz3, hd3⟩ := O.fly.there
  have S3 := J3.suite he3 hd3 O.na nL nF
  intro hds l hk
  induction hk with
  | nil =>
    intro w
    refine wpAny_handleBy_nil ?_
    obtain ⟨k1, k2, k3, oe, vs, T, oT, ts', he, hz, hd, h1, hr⟩ := id O.fly
    have last : wpAny (model X.prog X.w) X.A (setFlight (.ref a) X.env.frame) (fun _ s4 => wpAny (model X.prog X.w) X.A (throw (.ref a) : Sem Flow) (SP X pins D) X.xe s4) X.xe { s with heap := h3 } := by
      rw [hf]
      refine HandSPX.setFlight_upZ O.fly ?_
      intro h4 hh4 up4
      exact wpAny_throw (tk _ _ ⟨a, B, sI, pins, σ, H, cls, d, rfl, O.inv, O.sl, O.up.trans up4, .inr (.inr (by rw [hs]; exact hh4)), O.na, O.os, O.bare, w⟩)
    unfold PySem.passOn
    refine wpAny_bind (wpAny_field he hd h1 ?_)
    rw [if_neg (show ¬ ((Value.ref T == Value.none) = true) from by simp)]
    first
      | exact wpAny_bind (wpAny_pure (wpAny_bind last))
      | exact wpAny_bind last
  | @cons x n c i ts b₀ suite np pos' hds2 l2 hc hi hln hsu r ih =>
    rintro ⟨b, hb, hyes, hno⟩
    refine wpAny_handleBy_cons (codeAny_handlers_test ?_) (by intro q; cases q)
    have isOf : PySem.W.Looks (model X.prog X.w) h3 (typeOf (.ref a)) cls := fun A Q E s k q => wpAny_typeOf_ref (k _ _ he3) (by rw [hz3.1]; exact q)
    have named : ∀ {Q : Value → Shared → Prop} {E : Value → Shared → Prop}, Q c { s with heap := h3 } → wpAny (model X.prog X.w) (X.A.mark (some (.ref a))) (eval (.Name x np) X.env) Q E { s with heap := h3 } := by
      intro Q E q
      rcases hc with ⟨hg, hdbg, hm | ⟨hm, hv, hnn⟩⟩
      · exact ld_glob (X := X.suite a ((a, oe3) :: (X.pn ++ pins))) S3 hg hm q hdbg
      · exact ld_blt (X := X.suite a ((a, oe3) :: (X.pn ++ pins))) S3 hg hm hv q hnn hdbg
    refine named ((PySem.W.exm_one (M := model X.prog X.w) J3.kIn isOf hb).here ?_)
    cases b with
    | false =>
      show wpAny _ X.A (handleBy (.ref a) X.env hds2) _ _ _
      exact ih (hno rfl)
    | true =>
      refine codeAny_handlers_suite_as (HandSPX.lands_againZ O.fly ?_)
      intro h4 fl4 up4
      obtain ⟨oe4, vs4, he4, hz4, hd4⟩ := fl4.there
      refine store_ok (X := X.suite a ((a, oe4) :: (X.pn ++ pins))) (v := .ref a) ((O.land fl4 up4).suite he4 hd4 O.na nL nF) hN hi (.inl hln) rfl (fun s5 S5 => ?_) (.inr hln)
      have gone : ∀ {σ6 : St} {H6 : Hp} {s6 : Shared} {Q : Shared → Prop}, Inv (X.suite a ((a, oe4) :: (X.pn ++ pins))) [] σ6 H6 s6 → (∀ s7, Inv X pins (σ6.set i none) H6 s7 → Q s7) →
          wpAny (model X.prog X.w) X.A (do bindName X.env n .none; unbindBehindTheSuite X.env n pos') (fun _ s7 => Q s7) X.xe s6 := fun S6 hq => gone_ok (S6.unsuite ok) hN hi hln hq
      refine wpAny_mono ((hsu a oe4 cls d (X.pn ++ pins) hz4 ⟨_, hd4⟩).run [] s5 _ H _ S5 (hyes rfl a O.na)) ?_ (fun _ _ z => z.elim)
      rintro (_ | _ | _ | u) s6 hsp
      · obtain ⟨σ6, H6, S6, q6⟩ := hsp
        exact gone S6 fun s7 J7 => ⟨_, _, J7, q6⟩
      · obtain ⟨σ6, H6, S6, q6⟩ := hsp
        exact gone S6 fun s7 J7 => ⟨_, _, J7, q6⟩
      · obtain ⟨σ6, H6, S6, q6⟩ := hsp
        exact gone S6 fun s7 J7 => ⟨_, _, J7, q6⟩
      · obtain ⟨v6, σ6, H6, S6, r6, q6⟩ := hsp
        exact gone S6 fun s7 J7 => ⟨_, _, _, J7, r6, q6⟩
theorem ps_try_clauses {body : List Stmt} {h₀ : ExceptHandler} {hds : List ExceptHandler} {l : List ClA} {pos : Pos} {tb : WX → TS} (hs : X.stack = X.env :: X.outer) (hf : X.env.frame = some X.env.locals) (hN : X.N.Nodup) (tk : Takes X Wout)
    (hb : ∀ (W : WX) (pn : List (Addr × Obj)) (xe : Value → Shared → Prop), Takes (X.tr pn xe) W → PassesOwn (model X.prog X.w) X.A X.env xe → PSs (X.tr pn xe) body (tb W))
    (hh : ClsOk X (h₀ :: hds) l) : PS X (.Try body (h₀ :: hds) [] [] pos) (fun D σ H => tb (wClauses X.K Wout D l) D σ H) := by
  refine ⟨fun pins s σ H D I h => ?_⟩
  have ok := I.ok
  refine wpAny_Try_except ?_
  refine wpAny_mono ((hb (wClauses X.K Wout D l) (X.pn ++ pins) (fun e s₁ => wpAny (model X.prog X.w) X.A (noteFrame e X.env) (fun _ s₂ => wpAny (model X.prog X.w) X.A (setFlight e none) (fun _ s₃ =>
    wpAny (model X.prog X.w) X.A (handleBy e X.env (h₀ :: hds)) (SP X pins D) X.xe s₃) X.xe s₂) X.xe s₁) (fun u s' xx => ?_) PassesOwn.looking).run [] s σ H D (I.toTry _) h) ?_ (fun e s1 he => he)
  · obtain ⟨a, B, sI, pins', σ', H', cls, d, rfl, J', nb, up, sky, na, os, ag, w⟩ := xx
    show wpAny (model X.prog X.w) X.A (noteFrame (.ref a) X.env) _ _ _
    refine Sky.land Zc.steady (show X.A.frames = some (X.env :: X.outer) by rw [ok.frames, hs]) hf (B := B) (Z := Zc cls d) (L := X.env.locals) (by rw [← hs]; exact sky) ?_
    intro h3 fl3 up3
    exact clauses_ok ok hs hf hN tk (B := B) (sI := sI) (s := s') ⟨J'.ofTry ok, fl3, up.trans up3, nb, na, os, ag⟩ hh w
  · rintro (_ | _ | _ | u) s1 hsp
    · obtain ⟨σ', H', J', q⟩ := hsp
      exact wpAny_execs_nil ⟨σ', H', J'.ofTry ok, q⟩
    · obtain ⟨σ', H', J', q⟩ := hsp
      exact ⟨σ', H', J'.ofTry ok, q⟩
    · obtain ⟨σ', H', J', q⟩ := hsp
      exact ⟨σ', H', J'.ofTry ok, q⟩
    · obtain ⟨v, σ', H', J', r, q⟩ := hsp
      exact ⟨v, σ', H', J'.ofTry ok, r, q⟩
end
end L2
set_option Elab.async false
set_option linter.all false
set_option maxRecDepth 100000
set_option maxHeartbeats 4000000
/-! a def that is called in an except suite with the exception itself; isinstance of it -/
namespace L2
open PySem PySem.Spec PyProof.Rows L2H
def excCB (K : PySem.W.Frag) (D : Addr) : Bool :=
  decide (PySem.W.findIn K (.ref D) "__getattribute__" = some (some (.builtin "BaseException.__getattribute__"))) && (decide (PySem.W.findIn K (.ref D) "__getattr__" = some none) && (decide (PySem.W.subIn K (.ref D) (.type "BaseException") = some true) && (PySem.W.hasDictIn K D &&
  (decide (PySem.W.findIn K (.ref D) "__class__" = some (some (.builtin "object.__class__"))) && (decide (PySem.W.specialIn K (.builtin "object.__class__") "__get__" = some (some (.builtin "getset_descriptor.__get__"))) &&
  (decide (PySem.W.takesIn K (.builtin "object.__class__") = some true) && decide (PySem.W.mroIn K D (.type "object") = some true)))))))
theorem excCB_ok {K : PySem.W.Frag} {D : Addr} (h : excCB K D = true) : ExcC K D := by
  unfold excCB at h
  simp only [Bool.and_eq_true, decide_eq_true_eq] at h
  obtain ⟨h1, h2, h3, h4, h5, h6, h7, h8⟩ := h
  exact ⟨h1, h2, h3, h4, h5, h6, h7, h8⟩
/-- isinstance(e, c), e the exception at a (its class's address D, its dict dd) -/
def rIsX (K : PySem.W.Frag) (D a : Addr) (d : Option Addr) : List V → Hp → VK → Prop := fun xs H Q => ∃ (c : V) (cv : Value) (b : Bool) (dd : Addr) (fs : List (Str × V)), xs = [.ref a, c] ∧ (∀ u, RelV c u → u = cv) ∧ d = some dd ∧ H dd = some (.xd fs) ∧ PySem.W.kitOne K (.ref D) cv = some b ∧ Q (.bl b) H
theorem call_isX {X : Cx} {a D : Addr} {oe : Obj} {d : Option Addr} (hp : (a, oe) ∈ X.pn) (C : ExcC X.K D) (hz : Zc (.ref D) d oe) (hf : ∃ vs, oe.data = .fields vs) : CallR X (.builtin "isinstance") (rIsX X.K D a d) := by
  intro pins s σ H xs us Q I r h
  obtain ⟨c, cv, b, dd, fs, rfl, hcv, ed, hx, e, q⟩ := h
  cases r with
  | cons rx rr =>
    cases rr with
    | cons rt rr =>
      cases rr
      cases rx
      have ec := hcv _ rt
      subst ec
      obtain ⟨hget, _⟩ := I.pin (a, oe) (List.mem_append.mpr (.inl hp))
      obtain ⟨vs, hv⟩ := hf
      have ob : ObjOk X.prog X.w H s.heap dd (.xd fs) := I.hok dd _ hx
      obtain ⟨mA, ⟨od, _, _, hod, _⟩, _⟩ := ob
      have J : PySem.W.InstAt s.heap a oe D (some od) := ⟨hget, hz.1, by unfold PySem.W.notCls; rw [hv] <;> rfl, by rw [hz.2, ed]; exact hod⟩
      refine PySem.W.kia_one (PySem.W.kitx_exc (x := a) (ox := oe) (od := some od) ?_ C.hg C.hk C.hs C.ha C.hn C.ht C.hm) I.kIn J e (fun z => nomatch z) fun tk => ⟨.bl b, H, I.kept (t' := tk) fun _ _ z => z, rfl, q⟩
      obtain ⟨cd, hc, _⟩ := PySem.W.any_some C.hd
      rw [hc]
      rfl
/-- what such a def promises: called with the exception at a, of the class at D, its dict at d -/
structure FnE (P : Program) (w : World) (K : PySem.W.Frag) (mg : Str → Option Value) (base : Heap) (k : Nat) (f : Addr) (fd : FuncData) (ps : List Str) (sp : Addr → Addr → Option Addr → Sp) : Prop where
  go : ∀ (A : Around) (outer : List Env) (s : Shared) (H : Hp) (args : Args) (us : List Value) (vs : List V) (Q : VK) (a D : Addr) (d : Option Addr) (oe : Obj), RoomH k A → PinOk outer H s (a, oe) → Zc (.ref D) d oe → (∃ vs, oe.data = .fields vs) → Env0 P w K mg base A outer s H →
    BindsTo s fd args (ps.zip us) → Vals vs us → vs.length = ps.length → sp a D d vs H Q E0 → codeAny (model P w) A (.call (.ref f) args) (CR CX0 outer P w H s Q E0) s
section
variable {P : Program} {w : World} {K : PySem.W.Frag} {mg : Str → Option Value} {base : Heap} {k : Nat} {f : Addr} {fd : FuncData} {ps : List Str} {sp : Addr → Addr → Option Addr → Sp}
theorem FunD.okE {x qual : Str} {params : Arguments} {body : List Stmt} {scope : Scope} {dvs : List V} {kws : List (Str × V)} {N : List Str} (F : FunD K x qual params body scope dvs kws f fd) (S : FnScope N ps scope)
    (hbody : ∀ (cdv : Value) (A : Around) (outer : List Env) (s : Shared) (H : Hp) (vs : List V) (Q : VK) (a D : Addr) (d : Option Addr) (oe : Obj), Zc (.ref D) d oe → (∃ vs, oe.data = .fields vs) → sp a D d vs H Q E0 →
      ∃ t, PSs (cxH CX0 P w K mg base N qual scope f cdv A outer s H E0 (a, oe)) body t ∧ t { nx := fun _ H' => Q .non H', rt := Q } (L2.start N vs) H) : FnE P w K mg base (k + 1) f fd ps sp := by
  obtain ⟨oc, od, dV, kV, doc, pm, an, cdv, ct, osl, rfl, lk, hcd, _, _⟩ := F.ex
  refine ⟨fun A outer s H args us vs Q a D d oe hr hpin hz hf e0 hb r hl hsp => ?_⟩
  have inK : K.In s.heap := e0.mod.kin.keeps fun b o e => (e0.bs b o e).1
  have kinds : ∀ y ∈ ps.zip us, scope.names.lookup y.1 = some .local ∨ (scope.names.lookup y.1 = some .cell ∧ ((cellsFrom (s.heap.objs.size + 1) scope.names []).lookup y.1).isSome = true) := by
    rintro ⟨n, v⟩ hy
    exact (S.par n (List.of_mem_zip hy).1).imp id fun q => ⟨q, PySem.W.cellsFrom_some _ _ _ (.inl q)⟩
  have room : (s.heap).NoLimit := e0.mod.nolimit.keeps fun b o e => (e0.bs b o e).1
  refine codeAny_call_function hr.depth (inK _ _ lk) rfl S.co S.gen rfl (PySem.W.codeRec_of inK hcd) (hb _ _ _ _ ?_)
  refine wpAny_newFunctionEnv_cells S.kind kinds ?_
  rintro env he s1 x
  subst he
  refine ⟨room.keeps x.toInCall.keep, codeAny_func ?_⟩
  obtain ⟨t, ht, hq⟩ := hbody cdv A outer s H vs Q a D d oe hz hf hsp
  refine wpAny_mono (ht.run [] s1 _ H _ (inv_startH S hpin e0 hl r x) hq) ?_ fun _ _ z => z
  rintro (_ | _ | _ | u) s' hs
  · obtain ⟨σ', H', J, q⟩ := hs
    exact ⟨.non, H', J.os, J.bare, J.base, J.hok, rfl, q⟩
  · obtain ⟨_, _, _, z⟩ := hs
    exact z.elim
  · obtain ⟨_, _, _, z⟩ := hs
    exact z.elim
  · obtain ⟨v, σ', H', J, rv, q⟩ := hs
    exact ⟨v, H', J.os, J.bare, J.base, J.hok, rv, q⟩
end
section
variable {X : Cx} {k : Nat} {f a D : Addr} {d : Option Addr} {oe : Obj} {fd : FuncData} {ps : List Str} {sp : Addr → Addr → Option Addr → Sp} {x : Str} {q pos : Pos} {e : Expr} {es : List Expr} {t : TA}
def tCallE (ps : List Str) (s : Sp) (t : TA) : TE := fun σ H Q => t σ H fun vs H1 => vs.length = ps.length ∧ s vs H1 Q E0
theorem pe_callE (F : FnE X.prog X.w X.K X.mg X.base k f fd ps sp) (hr : RoomH k X.A) (hp : (a, oe) ∈ X.pn) (hz : Zc (.ref D) d oe) (hf : ∃ vs, oe.data = .fields vs) (hg : Gl X x) (hm : X.mg x = some (.ref f)) (hk : PySem.W.keepIn X.K (.ref f) = true) (hb : Binds X.K fd ps [])
    (ha : PA X (e :: es) t) (hdb : (x == ("__debug__" : Str)) = false := by decide) (he : starEach (e :: es) X.env = (false, eval e X.env) :: starEach es X.env := by rfl) (hpl : (backTo pos (starEach es X.env)).any (·.1) = false := by rfl) :
    PE X (.Call (.Name x q) (e :: es) [] pos) (tCallE ps (sp a D d) t) := by
  refine ⟨fun pins s σ H Q I h => wpAny_Call_Name_kw (ld_glob I hg hm ?_ hdb)⟩
  refine PySem.W.callWith_K (h₀ := X.base) I.ok.mod.kin hk (thn (ha.run pos pins s σ H _ I h) ?_) he hpl
  rintro us s1 ⟨vs, H1, I1, r, hl, q⟩
  refine ⟨I1.kIn, ?_⟩
  have b := hb s1 us I1.kIn (by rw [List.append_nil, ← r.length]; exact hl)
  rw [List.append_nil] at b
  have P1 := I1.pin (a, oe) (List.mem_append_left _ hp)
  have hpin : PinOk X.stack H1 s1 (a, oe) := ⟨P1.1, P1.2.1, fun hm => (List.mem_cons.mp (I1.stkSub a hm)).elim P1.2.2.1 P1.2.2.2.1, P1.2.2.2.2⟩
  refine wpAny_call (codeAny_mono (F.go X.A X.stack s1 H1 ⟨us, []⟩ us vs Q a D d oe hr hpin hz hf I1.env0 b r hl q) ?_)
  rintro (er | (_ | _ | _ | u)) s' hq
  · exact hq.elim
  · exact hq.elim
  · exact hq.elim
  · exact hq.elim
  · exact I1.after hq
end
end L2
set_option Elab.async false
set_option linter.all false
set_option maxRecDepth 100000
set_option maxHeartbeats 4000000
/-! defs that are called while no repr runs (A.guards is empty): what is shown of data is then known -/
namespace L2
open PySem PySem.Spec PyProof.Rows
structure FnG (P : Program) (w : World) (K : PySem.W.Frag) (mg : Str → Option Value) (base : Heap) (CX : CXT) (k : Nat) (f : Addr) (fd : FuncData) (ps : List Str) (sp : Sp) : Prop where
  len : ∀ vs H Q E, sp vs H Q E → vs.length = ps.length
  go : ∀ (A : Around) (outer : List Env) (s : Shared) (H : Hp) (args : Args) (us : List Value) (vs : List V) (Q : VK) (E : XK), A.guards = some [] → Room k A → Env0 P w K mg base A outer s H → BindsTo s fd args (ps.zip us) → Vals vs us → sp vs H Q E →
    codeAny (model P w) A (.call (.ref f) args) (CR CX outer P w H s Q E) s
section
variable {P : Program} {w : World} {K : PySem.W.Frag} {mg : Str → Option Value} {base : Heap} {CX : CXT} {k : Nat} {f : Addr} {fd : FuncData} {ps : List Str} {sp sp' : Sp}
theorem FnOk.g (F : FnOk P w K mg base CX k f fd ps sp) : FnG P w K mg base CX k f fd ps sp := ⟨F.len, fun A outer s H args us vs Q E _ => F.run A outer s H args us vs Q E⟩
theorem FnG.mono {j : Nat} (F : FnG P w K mg base CX j f fd ps sp) (h : j ≤ k) : FnG P w K mg base CX k f fd ps sp := ⟨F.len, fun A outer s H args us vs Q E hg hr => F.go A outer s H args us vs Q E hg (hr.mono h)⟩
theorem FnG.imp (F : FnG P w K mg base CX k f fd ps sp) (h : ∀ vs H Q E, sp' vs H Q E → sp vs H Q E) : FnG P w K mg base CX k f fd ps sp' :=
  ⟨fun vs H Q E q => F.len vs H Q E (h _ _ _ _ q), fun A outer s H args us vs Q E hg hr he hb hv hs => F.go A outer s H args us vs Q E hg hr he hb hv (h _ _ _ _ hs)⟩
/-- a def by its body -/
theorem FunD.okG {x qual : Str} {params : Arguments} {body : List Stmt} {scope : Scope} {dvs : List V} {kws : List (Str × V)} {N : List Str} (F : FunD K x qual params body scope dvs kws f fd) (S : FnScope N ps scope) (len : ∀ vs H Q E, sp vs H Q E → vs.length = ps.length)
    (hbody : ∀ (cdv : Value) (A : Around) (outer : List Env) (s : Shared) (H : Hp) (vs : List V) (Q : VK) (E : XK), A.guards = some [] → Room k (A.deeper (envOfC qual scope s.heap.objs.size f cdv)) → sp vs H Q E →
      ∃ t, PSs (cxOf CX P w K mg base N qual scope f cdv A outer s H E) body t ∧ t { nx := fun _ H' => Q .non H', rt := Q } (start N vs) H) : FnG P w K mg base CX (k + 1) f fd ps sp := by
  obtain ⟨oc, od, dV, kV, doc, pm, an, cdv, ct, osl, rfl, lk, hcd, _, _⟩ := F.ex
  refine ⟨len, fun A outer s H args us vs Q E hg hr e0 hb r hsp => ?_⟩
  have inK : K.In s.heap := e0.mod.kin.keeps fun b o e => (e0.bs b o e).1
  have hl := len _ _ _ _ hsp
  have kinds : ∀ y ∈ ps.zip us, scope.names.lookup y.1 = some .local ∨ (scope.names.lookup y.1 = some .cell ∧ ((cellsFrom (s.heap.objs.size + 1) scope.names []).lookup y.1).isSome = true) := by
    rintro ⟨n, v⟩ hy
    exact (S.par n (List.of_mem_zip hy).1).imp id fun q => ⟨q, PySem.W.cellsFrom_some _ _ _ (.inl q)⟩
  have room : (s.heap).NoLimit := e0.mod.nolimit.keeps fun b o e => (e0.bs b o e).1
  refine codeAny_call_function hr.depth (inK _ _ lk) rfl S.co S.gen rfl (PySem.W.codeRec_of inK hcd) (hb _ _ _ _ ?_)
  refine wpAny_newFunctionEnv_cells S.kind kinds ?_
  rintro env he s1 x
  subst he
  refine ⟨room.keeps x.toInCall.keep, codeAny_func ?_⟩
  obtain ⟨t, ht, hq⟩ := hbody cdv A outer s H vs Q E hg (hr.deeper _) hsp
  refine wpAny_mono (ht.run [] s1 _ H _ (inv_start S hr.hd e0 hl r x) hq) ?_ fun _ _ z => z
  rintro (_ | _ | _ | u) s' hs
  · obtain ⟨σ', H', J, q⟩ := hs
    exact ⟨.non, H', J.os, J.bare, J.base, J.hok, rfl, q⟩
  · obtain ⟨_, _, _, z⟩ := hs
    exact z.elim
  · obtain ⟨_, _, _, z⟩ := hs
    exact z.elim
  · obtain ⟨v, σ', H', J, rv, q⟩ := hs
    exact ⟨v, H', J.os, J.bare, J.base, J.hok, rv, q⟩
end
section
variable {X : Cx} {CX : CXT} {k : Nat} {f : Addr} {fd : FuncData} {ps : List Str} {sp : Sp} {E : XK} {x : Str} {p pos : Pos} {e : Expr} {es : List Expr} {t : TA}
/-- with the guards known, such a def is any def at this place -/
theorem FnG.callAt {pins : List (Addr × Obj)} {σ : St} {H : Hp} {s : Shared} {Q : VK} {us : List Value} {vs : List V} {W : XK} (F : FnG X.prog X.w X.K X.mg X.base CX k f fd ps sp) (hg : X.A.guards = some []) (hr : Room k X.A) (hb : Binds X.K fd ps [])
    (hx : ∀ e s', CX X.stack H s W e s' → X.xe e s') (I : Inv X pins σ H s) (r : Vals vs us) (h : sp vs H Q W) : wpAny (model X.prog X.w) X.A (call (.ref f) us) (EP X pins σ Q) X.xe s := by
  have b := hb s us I.kIn (by rw [List.append_nil, ← r.length]; exact F.len _ _ _ _ h)
  rw [List.append_nil] at b
  refine wpAny_call (codeAny_mono (F.go X.A X.stack s H ⟨us, []⟩ us vs Q W hg hr I.env0 b r h) ?_)
  rintro (er | (_ | _ | _ | u)) s' hq
  · exact hx er s' hq
  · exact hq.elim
  · exact hq.elim
  · exact hq.elim
  · exact I.after hq
theorem pe_callG0 (F : FnG X.prog X.w X.K X.mg X.base CX k f fd ps sp) (hgd : X.A.guards = some []) (hr : Room k X.A) (hg : Gl X x) (hm : X.mg x = some (.ref f)) (hk : PySem.W.keepIn X.K (.ref f) = true) (hb : Binds X.K fd ps []) (hx : Passes CX X E)
    (ha : PA X (e :: es) t) (hdb : (x == ("__debug__" : Str)) = false := by decide) (he : starEach (e :: es) X.env = (false, eval e X.env) :: starEach es X.env := by rfl) (hpl : (backTo pos (starEach es X.env)).any (·.1) = false := by rfl) :
    PE X (.Call (.Name x p) (e :: es) [] pos) (tCall sp [] E t) := by
  refine ⟨fun pins s σ H Q I h => wpAny_Call_Name_kw (ld_glob I hg hm ?_ hdb)⟩
  refine PySem.W.callWith_K (h₀ := X.base) I.ok.mod.kin hk (thn (ha.run pos pins s σ H _ I h) ?_) he hpl
  rintro us s1 ⟨vs, H1, I1, r, q⟩
  exact ⟨I1.kIn, F.callAt hgd hr hb (fun e s' => hx pins σ H1 s1 e s' I1) I1 r (by rw [List.append_nil] at q; exact q)⟩
/-- .. where what it raises is wished for at the caller's slots -/
theorem pe_callGS {E : St → XK} (F : FnG X.prog X.w X.K X.mg X.base CX k f fd ps sp) (hgd : X.A.guards = some []) (hr : Room k X.A) (hg : Gl X x) (hm : X.mg x = some (.ref f)) (hk : PySem.W.keepIn X.K (.ref f) = true) (hb : Binds X.K fd ps []) (hx : ∀ σ, PassesAt CX X σ (E σ))
    (ha : PA X (e :: es) t) (hdb : (x == ("__debug__" : Str)) = false := by decide) (he : starEach (e :: es) X.env = (false, eval e X.env) :: starEach es X.env := by rfl) (hpl : (backTo pos (starEach es X.env)).any (·.1) = false := by rfl) :
    PE X (.Call (.Name x p) (e :: es) [] pos) (tCallS sp E t) := by
  refine ⟨fun pins s σ H Q I h => wpAny_Call_Name_kw (ld_glob I hg hm ?_ hdb)⟩
  refine PySem.W.callWith_K (h₀ := X.base) I.ok.mod.kin hk (thn (ha.run pos pins s σ H _ I h) ?_) he hpl
  rintro us s1 ⟨vs, H1, I1, r, q⟩
  exact ⟨I1.kIn, F.callAt hgd hr hb (fun e s' => hx σ pins H1 s1 e s' I1) I1 r q⟩
end
/-! ### repr of data -/
def rRepr (K : PySem.W.Frag) : List V → Hp → VK → Prop := fun xs H Q => ∃ (x : V) (d : PyData), xs = [x] ∧ Dp K H x d ∧ d.showable = true ∧ d.hasDict = false ∧ d.depth ≤ 64 ∧ d.shown.length ≤ sizeLine ∧ Q (.str d.shown) H
theorem call_repr {X : Cx} (hgd : X.A.guards = some []) (hu : X.A.units + 66 < cLine) : CallR X (.builtin "repr") (rRepr X.K) := by
  intro pins s σ H xs us Q I r h
  obtain ⟨x, d, rfl, hd, hs, hn, hdp, hz, q⟩ := h
  cases r with
  | cons r1 r2 =>
    cases r2
    rename_i u
    obtain ⟨as, rd⟩ := Dp.reads I d x u hd r1
    cases rd with
    | none => exact PySem.P.repr_of_none ⟨.str _, H, I.tok _, ⟨_, rfl⟩, by simpa only [PyData.shown] using q⟩
    | bool b => exact PySem.P.repr_of_bool ⟨.str _, H, I.tok _, ⟨_, rfl⟩, by simpa only [PyData.shown] using q⟩
    | int i t => exact PySem.P.repr_of_int (by simpa [PyData.showable] using hs) ⟨.str _, H, I.tok _, ⟨_, rfl⟩, by simpa only [PyData.shown] using q⟩
    | str z t => exact PySem.P.repr_of_str ⟨.str _, H, I.tok _, ⟨_, rfl⟩, by simpa only [PyData.shown] using q⟩ (by simpa only [PyData.shown] using hz)
    | list h1 h2 h3 h4 =>
      exact repr_of_reads' (.list h1 h2 h3 h4) hs (PyData.noDict_hsm hn) hgd (by omega) (fun _ _ e => e) (fun h' u tk hk => ⟨.str _, H, I.kept hk, ⟨u, rfl⟩, q⟩) hz
    | tuple h1 h2 h3 h4 =>
      exact repr_of_reads' (.tuple h1 h2 h3 h4) hs (PyData.noDict_hsm hn) hgd (by omega) (fun _ _ e => e) (fun h' u tk hk => ⟨.str _, H, I.kept hk, ⟨u, rfl⟩, q⟩) hz
    | dict => simp [PyData.hasDict] at hn
end L2
set_option Elab.async false
set_option linter.all false
set_option maxRecDepth 100000
set_option maxHeartbeats 4000000
/-! a law's end where its defs know that no repr runs -/
namespace L2
open PySem PySem.Spec PyProof.Rows
section
variable {P : Program} {w : World} {K : PySem.W.Frag} {mg mb : Str → Option Value} {CX : CXT} {k : Nat} {fa a : Addr} {fd : FuncData} {x : Str} {sp : Sp} {s₁ : Shared} {vs : List Value} {ns : List Int}
/-- what the script's list is, as an object -/
abbrev scrO (vs : List Value) : Obj := { cls := .type "list", data := .seq vs.toArray }
/-- an abstract heap for the entry: it tells of the script at most -/
structure EntryH (P : Program) (w : World) (K : PySem.W.Frag) (H : Hp) (h : Heap) (a : Addr) (ns : List Int) : Prop where
  only : Only H
  seq : SqL K H a (ns.map V.int)
  ok : HOk P w H h
  at_ : ∀ b, H b ≠ none → b = a
  out : H a ≠ none → K.lookup a = none
theorem entry_ex (KX : K.In s₁.heap) (ha : s₁.heap.get? a = some (scrO vs)) (hi : IntsAre vs ns) (hl : ns.length ≤ sizeLine) : ∃ H, EntryH P w K H s₁.heap a ns := by
  have rv := vals_ints hi
  by_cases hk : K.lookup a = none
  · refine ⟨fun b => if b = a then some (.frz (scrO vs) (.lst (ns.map V.int))) else none, fun b => ?_, .inl (.inr ⟨scrO vs, if_pos rfl⟩), fun b u z => ?_, fun b z => ?_, fun _ => hk⟩
    · exact (Decidable.em (b = a)).elim (fun e => .inr ⟨_, _, if_pos e⟩) fun e => .inl (if_neg e)
    · by_cases e : b = a
      · subst e
        obtain rfl := Option.some.inj ((if_pos rfl).symm.trans z)
        exact ⟨ha, by rw [List.length_map]; exact hl, vs, _, rv, ha⟩
      · exact nomatch (if_neg e).symm.trans z
    · exact Decidable.byContradiction fun e => z (if_neg e)
  · obtain ⟨o, hk⟩ := Option.ne_none_iff_exists'.mp hk
    obtain rfl : scrO vs = o := Option.some.inj (ha.symm.trans (KX a o hk))
    exact ⟨fun _ => none, fun _ => .inl rfl, .inr ⟨_, vs.toArray, _, hk, rfl, rfl, rfl, by rw [List.size_toArray, hi.length]; exact hl, by simpa using rv⟩, fun _ _ z => (nomatch z), fun _ z => absurd rfl z, fun z => absurd rfl z⟩
theorem law_callG (KX : K.In s₁.heap) (hns : s₁.heap.Ns mainGlobals mg) (hb : s₁.heap.Ns builtinsNs mb) (hbb : ∀ x : Str, x ≠ "__name__" → mb x = bootBuiltins x) (hlim : s₁.heap.NoLimit) (hg : s₁.gens = #[])
    (ha : s₁.heap.get? a = some (scrO vs)) (hi : IntsAre vs ns) (hl : ns.length ≤ sizeLine) (hr : Room k callerA)
    (F : ∀ base : Heap, Mod K mg base → FnG P w K mg base CX k fa fd [x] sp) (hbind : ∀ (s : Shared) (u : Value), BindsTo s fd ⟨[u], []⟩ [(x, u)])
    (hsp : ∀ H : Hp, Only H → SqL K H a (ns.map V.int) → sp [.ref a] H (fun v _ => v = .bl true) fun _ _ _ => False)
    (hCX : ∀ H e s', CX [] H s₁ (fun _ _ _ => False) e s' → False) :
    codeAny (model P w) callerA (.call (.ref fa) ⟨[.ref a], []⟩) (fun r s' => r = .ok (.ret (.bool true)) ∧ OldK s₁.heap s'.heap ∧ s'.os = s₁.os ∧ AllBare s'.gens) s₁ := by
  obtain ⟨H, T⟩ := entry_ex (P := P) (w := w) KX ha hi hl
  have isA : ∀ {b : Addr} {o : Obj}, s₁.heap.get? b = some o → H b ≠ none → o = scrO vs := fun {b o} e n => by
    rw [T.at_ b n, ha] at e
    exact (Option.some.inj e).symm
  have dictN : ∀ {b : Addr} {m : Str → Option Value}, s₁.heap.Ns b m → (hidT s₁.heap H).Ns b m := by
    rintro b m ⟨o, es, ep, e, d, r⟩
    refine ⟨o, es, ep, hidT_get e (Decidable.byContradiction fun n => ?_), d, r⟩
    rw [isA e n] at d
    exact nomatch (show Data.seq vs.toArray 0 = Data.dict es ep from d)
  have inB : K.In (hidT s₁.heap H) := fun b o e => hidT_get (KX b o e) (Decidable.byContradiction fun n => by
    obtain rfl := T.at_ b n
    rw [T.out n] at e
    cases e)
  have hM : Mod K mg (hidT s₁.heap H) := ⟨inB, dictN hns, ⟨mb, dictN hb, hbb⟩, let ⟨mc, h1, h2⟩ := hlim; ⟨mc, dictN h1, h2⟩⟩
  have e0 : Env0 P w K mg (hidT s₁.heap H) callerA [] s₁ H := ⟨rfl, hM, fun b o e => of_hidT e, Nat.le_of_eq (hidT_size _ _), trivial, fun b z => absurd (show b ∈ ([] : List Addr) from z) (by simp), T.ok, .of_eq hg⟩
  refine codeAny_mono ((F _ hM).go callerA [] s₁ H ⟨[.ref a], []⟩ [.ref a] [.ref a] _ _ rfl hr e0 (hbind s₁ (.ref a)) (.cons rfl .nil) (hsp H T.only T.seq)) ?_
  rintro (er | (_ | _ | _ | u)) s' h
  · exact (hCX H er s' h).elim
  · exact h.elim
  · exact h.elim
  · exact h.elim
  · obtain ⟨v, H', os, bare, un, hok', r', rfl⟩ := h
    obtain rfl : u = Value.bool true := r'
    refine ⟨rfl, OldK.of_keep fun b o e => ?_, os, bare⟩
    cases q : H b with
    | none => exact un.keep b o e q (fun z => absurd (show b ∈ ([] : List Addr) from z) (by simp)) (by simp)
    | some u =>
      rcases T.only b with z | ⟨ob, xs, z⟩
      · exact nomatch q.symm.trans z
      · have e1 := (T.ok b _ z).1
        obtain rfl := Option.some.inj (e.symm.trans e1)
        exact (hok' b _ (un.frzs b _ _ z)).1
theorem walk_ofG {l : PySem.W.OpenLaw} {n : Nat} {q : Program} {loose : List Str} {XP : (Str → Option Value) → Heap → Prop} {YP : World → Heap → Prop} {d : DefRec}
    (hn : l.most = some n) (hn2 : n ≤ sizeLine) (hdf : d.params.defaults = []) (hr : Room k callerA)
    (F : ∀ (w : World) (mg : Str → Option Value) (fa : Addr) (h : Heap), YP w h → h.Ns mainGlobals mg → mg d.name = some (.ref fa) →
      ∃ (K : PySem.W.Frag) (fd : FuncData) (sp : Sp), K.In h ∧ (∀ (s : Shared) (u : Value), BindsTo s fd ⟨[u], []⟩ [(x, u)]) ∧
        (∀ (H : Hp) (a : Addr) (ns : List Int), ns.length ≤ n → Only H → SqL K H a (ns.map V.int) → sp [.ref a] H (fun v _ => v = .bl true) fun _ _ _ => False) ∧
        ∀ base : Heap, Mod K mg base → FnG l.prog w K mg base CX k fa fd [x] sp)
    (hCX : ∀ (H : Hp) (s : Shared) (e : Value) (s' : Shared), CX [] H s (fun _ _ _ => False) e s' → False) :
    PySem.W.WalkO q loose XP YP l.row.toRowW d [] (fun f vs => PySem.call f vs) := by
  refine Att.attach_call hn hdf ?_
  intro w s₀ s₁ mg mb fa o pm cd doc a vs ns G Y ho hd hcd hmg hobj hints hlen hg
  obtain ⟨K, fd, sp, KX, hb, hsp, hF⟩ := F w mg fa _ Y G.T.g hmg
  exact law_callG KX G.T.g G.T.b G.T.builtins G.T.nolimit hg hobj hints (Nat.le_trans hlen hn2) hr hF hb (fun H hO hS => hsp H a ns hlen hO hS) fun H e s' => hCX H s₁ e s'
end
end L2
set_option Elab.async false
set_option linter.all false
set_option maxRecDepth 100000
set_option maxHeartbeats 0
namespace K00
open PySem PySem.Spec PyProof.Rows L2 He HX
abbrev PR : Program := PySem.Challenge.pw_treewrought_k00_errors_and_limits
def topS (i : Nat) : Stmt := PR.main.body.getD i (.Pass ⟨0, 0, 0, 0⟩)
def inner : Stmt → Stmt
  | .ClassDef (body := b) .. => b.getD 0 (.Pass ⟨0, 0, 0, 0⟩)
  | s => s
def mkD (i : Nat) (x : Str) : DefD := ⟨(x, none), x, x, defArgs (topS i), defBody (topS i), defScope (topS i), [], []⟩
def fn : List DefD := [mkD 56 "_law_draws", mkD 57 "_law_more", mkD 58 "_law_take", mkD 59 "_law_one", mkD 60 "_law_limits_right", mkD 61 "_law_raise", mkD 62 "_law_kinds", mkD 63 "_law_caught", mkD 64 "_law_fields", mkD 65 "law"]
def mkE (i : Nat) (x y : Str) (q : Str) : ExD := ⟨x, y, q, defArgs (inner (topS i)), defBody (inner (topS i)), defScope (inner (topS i))⟩
def ex : List ExD := [mkE 2 "ArgumentError" "ReasonError" "ReasonError.__init__", mkE 2 "PaperError" "ReasonError" "ReasonError.__init__", mkE 2 "TooMany" "ReasonError" "ReasonError.__init__", mkE 2 "CheckError" "ReasonError" "ReasonError.__init__",
  mkE 7 "TextError" "TextError" "TextError.__init__", mkE 8 "LogError" "LogError" "LogError.__init__", mkE 9 "CommandError" "CommandError" "CommandError.__init__"]
def faL : List Fa := ([.int "MAX_NAME" 12, .int "MAX_NODES" 60, .int "MAX_DEEP" 12, .int "MAX_PATTERN" 10, .int "MAX_COUNT" 3, .int "MAX_WATCHED" 6, .int "MAX_LABELS" 6, .int "MAX_CASES" 1000, .int "MAX_BOUNDS" 8, .int "MAX_CONTENT" 24, .int "MAX_ROW" 6, .int "MAX_CHANGES" 40, .int "MAX_FIELDS" 4, .int "MAX_KEYS" 8, .int "MAX_STEPS" 8, .int "MAX_NESTED" 30, .int "MAX_TEXT" 4000, .int "MAX_RULES" 8, .int "MAX_TREES" 8, .int "MAX_LEARNT" 400, .int "MAX_LINES" 100, .int "MAX_VIEWS" 6, .int "MAX_COUNTED" 12] : List Fa) ++ ([.int "MAX_JOINED" 16, .int "MAX_PACK" 8, .int "MAX_REWRITTEN" 60, .int "MAX_WALKED" 300, .int "MAX_WEIGHT" 1000000, .int "MAX_COLUMNS" 3, .int "MAX_TIES" 6, .int "MAX_TABLE" 4000, .int "MAX_EXPRESSED" 20, .int "MAX_LETTERS_OF" 5, .int "MAX_FREQUENT" 400, .int "MAX_GRAMMAR" 12, .int "MAX_SPREAD" 2000, .int "MAX_MOMENT" 1000000, .int "MAX_SMALL" 5, .int "MAX_SHIFTED" 8000, .int "MAX_TOLD" 64, .int "MAX_LISTED" 60, .int "MAX_SEEN_OF" 400, .int "MAX_BLANKS" 12, .int "MAX_SEED" 1000000007, .int "MAX_MARKED" 3000] : List Fa) ++ ([.free "abs", .free "int", .free "range", .free "len", .free "repr", .free "isinstance", .free "ValueError"] : List Fa) ++ ([.glo "_law_draws", .glo "_law_more", .glo "_law_take", .glo "_law_one", .glo "_law_limits_right", .glo "_law_raise", .glo "_law_kinds", .glo "_law_caught", .glo "_law_fields", .glo "law", .glo "TreeError"] : List Fa) ++ ([.noat "ArgumentError" "reason", .noat "PaperError" "reason", .noat "TooMany" "reason", .noat "CheckError" "reason", .noat "TextError" "at", .noat "LogError" "number", .noat "LogError" "reason", .noat "CommandError" "line"] : List Fa)
def exN : List Str := ["ArgumentError", "PaperError", "TooMany", "CheckError", "TextError", "LogError", "CommandError"]
def okE (K : PySem.W.Frag) (x : Str) : Bool := excCB K (ga K x) && (decide (PySem.W.exmOne K (.ref (ga K x)) (.ref (ga K "TreeError")) = some true) && (decide (PySem.W.kitOne K (.ref (ga K x)) (.type "ValueError") = some true) &&
  exN.all fun y => decide (PySem.W.exmOne K (.ref (ga K x)) (.ref (ga K y)) = some (decide (x = y))) && decide (PySem.W.kitOne K (.ref (ga K x)) (.ref (ga K y)) = some (decide (x = y)))))
def okF (K : PySem.W.Frag) : Bool := (faL.all fun f => f.ok K) && exN.all fun x => okE K x
abbrev hk : PySem.W.Hook := hookX 5 PR.main.file okF fn ex
def ob (s : PySem.W.SharedT) : AlX := obsXG 5 PR.main.file okF fn ex (HandSHeadRun.getT s)
theorem ob_eq (s : PySem.W.SharedT) : ob s = hk.obs s.abs := obsXG_eq (HandSHeadRun.getT_eq s)
abbrev R : PySem.W.OpenRow := PySem.W.OpenLaw.row PySem.Challenge.rw_treewrought_k00_errors_and_limits
def loose : List Str := (["TreeError", "ReasonError", "ArgumentError", "PaperError", "TooMany", "CheckError", "TextError", "LogError", "CommandError", "MAX_NAME", "MAX_NODES", "MAX_DEEP", "MAX_PATTERN", "MAX_COUNT", "MAX_WATCHED", "MAX_LABELS", "MAX_CASES", "MAX_BOUNDS", "MAX_CONTENT", "MAX_ROW", "MAX_CHANGES", "MAX_FIELDS", "MAX_KEYS", "MAX_STEPS", "MAX_NESTED", "MAX_TEXT", "MAX_RULES", "MAX_TREES", "MAX_LEARNT", "MAX_LINES"] : List Str) ++ (["MAX_VIEWS", "MAX_COUNTED", "MAX_JOINED", "MAX_PACK", "MAX_REWRITTEN", "MAX_WALKED", "MAX_WEIGHT", "MAX_COLUMNS", "MAX_TIES", "MAX_TABLE", "MAX_EXPRESSED", "MAX_LETTERS_OF", "MAX_FREQUENT", "MAX_GRAMMAR", "MAX_SPREAD", "MAX_MOMENT", "MAX_SMALL", "MAX_SHIFTED", "MAX_TOLD", "MAX_LISTED", "MAX_SEEN_OF", "MAX_BLANKS", "MAX_SEED", "MAX_MARKED", "_law_draws", "_law_more", "_law_take", "_law_one", "_law_limits_right", "_law_raise"] : List Str) ++ (["_law_kinds", "_law_caught", "_law_fields"] : List Str)
theorem run (w : World) : HandSHeadRun.RunEq R (PySem.W.view R.prog [65]) hk ob 4000 loose w := by
  intro os
  kernel_rfl
end K00
set_option Elab.async false
set_option linter.all false
set_option maxRecDepth 100000
set_option maxHeartbeats 4000000
namespace K00
open PySem PySem.Spec PyProof.Rows L2
abbrev FnP (K : PySem.W.Frag) (x : Str) (st : Stmt) (f : Addr) (fd : FuncData) : Prop := FunD K x x (defArgs st) (defBody st) (defScope st) [] [] f fd
theorem same_new {H : Hp} {p : Addr} {o : HO} (h : H p = none) : Same H (upd H p o) := fun b x e => by
  rw [upd_ne (ne_of_none e h)]
  exact e
/-! ### _law_draws -/
abbrev sDraws : Stmt := topS 56
theorem scDraws : FnScope ["script", "draws", "cell", "rest", "k", "mixed"] ["script"] (defScope sDraws) := ⟨rfl, rfl, rfl, by decide +kernel, rfl, by decide +kernel, by decide +kernel⟩
def spDraws (K : PySem.W.Frag) : Sp := fun vs H Q _ => ∃ (a : Addr) (ns : List Int), vs = [.ref a] ∧ SqL K H a (ns.map V.int) ∧ ∀ H' p (ds : List Int), Same H H' → H p = none → H' p = some (.lst (ds.map V.int)) → Q (.ref p) H'
theorem big {n m : Nat} (h : n < 60 * (m + 1)) (hm : m ≤ 63) : n < sizeLine := by
  rw [sizeLine_eq]
  omega
section
variable {P : Program} {w : World} {K : PySem.W.Frag} {mg : Str → Option Value} {base : Heap}
/-- all of H stands in H' but the list at o -/
def But (o : Addr) (H H' : Hp) : Prop := ∀ b x, b ≠ o → H b = some x → H' b = some x
theorem ok_draws {f : Addr} {fd : FuncData} {k : Nat} (F : FnP K "_law_draws" sDraws f fd) (ma : mg "abs" = none) (mi : mg "int" = none) (mr : mg "range" = none) : FnOk P w K mg base CX0 (k + 1) f fd ["script"] (spDraws K) := by
  refine F.ok scDraws (fun vs H Q E h => ?_) (fun cdv A outer s H vs Q E hr h => ?_)
  · obtain ⟨a, ns, rfl, _⟩ := h
    rfl
  · obtain ⟨a, ns, rfl, hS, q⟩ := h
    refine ⟨_, PSs.nox (pss_cons (ps_set (i := 1) scDraws.nd rfl (.inl rfl) (pe_lst pa_nil))
      (pss_cons (ps_for PassesOwn.never rfl (pi_list (pe_slice sl_list (pv 0) po_none (po_some pe_int))) (pg_name (i := 2) scDraws.nd rfl (.inl rfl))
        (pss_cons (ps_set (i := 3) scDraws.nd rfl (.inl rfl) (pe_callB call_abs (by rfl) ma (by decide +kernel) (pa_cons (pv 2) pa_nil)))
        (pss_one (ps_if (pt_cmpR op_ge (pv 3) (pe_op op_pow pe_int pe_int) (nomark _))
          (pss_one (ps_for PassesOwn.never rfl (pi_range1 rfl mr (pa_cons pe_int pa_nil)) (pg_name (i := 4) scDraws.nd rfl (.inl rfl))
            (pss_one (ps_if (pt_cmpR op_gt (pv 3) pe_int (nomark _))
              (pss_cons (ps_expr (pe_bm PySem.F.plainAttrs_list PySem.F.slot_list_append PySem.F.type_list_append mt_append (pv 1) (pa_cons (pe_op op_mod (pe_callTy call_int1 (by rfl) mi (by decide +kernel) (pa_cons (pv 3) pa_nil)) pe_int) pa_nil)))
              (pss_one (ps_set (i := 3) scDraws.nd rfl (.inl rfl) (pe_op op_fdivN (pv 3) pe_int)))) pss_nil))))
          (pss_cons (ps_set (i := 5) scDraws.nd rfl (.inl rfl) (pe_op op_mod (pe_callTy call_int1 (by rfl) mi (by decide +kernel) (pa_cons (pe_op op_add (pe_op op_mul (pv 3) pe_int) pe_int) pa_nil)) pe_int))
          (pss_one (ps_for PassesOwn.never rfl (pi_range1 rfl mr (pa_cons pe_int pa_nil)) (pg_name (i := 4) scDraws.nd rfl (.inl rfl))
            (pss_cons (ps_set (i := 5) scDraws.nd rfl (.inl rfl) (pe_op op_mod (pe_callTy call_int1 (by rfl) mi (by decide +kernel) (pa_cons (pe_op op_add (pe_op op_add (pe_op op_mul (pv 5) pe_int) (pe_op op_mul pe_int (pv 4))) pe_int) pa_nil)) pe_int))
            (pss_one (ps_expr (pe_bm PySem.F.plainAttrs_list PySem.F.slot_list_append PySem.F.type_list_append mt_append (pv 1) (pa_cons (pe_op op_fdivN (pv 5) pe_int) pa_nil))))))))))))
      (pss_one (ps_ret (pv 1))))), ?_⟩
    -- draws = []
    refine ⟨Nat.zero_le _, fun o no => ?_⟩
    -- script[:63]
    refine ⟨.ref a, rfl, 63, rfl, a, ns.map V.int, rfl, (same_new no).seq hS, fun c nc => ?_⟩
    have nco : c ≠ o := fun e => by
      rw [e, upd_same] at nc
      cases nc
    have hcut : cutV (ns.map V.int) none (some 63) = (ns.take 63).map V.int := by
      unfold cutV
      rw [HT.sIx_none, show HT.sIx (ns.map V.int).length (ns.map V.int).length (some 63) = min 63 (ns.map V.int).length from HT.sIx_nat _ _ 63, List.drop_zero, Nat.sub_zero, List.map_take]
      rw [List.length_map]
      by_cases h : 63 ≤ ns.length
      · rw [Nat.min_eq_left h]
      · rw [Nat.min_eq_right (by omega), List.take_of_length_le (by rw [List.length_map]; exact Nat.le_refl _), List.take_of_length_le (by rw [List.length_map]; omega)]
    have hct : (ns.take 63).length ≤ 63 := by
      rw [List.length_take]
      omega
    refine ⟨c, rfl, ⟨_, .inl (.inl upd_same)⟩, ?_⟩
    rw [hcut]
    refine for_list (K := K) (a := c) (xs := (ns.take 63).map V.int) (fun i σ H' => ∃ (ds : List Int) (y2 y3 y4 y5 : Option V), σ = [some (.ref a), some (.ref o), y2, y3, y4, y5] ∧ Same H H' ∧ H' c = some (.lst ((ns.take 63).map V.int)) ∧ H' o = some (.lst (ds.map V.int)) ∧ ds.length ≤ 60 * i)
      ⟨[], none, none, none, none, rfl, (same_new no).trans (same_new nc), upd_same, by rw [upd_ne nco.symm, upd_same]; rfl, Nat.zero_le _⟩ (fun i σ H' _ hp => ?_) (fun i x σ H' hi hp => ?_) (fun σ H' hp => ?_)
    · obtain ⟨ds, y2, y3, y4, y5, _, _, hc, _⟩ := hp
      exact .inl (.inl hc)
    · obtain ⟨ds, y2, y3, y4, y5, rfl, sm, hc, ho, hl⟩ := hp
      have hi63 : i < 63 := by
        have := (List.getElem?_eq_some_iff.mp hi).1
        rw [List.length_map] at this
        omega
      obtain ⟨z, rfl⟩ : ∃ z, x = V.int z := by
        rw [List.getElem?_map] at hi
        cases e : (ns.take 63)[i]? with
        | none =>
          rw [e] at hi
          cases hi
        | some z =>
          rw [e] at hi
          exact ⟨z, (Option.some.inj hi).symm⟩
      refine ⟨_, rfl, z, rfl, ?_⟩
      generalize hr0 : (if z < 0 then -z else z) = r0
      have hr0p : 0 ≤ r0 := by
        rw [← hr0]
        split <;> omega
      refine ⟨_, rfl, _, _, rfl, rfl, ⟨by decide, by decide, by decide⟩, _, _, rfl, rfl, _, rfl, ite2 (fun e => ?_) (fun e => ?_)⟩
      · -- rest >= 10 ** 18
        refine ⟨60, rfl, by decide, by decide, for_range (lo := 0) (n := 60) (fun j σ H2 => ∃ (ds : List Int) (r : Int) (y4 : Option V), σ = [some (.ref a), some (.ref o), some (.int z), some (.int r), y4, y5] ∧ Same H H2 ∧ H2 c = some (.lst ((ns.take 63).map V.int)) ∧ H2 o = some (.lst (ds.map V.int)) ∧ ds.length ≤ 60 * i + j)
          ⟨ds, r0, y4, rfl, sm, hc, ho, hl⟩ (fun j σ H2 hj hp => ?_) (fun σ H2 hp => ?_)⟩
        · obtain ⟨ds, r, y4, rfl, sm, hc, ho, hl⟩ := hp
          refine ⟨_, rfl, _, _, rfl, rfl, _, rfl, ite2 (fun e => ?_) (fun e => ?_)⟩
          · refine ⟨.ref o, rfl, .inl ⟨rfl, _, .inl (.inl ho)⟩, _, rfl, .inl ⟨_, rfl, _, _, rfl, rfl, (by show (0 : Int) < 1009; decide), o, _, _, rfl, rfl, ho, by rw [List.length_map]; exact big (m := 63) (by omega) (by omega), ?_⟩⟩
            refine ⟨_, rfl, _, _, rfl, rfl, ⟨by decide, by decide⟩, ?_⟩
            refine ⟨ds ++ [r % 1009], _, _, rfl, fun b x e => ?_, ?_, ?_, ?_⟩
            · rw [upd_ne (ne_of_none e no)]
              exact sm _ _ e
            · rw [upd_ne nco]
              exact hc
            · rw [upd_same, List.map_append]
              rfl
            · rw [List.length_append]
              show ds.length + 1 ≤ _
              omega
          · exact ⟨ds, r, _, rfl, sm, hc, ho, by omega⟩
        · obtain ⟨ds, r, y4, rfl, sm, hc, ho, hl⟩ := hp
          exact ⟨ds, _, _, _, _, rfl, sm, hc, ho, by omega⟩
      · -- else
        have hlt : r0 < 10 ^ 18 := by
          have : ¬ (10 ^ 18 : Int) ≤ r0 := fun h => e (decide_eq_true h)
          omega
        refine ⟨_, rfl, _, _, rfl, rfl, .inl ⟨by omega, by omega⟩, _, _, rfl, rfl, .inl ⟨_, rfl, _, _, rfl, rfl, (by show (0 : Int) < 2147483647; decide), ?_⟩⟩
        refine ⟨12, rfl, by decide, by decide, for_range (lo := 0) (n := 12) (fun j σ H2 => ∃ (ds : List Int) (m : Int) (y4 : Option V), σ = [some (.ref a), some (.ref o), some (.int z), some (.int r0), y4, some (.int m)] ∧ Same H H2 ∧ H2 c = some (.lst ((ns.take 63).map V.int)) ∧ H2 o = some (.lst (ds.map V.int)) ∧ ds.length ≤ 60 * i + j)
          ⟨ds, _, y4, rfl, sm, hc, ho, hl⟩ (fun j σ H2 hj hp => ?_) (fun σ H2 hp => ?_)⟩
        · obtain ⟨ds, m, y4, rfl, sm, hc, ho, hl⟩ := hp
          refine ⟨_, rfl, _, _, rfl, rfl, .inr ⟨by decide, by decide⟩, _, rfl, _, _, rfl, rfl, .inl ⟨by decide, by decide⟩, _, _, rfl, rfl, _, _, rfl, rfl, .inl ⟨_, rfl, _, _, rfl, rfl, (by show (0 : Int) < 2147483629; decide), ?_⟩⟩
          refine ⟨.ref o, rfl, .inl ⟨rfl, _, .inl (.inl ho)⟩, _, rfl, _, _, rfl, rfl, ⟨by decide, by decide⟩, o, _, _, rfl, rfl, ho, by rw [List.length_map]; exact big (m := 63) (by omega) (by omega), ?_⟩
          refine ⟨ds ++ [((m * 16807 + 69621 * (0 + (j : Int)) + 5) % 2147483629).fdiv 1009], _, _, rfl, fun b x e => ?_, ?_, ?_, ?_⟩
          · rw [upd_ne (ne_of_none e no)]
            exact sm _ _ e
          · rw [upd_ne nco]
            exact hc
          · rw [upd_same, List.map_append]
            rfl
          · rw [List.length_append]
            show ds.length + 1 ≤ _
            omega
        · obtain ⟨ds, m, y4, rfl, sm, hc, ho, hl⟩ := hp
          exact ⟨ds, _, _, _, _, rfl, sm, hc, ho, by omega⟩
    · obtain ⟨ds, y2, y3, y4, y5, rfl, sm, hc, ho, hl⟩ := hp
      exact ⟨_, rfl, q H' o ds sm no ho⟩
end
end K00
set_option Elab.async false
set_option linter.all false
set_option maxRecDepth 100000
set_option maxHeartbeats 4000000
namespace K00
open PySem PySem.Spec PyProof.Rows L2
abbrev sMore : Stmt := topS 57
abbrev sTake : Stmt := topS 58
abbrev sOne : Stmt := topS 59
theorem scMore : FnScope ["draws", "place", "mixed", "k"] ["draws", "place"] (defScope sMore) := ⟨rfl, rfl, rfl, by decide +kernel, rfl, by decide +kernel, by decide +kernel⟩
theorem scTake : FnScope ["draws", "at", "many", "place"] ["draws", "at", "many"] (defScope sTake) := ⟨rfl, rfl, rfl, by decide +kernel, rfl, by decide +kernel, by decide +kernel⟩
theorem scOne : FnScope ["rows", "draws", "at"] ["rows", "draws", "at"] (defScope sOne) := ⟨rfl, rfl, rfl, by decide +kernel, rfl, by decide +kernel, by decide +kernel⟩
def spMore (K : PySem.W.Frag) : Sp := fun vs H Q _ => ∃ (d : Addr) (ds : List Int) (n : Int), vs = [.ref d, .int n] ∧ SqL K H d (ds.map V.int) ∧ ∀ m : Int, Q (.int m) H
def spTake (K : PySem.W.Frag) : Sp := fun vs H Q _ => ∃ (d t : Addr) (ds : List Int) (n many : Int), vs = [.ref d, .ref t, .int many] ∧ d ≠ t ∧ SqL K H d (ds.map V.int) ∧ H t = some (.lst [.int n]) ∧ 0 ≤ n ∧ 0 < many ∧ ∀ r : Int, 0 ≤ r → r < many → Q (.int r) (upd H t (.lst [.int (n + 1)]))
def spOne (K : PySem.W.Frag) : Sp := fun vs H Q _ => ∃ (r d t : Addr) (xs : List V) (ds : List Int) (n : Int), vs = [.ref r, .ref d, .ref t] ∧ d ≠ t ∧ r ≠ t ∧ H r = some (.lst xs) ∧ 0 < xs.length ∧ SqL K H d (ds.map V.int) ∧ H t = some (.lst [.int n]) ∧ 0 ≤ n ∧ ∀ x ∈ xs, Q x (upd H t (.lst [.int (n + 1)]))
theorem seq_upd {K : PySem.W.Frag} {H : Hp} {d t : Addr} {xs : List V} {o : HO} (h : SqL K H d xs) (ne : d ≠ t) : SqL K (upd H t o) d xs := by
  rcases h with (h | ⟨ob, h⟩) | h
  · exact .inl (.inl (by rw [upd_ne ne]; exact h))
  · exact .inl (.inr ⟨ob, by rw [upd_ne ne]; exact h⟩)
  · exact .inr h
theorem atI_int {xs : List V} {z : Int} {v : V} (h0 : 0 ≤ z) (h : xs[z.toNat]? = some v) : atI xs z = some v := by
  obtain ⟨k, rfl⟩ : ∃ k : Nat, z = (k : Int) := ⟨z.toNat, by omega⟩
  exact atI_nat (by rw [Int.toNat_natCast] at h; exact h)
theorem at_mod {xs : List Int} {z : Int} (h0 : 0 ≤ z) (h1 : z < xs.length) : ∃ v : Int, atI (xs.map V.int) z = some (.int v) ∧ xs[z.toNat]? = some v := by
  have hl : z.toNat < xs.length := by omega
  exact ⟨xs[z.toNat], atI_int h0 (by rw [List.getElem?_map, List.getElem?_eq_getElem hl]; rfl), List.getElem?_eq_getElem hl⟩
section
variable {P : Program} {w : World} {K : PySem.W.Frag} {mg : Str → Option Value} {base : Heap}
theorem ok_more {f : Addr} {fd : FuncData} {k : Nat} (F : FnP K "_law_more" sMore f fd) (mi : mg "int" = none) (mr : mg "range" = none) (ml : mg "len" = none) : FnOk P w K mg base CX0 (k + 1) f fd ["draws", "place"] (spMore K) := by
  refine F.ok scMore (fun vs H Q E h => ?_) (fun cdv A outer s H vs Q E hr h => ?_)
  · obtain ⟨d, ds, n, rfl, _⟩ := h
    rfl
  · obtain ⟨d, ds, n, rfl, hS, q⟩ := h
    refine ⟨_, PSs.nox (pss_cons (ps_set (i := 2) scMore.nd rfl (.inl rfl) (pe_op op_mod (pe_callTy call_int1 (by rfl) mi (by decide +kernel) (pa_cons (pe_op op_add (pe_op op_add (pe_op op_mul (pv 1) pe_int) (pe_callB call_len_seq (by rfl) ml PySem.boot_len (pa_cons (pv 0) pa_nil))) pe_int) pa_nil)) pe_int))
      (pss_cons (ps_for PassesOwn.never rfl (pi_range1 rfl mr (pa_cons pe_int pa_nil)) (pg_name (i := 3) scMore.nd rfl (.inl rfl))
        (pss_cons (ps_if (pt_truth (pv 0) (by intro _; rfl))
          (pss_one (ps_set (i := 2) scMore.nd rfl (.inl rfl) (pe_op op_add (pv 2) (pe_ix ix_list (pv 0) (pe_op op_mod (pe_callTy call_int1 (by rfl) mi (by decide +kernel) (pa_cons (pe_op op_add (pe_op op_mul (pv 1) (pe_op op_add (pv 3) pe_int)) (pv 3)) pa_nil)) (pe_callB call_len_seq (by rfl) ml PySem.boot_len (pa_cons (pv 0) pa_nil))) (fun _ _ => rfl))))) pss_nil)
        (pss_one (ps_set (i := 2) scMore.nd rfl (.inl rfl) (pe_op op_mod (pe_callTy call_int1 (by rfl) mi (by decide +kernel) (pa_cons (pe_op op_add (pe_op op_add (pe_op op_mul (pv 2) pe_int) (pe_op op_mul pe_int (pv 3))) pe_int) pa_nil)) pe_int)))))
      (pss_one (ps_ret (pe_op op_fdivN (pv 2) pe_int))))), ?_⟩
    refine ⟨_, rfl, _, _, rfl, rfl, .inr ⟨by decide, by decide⟩, _, rfl, d, _, rfl, .inl hS, _, _, rfl, rfl, _, _, rfl, rfl, .inl ⟨_, rfl, _, _, rfl, rfl, (by show (0 : Int) < 2147483629; decide), ?_⟩⟩
    refine ⟨3, rfl, by decide, by decide, for_range (lo := 0) (n := 3) (fun j σ H2 => H2 = H ∧ ∃ (m : Int) (y3 : Option V), σ = [some (.ref d), some (.int n), some (.int m), y3])
      ⟨rfl, _, none, rfl⟩ (fun j σ H2 hj hp => ?_) (fun σ H2 hp => ?_)⟩
    · obtain ⟨rfl, m, y3, rfl⟩ := hp
      refine ⟨_, rfl, (!(ds.map V.int).isEmpty), .inl ⟨_, hS, rfl⟩, ite2 (fun e => ?_) (fun e => ?_)⟩
      · have hne : 0 < ds.length := by
          cases ds with
          | nil => cases e
          | cons x r => exact Nat.succ_pos _
        refine ⟨_, rfl, _, rfl, _, rfl, _, rfl, _, _, rfl, rfl, _, _, rfl, rfl, .inr ⟨by show (-(2 ^ 64) : Int) < 0 + (j : Int) + 5; omega, by show (0 + (j : Int) + 5 : Int) < 2 ^ 64; omega⟩, _, rfl, _, _, rfl, rfl, .inl ⟨_, rfl, _, rfl, d, _, rfl, .inl hS, _, _, rfl, rfl, (by show (0 : Int) < ((ds.map V.int).length : Int); rw [List.length_map]; omega), ?_⟩⟩
        obtain ⟨v, hv, _⟩ := at_mod (xs := ds) (z := (n * (0 + (j : Int) + 5) + (0 + (j : Int))) % ((ds.map V.int).length : Int)) (Int.emod_nonneg _ (by rw [List.length_map]; omega)) (by
          have := Int.emod_lt_of_pos (n * (0 + (j : Int) + 5) + (0 + (j : Int))) (b := ((ds.map V.int).length : Int)) (by rw [List.length_map]; omega)
          rw [List.length_map] at this ⊢
          exact this)
        refine ⟨_, _, _, _, rfl, rfl, hS, hv, _, _, rfl, rfl, ?_⟩
        refine ⟨_, rfl, _, _, rfl, rfl, .inr ⟨by decide, by decide⟩, _, rfl, _, _, rfl, rfl, .inl ⟨by decide, by decide⟩, _, _, rfl, rfl, _, _, rfl, rfl, .inl ⟨_, rfl, _, _, rfl, rfl, (by show (0 : Int) < 2147483629; decide), ?_⟩⟩
        exact ⟨rfl, _, _, rfl⟩
      · refine ⟨_, rfl, _, _, rfl, rfl, .inr ⟨by decide, by decide⟩, _, rfl, _, _, rfl, rfl, .inl ⟨by decide, by decide⟩, _, _, rfl, rfl, _, _, rfl, rfl, .inl ⟨_, rfl, _, _, rfl, rfl, (by show (0 : Int) < 2147483629; decide), ?_⟩⟩
        exact ⟨rfl, _, _, rfl⟩
    · obtain ⟨rfl, m, y3, rfl⟩ := hp
      exact ⟨_, rfl, _, _, rfl, rfl, ⟨by decide, by decide⟩, q _⟩
theorem ok_take {f g : Addr} {fd gd : FuncData} {k : Nat} (F : FnP K "_law_take" sTake f fd) (G : FnOk P w K mg base CX0 k g gd ["draws", "place"] (spMore K)) (mg_ : mg "_law_more" = some (.ref g)) (kg : PySem.W.keepIn K (.ref g) = true) (bg : Binds K gd ["draws", "place"] [])
    (mi : mg "int" = none) (ml : mg "len" = none) : FnOk P w K mg base CX0 (k + 1) f fd ["draws", "at", "many"] (spTake K) := by
  refine F.ok scTake (fun vs H Q E h => ?_) (fun cdv A outer s H vs Q E hr h => ?_)
  · obtain ⟨d, t, ds, n, many, rfl, _⟩ := h
    rfl
  · obtain ⟨d, t, ds, n, many, rfl, ne, hS, ht, hn, hm, q⟩ := h
    refine ⟨_, PSs.nox (pss_cons (ps_set (i := 3) scTake.nd rfl (.inl rfl) (pe_ix ix_list (pv 1) pe_int (fun _ _ => rfl)))
      (pss_cons (ps_asg (pe_op op_add (pv 3) pe_int) (pg_sub (pv 1) pe_int set_list))
      (pss_one (ps_ret (pe_op op_mod (pe_callTy call_int1 (by rfl) mi (by decide +kernel) (pa_cons (pe_ifExp (pt_cmpR op_lt (pv 3) (pe_callB call_len_seq (by rfl) ml PySem.boot_len (pa_cons (pv 0) pa_nil)) (nomark _)) (pe_ix ix_list (pv 0) (pv 3) (fun _ _ => rfl)) (pe_call G hr (by rfl) mg_ kg bg .nil pass0 (pa_cons (pv 0) (pa_cons (pv 3) pa_nil)))) pa_nil)) (pv 2)))))), ?_⟩
    refine ⟨_, rfl, _, _, _, _, rfl, rfl, .inl (.inl ht), atI_nat (j := 0) rfl, ?_⟩
    refine ⟨_, rfl, _, _, rfl, rfl, _, rfl, _, _, _, _, rfl, rfl, ht, (rfl : ixN 1 0 = some 0), ?_⟩
    have hS2 : SqL K (upd H t (.lst [.int (n + 1)])) d (ds.map V.int) := seq_upd hS ne
    refine ⟨_, rfl, _, rfl, d, _, rfl, .inl hS2, _, _, rfl, rfl, _, rfl, ite2 (fun e => ?_) (fun e => ?_)⟩
    · have hlt : n < (ds.length : Int) := by
        have := of_decide_eq_true e
        rw [List.length_map] at this
        exact this
      obtain ⟨v, hv, _⟩ := at_mod hn hlt
      refine ⟨_, rfl, _, rfl, _, _, _, _, rfl, rfl, hS2, hv, .inl ⟨_, rfl, _, rfl, _, _, rfl, rfl, hm, ?_⟩⟩
      exact q _ (Int.emod_nonneg _ (by omega)) (Int.emod_lt_of_pos _ hm)
    · refine ⟨_, rfl, _, rfl, d, ds, n, rfl, hS2, fun m => .inl ⟨_, rfl, _, rfl, _, _, rfl, rfl, hm, ?_⟩⟩
      exact q _ (Int.emod_nonneg _ (by omega)) (Int.emod_lt_of_pos _ hm)
theorem ok_one {f g : Addr} {fd gd : FuncData} {k : Nat} (F : FnP K "_law_one" sOne f fd) (G : FnOk P w K mg base CX0 k g gd ["draws", "at", "many"] (spTake K)) (mg_ : mg "_law_take" = some (.ref g)) (kg : PySem.W.keepIn K (.ref g) = true) (bg : Binds K gd ["draws", "at", "many"] [])
    (ml : mg "len" = none) : FnOk P w K mg base CX0 (k + 1) f fd ["rows", "draws", "at"] (spOne K) := by
  refine F.ok scOne (fun vs H Q E h => ?_) (fun cdv A outer s H vs Q E hr h => ?_)
  · obtain ⟨r, d, t, xs, ds, n, rfl, _⟩ := h
    rfl
  · obtain ⟨r, d, t, xs, ds, n, rfl, ne, nr, hR, hl, hS, ht, hn, q⟩ := h
    refine ⟨_, PSs.nox (pss_one (ps_ret (pe_ix ix_list (pv 0) (pe_call G hr (by rfl) mg_ kg bg .nil pass0 (pa_cons (pv 1) (pa_cons (pv 2) (pa_cons (pe_callB call_len_seq (by rfl) ml PySem.boot_len (pa_cons (pv 0) pa_nil)) pa_nil)))) (fun _ _ => rfl)))), ?_⟩
    refine ⟨_, rfl, _, rfl, _, rfl, _, rfl, r, xs, rfl, .inl (.inl (.inl hR)), d, t, ds, n, _, rfl, ne, hS, ht, hn, by omega, fun z h0 h1 => ?_⟩
    have hz : z.toNat < xs.length := by omega
    refine ⟨r, xs, z, xs[z.toNat], rfl, rfl, .inl (.inl (by rw [upd_ne nr]; exact hR)), ?_, q _ (List.getElem_mem hz)⟩
    exact atI_int h0 (List.getElem?_eq_getElem hz)
end
end K00
set_option Elab.async false
set_option linter.all false
set_option maxRecDepth 100000
set_option maxHeartbeats 4000000
namespace K00
open PySem PySem.Spec PyProof.Rows L2
abbrev sLim : Stmt := topS 60
theorem scLim : FnScope ["told", "due"] [] (defScope sLim) := ⟨rfl, rfl, rfl, by decide +kernel, rfl, by decide +kernel, by decide +kernel⟩
def limN : List (Str × Int) := ([("MAX_NAME", 12), ("MAX_NODES", 60), ("MAX_DEEP", 12), ("MAX_PATTERN", 10), ("MAX_COUNT", 3), ("MAX_WATCHED", 6), ("MAX_LABELS", 6), ("MAX_CASES", 1000), ("MAX_BOUNDS", 8), ("MAX_CONTENT", 24), ("MAX_ROW", 6), ("MAX_CHANGES", 40), ("MAX_FIELDS", 4), ("MAX_KEYS", 8), ("MAX_STEPS", 8)] : List (Str × Int)) ++ ([("MAX_NESTED", 30), ("MAX_TEXT", 4000), ("MAX_RULES", 8), ("MAX_TREES", 8), ("MAX_LEARNT", 400), ("MAX_LINES", 100), ("MAX_VIEWS", 6), ("MAX_COUNTED", 12), ("MAX_JOINED", 16), ("MAX_PACK", 8), ("MAX_REWRITTEN", 60), ("MAX_WALKED", 300), ("MAX_WEIGHT", 1000000), ("MAX_COLUMNS", 3), ("MAX_TIES", 6)] : List (Str × Int)) ++ ([("MAX_TABLE", 4000), ("MAX_EXPRESSED", 20), ("MAX_LETTERS_OF", 5), ("MAX_FREQUENT", 400), ("MAX_GRAMMAR", 12), ("MAX_SPREAD", 2000), ("MAX_MOMENT", 1000000), ("MAX_SMALL", 5), ("MAX_SHIFTED", 8000), ("MAX_TOLD", 64), ("MAX_LISTED", 60), ("MAX_SEEN_OF", 400), ("MAX_BLANKS", 12), ("MAX_SEED", 1000000007), ("MAX_MARKED", 3000)] : List (Str × Int))
def limL : List Int := ([12, 60, 12, 10, 3, 6, 6, 1000, 8, 24, 6, 40, 4, 8, 8] : List Int) ++ ([30, 4000, 8, 8, 400, 100, 6, 12, 16, 8, 60, 300, 1000000, 3, 6] : List Int) ++ ([4000, 20, 5, 400, 12, 2000, 1000000, 5, 8000, 64, 60, 400, 12, 1000000007, 3000] : List Int)
def limD : PyData := .list (limL.map .int)
theorem lim_show : limD.showable = true := by decide +kernel
theorem lim_nod : limD.hasDict = false := by decide +kernel
theorem lim_depth : limD.depth ≤ 64 := by decide +kernel
theorem lim_len : limD.shown.length ≤ sizeLine := by decide +kernel
theorem dpAll_ints {K : PySem.W.Frag} {H : Hp} : ∀ ns : List Int, DpAll K H (ns.map V.int) (ns.map PyData.int)
  | [] => .nil
  | n :: r => .cons (.int n) (dpAll_ints r)
theorem pe_cst {X : Cx} {x : Str} {n : Int} {pos : Pos} (hg : Gl X x) (h : ∃ t, X.mg x = some (.int n t)) (hd : (x == ("__debug__" : Str)) = false := by decide) : PE X (.Name x pos) (tC (.int n)) := by
  obtain ⟨t, h⟩ := h
  exact pe_glob hg h ⟨t, rfl⟩ hd
def spLim : Sp := fun vs H Q _ => vs = [] ∧ ∀ H', Same H H' → Q (.bl true) H'
theorem at_new {H : Hp} {p q : Addr} {o u : HO} (h : H p = some o) (hq : H q = none) : upd H q u p = some o := by
  rw [upd_ne (ne_of_none h hq)]
  exact h
section
variable {P : Program} {w : World} {K : PySem.W.Frag} {mg : Str → Option Value} {base : Heap}
theorem ok_lim {f : Addr} {fd : FuncData} {k : Nat} (F : FnP K "_law_limits_right" sLim f fd) (mrp : mg "repr" = none) (L : ∀ (i : Nat) (p : Str × Int), limN[i]? = some p → ∃ t, mg p.1 = some (.int p.2 t)) : FnG P w K mg base CX0 (k + 1) f fd [] spLim := by
  refine F.okG scLim (fun vs H Q E h => ?_) (fun cdv A outer s H vs Q E hg hr h => ?_)
  · obtain ⟨rfl, _⟩ := h
    rfl
  · obtain ⟨rfl, q⟩ := h
    have hgd : (A.deeper (envOfC "_law_limits_right" (defScope sLim) s.heap.objs.size f cdv)).guards = some [] := hg
    have hu := hr.un
    replace hu : (A.deeper (envOfC "_law_limits_right" (defScope sLim) s.heap.objs.size f cdv)).units + 66 < cLine := by omega
    refine ⟨_, PSs.nox (pss_cons (ps_set (i := 0) scLim.nd rfl (.inl rfl) (pe_lst (pa_cons (pe_cst (by rfl) (L 0 ("MAX_NAME", 12) rfl)) (pa_cons (pe_cst (by rfl) (L 1 ("MAX_NODES", 60) rfl)) (pa_cons (pe_cst (by rfl) (L 2 ("MAX_DEEP", 12) rfl)) (pa_cons (pe_cst (by rfl) (L 3 ("MAX_PATTERN", 10) rfl)) (pa_cons (pe_cst (by rfl) (L 4 ("MAX_COUNT", 3) rfl)) (pa_cons (pe_cst (by rfl) (L 5 ("MAX_WATCHED", 6) rfl)) (pa_cons (pe_cst (by rfl) (L 6 ("MAX_LABELS", 6) rfl)) (pa_cons (pe_cst (by rfl) (L 7 ("MAX_CASES", 1000) rfl)) (pa_cons (pe_cst (by rfl) (L 8 ("MAX_BOUNDS", 8) rfl)) pa_nil)))))))))))
      (pss_cons (ps_set (i := 0) scLim.nd rfl (.inl rfl) (pe_op op_cat (pv 0) (pe_lst (pa_cons (pe_cst (by rfl) (L 9 ("MAX_CONTENT", 24) rfl)) (pa_cons (pe_cst (by rfl) (L 10 ("MAX_ROW", 6) rfl)) (pa_cons (pe_cst (by rfl) (L 11 ("MAX_CHANGES", 40) rfl)) (pa_cons (pe_cst (by rfl) (L 12 ("MAX_FIELDS", 4) rfl)) (pa_cons (pe_cst (by rfl) (L 13 ("MAX_KEYS", 8) rfl)) (pa_cons (pe_cst (by rfl) (L 14 ("MAX_STEPS", 8) rfl)) (pa_cons (pe_cst (by rfl) (L 15 ("MAX_NESTED", 30) rfl)) (pa_cons (pe_cst (by rfl) (L 16 ("MAX_TEXT", 4000) rfl)) (pa_cons (pe_cst (by rfl) (L 17 ("MAX_RULES", 8) rfl)) pa_nil))))))))))))
      (pss_cons (ps_set (i := 0) scLim.nd rfl (.inl rfl) (pe_op op_cat (pv 0) (pe_lst (pa_cons (pe_cst (by rfl) (L 18 ("MAX_TREES", 8) rfl)) (pa_cons (pe_cst (by rfl) (L 19 ("MAX_LEARNT", 400) rfl)) (pa_cons (pe_cst (by rfl) (L 20 ("MAX_LINES", 100) rfl)) (pa_cons (pe_cst (by rfl) (L 21 ("MAX_VIEWS", 6) rfl)) (pa_cons (pe_cst (by rfl) (L 22 ("MAX_COUNTED", 12) rfl)) (pa_cons (pe_cst (by rfl) (L 23 ("MAX_JOINED", 16) rfl)) (pa_cons (pe_cst (by rfl) (L 24 ("MAX_PACK", 8) rfl)) (pa_cons (pe_cst (by rfl) (L 25 ("MAX_REWRITTEN", 60) rfl)) (pa_cons (pe_cst (by rfl) (L 26 ("MAX_WALKED", 300) rfl)) pa_nil))))))))))))
      (pss_cons (ps_set (i := 0) scLim.nd rfl (.inl rfl) (pe_op op_cat (pv 0) (pe_lst (pa_cons (pe_cst (by rfl) (L 27 ("MAX_WEIGHT", 1000000) rfl)) (pa_cons (pe_cst (by rfl) (L 28 ("MAX_COLUMNS", 3) rfl)) (pa_cons (pe_cst (by rfl) (L 29 ("MAX_TIES", 6) rfl)) (pa_cons (pe_cst (by rfl) (L 30 ("MAX_TABLE", 4000) rfl)) (pa_cons (pe_cst (by rfl) (L 31 ("MAX_EXPRESSED", 20) rfl)) (pa_cons (pe_cst (by rfl) (L 32 ("MAX_LETTERS_OF", 5) rfl)) (pa_cons (pe_cst (by rfl) (L 33 ("MAX_FREQUENT", 400) rfl)) (pa_cons (pe_cst (by rfl) (L 34 ("MAX_GRAMMAR", 12) rfl)) (pa_cons (pe_cst (by rfl) (L 35 ("MAX_SPREAD", 2000) rfl)) pa_nil))))))))))))
      (pss_cons (ps_set (i := 0) scLim.nd rfl (.inl rfl) (pe_op op_cat (pv 0) (pe_lst (pa_cons (pe_cst (by rfl) (L 36 ("MAX_MOMENT", 1000000) rfl)) (pa_cons (pe_cst (by rfl) (L 37 ("MAX_SMALL", 5) rfl)) (pa_cons (pe_cst (by rfl) (L 38 ("MAX_SHIFTED", 8000) rfl)) (pa_cons (pe_cst (by rfl) (L 39 ("MAX_TOLD", 64) rfl)) (pa_cons (pe_cst (by rfl) (L 40 ("MAX_LISTED", 60) rfl)) (pa_cons (pe_cst (by rfl) (L 41 ("MAX_SEEN_OF", 400) rfl)) (pa_cons (pe_cst (by rfl) (L 42 ("MAX_BLANKS", 12) rfl)) (pa_cons (pe_cst (by rfl) (L 43 ("MAX_SEED", 1000000007) rfl)) (pa_cons (pe_cst (by rfl) (L 44 ("MAX_MARKED", 3000) rfl)) pa_nil))))))))))))
      (pss_cons (ps_set (i := 1) scLim.nd rfl (.inl rfl) (pe_lst (pa_cons pe_int (pa_cons pe_int (pa_cons pe_int (pa_cons pe_int (pa_cons pe_int (pa_cons pe_int (pa_cons pe_int (pa_cons pe_int (pa_cons pe_int (pa_cons pe_int (pa_cons pe_int (pa_cons pe_int (pa_cons pe_int (pa_cons pe_int (pa_cons pe_int (pa_cons pe_int (pa_cons pe_int (pa_cons pe_int (pa_cons pe_int (pa_cons pe_int (pa_cons pe_int (pa_cons pe_int pa_nil))))))))))))))))))))))))
      (pss_cons (ps_set (i := 1) scLim.nd rfl (.inl rfl) (pe_op op_cat (pv 1) (pe_lst (pa_cons pe_int (pa_cons pe_int (pa_cons pe_int (pa_cons pe_int (pa_cons pe_int (pa_cons pe_int (pa_cons pe_int (pa_cons pe_int (pa_cons pe_int (pa_cons pe_int (pa_cons pe_int (pa_cons pe_int (pa_cons pe_int (pa_cons pe_int (pa_cons pe_int (pa_cons pe_int (pa_cons pe_int (pa_cons pe_int (pa_cons pe_int (pa_cons pe_int (pa_cons pe_int (pa_cons pe_int pa_nil)))))))))))))))))))))))))
      (pss_cons (ps_set (i := 1) scLim.nd rfl (.inl rfl) (pe_op op_cat (pv 1) (pe_lst (pa_cons pe_int pa_nil))))
      (pss_one (ps_ret (pe_cmpR op_eq (pe_callB (call_repr hgd hu) (by rfl) mrp (by decide +kernel) (pa_cons (pv 0) pa_nil)) (pe_callB (call_repr hgd hu) (by rfl) mrp (by decide +kernel) (pa_cons (pv 1) pa_nil)) (nomark _)))))))))))), ?_⟩
    refine ⟨by decide, fun p0 n0 => ?_⟩
    refine ⟨_, rfl, by decide, fun q1 m1 => ⟨_, _, _, _, rfl, rfl, at_new upd_same m1, upd_same, by decide, fun p1 n1 => ?_⟩⟩
    refine ⟨_, rfl, by decide, fun q2 m2 => ⟨_, _, _, _, rfl, rfl, at_new upd_same m2, upd_same, by decide, fun p2 n2 => ?_⟩⟩
    refine ⟨_, rfl, by decide, fun q3 m3 => ⟨_, _, _, _, rfl, rfl, at_new upd_same m3, upd_same, by decide, fun p3 n3 => ?_⟩⟩
    refine ⟨_, rfl, by decide, fun q4 m4 => ⟨_, _, _, _, rfl, rfl, at_new upd_same m4, upd_same, by decide, fun p4 n4 => ?_⟩⟩
    refine ⟨by decide, fun d0 k0 => ?_⟩
    refine ⟨_, rfl, by decide, fun e1 l1 => ⟨_, _, _, _, rfl, rfl, at_new upd_same l1, upd_same, by decide, fun d1 k1 => ?_⟩⟩
    refine ⟨_, rfl, by decide, fun e2 l2 => ⟨_, _, _, _, rfl, rfl, at_new upd_same l2, upd_same, by decide, fun d2 k2 => ?_⟩⟩
    refine ⟨_, rfl, _, limD, rfl, .lst (.inl (.inl (at_new (at_new (at_new (at_new (at_new upd_same k0) l1) k1) l2) k2))) (dpAll_ints limL), lim_show, lim_nod, lim_depth, lim_len, ?_⟩
    refine ⟨_, rfl, _, limD, rfl, .lst (.inl (.inl upd_same)) (dpAll_ints limL), lim_show, lim_nod, lim_depth, lim_len, rfl, ?_⟩
    rw [decide_eq_true rfl]
    exact q _ ((same_new n0).trans ((same_new m1).trans ((same_new n1).trans ((same_new m2).trans ((same_new n2).trans ((same_new m3).trans ((same_new n3).trans ((same_new m4).trans ((same_new n4).trans ((same_new k0).trans ((same_new l1).trans ((same_new k1).trans ((same_new l2).trans (same_new k2))))))))))))))
end
end K00
set_option Elab.async false
set_option linter.all false
set_option maxRecDepth 100000
set_option maxHeartbeats 4000000
namespace K00
theorem leL {m : Nat} (n : Nat) (h : m = n) (hn : Nat.ble n 1000 = true := by rfl) : m ≤ PySem.sizeLine := by
  have := Nat.le_of_ble_eq_true hn
  rw [h, PySem.sizeLine_eq]
  omega
open PySem PySem.Spec PyProof.Rows L2 L2H He
abbrev sRaise : Stmt := topS 61
abbrev sKinds : Stmt := topS 62
abbrev sCaught : Stmt := topS 63
abbrev sFields : Stmt := topS 64
theorem scRaise : FnScope ["k", "one", "other"] ["k", "one", "other"] (defScope sRaise) := ⟨rfl, rfl, rfl, by decide +kernel, rfl, by decide +kernel, by decide +kernel⟩
theorem scKinds : FnScope ["e", "plain"] ["e"] (defScope sKinds) := ⟨rfl, rfl, rfl, by decide +kernel, rfl, by decide +kernel, by decide +kernel⟩
theorem scCaught : FnScope ["k", "one", "other", "e"] ["k", "one", "other"] (defScope sCaught) := ⟨rfl, rfl, rfl, by decide +kernel, rfl, by decide +kernel, by decide +kernel⟩
theorem scFields : FnScope ["k", "one", "other", "e"] ["k", "one", "other"] (defScope sFields) := ⟨rfl, rfl, rfl, by decide +kernel, rfl, by decide +kernel, by decide +kernel⟩
def nm : Nat → Str
  | 0 => "ArgumentError"
  | 1 => "PaperError"
  | 2 => "TooMany"
  | 3 => "CheckError"
  | 4 => "TextError"
  | 5 => "LogError"
  | _ => "CommandError"
def fsN : Nat → List Str
  | 4 => ["at"]
  | 5 => ["number", "reason"]
  | 6 => ["line"]
  | _ => ["reason"]
def valsN (i : Nat) (one other : V) : List V := match i with
  | 5 => [one, other]
  | _ => [one]
abbrev exC (K : PySem.W.Frag) (i : Nat) : Addr := ga K (nm i)
/-- what the top has written of the seven classes -/
structure Txt (P : Program) (w : World) (K : PySem.W.Frag) (mg : Str → Option Value) (base : Heap) : Prop where
  cl : ∀ i, i < 7 → ExcMk P w K mg base (nm i) (exC K i) (fsN i)
  ec : ∀ i, i < 7 → ExcC K (exC K i)
  exT : ∀ i, i < 7 → PySem.W.exmOne K (.ref (exC K i)) (.ref (ga K "TreeError")) = some true
  exm : ∀ i j, i < 7 → j < 7 → PySem.W.exmOne K (.ref (exC K i)) (.ref (exC K j)) = some (decide (i = j))
  kit : ∀ i j, i < 7 → j < 7 → PySem.W.kitOne K (.ref (exC K i)) (.ref (exC K j)) = some (decide (i = j))
  kitV : ∀ i, i < 7 → PySem.W.kitOne K (.ref (exC K i)) (.type "ValueError") = some true
  gT : mg "TreeError" = some (.ref (ga K "TreeError"))
def spRaise (K : PySem.W.Frag) : Sp := fun vs H Q E => ∃ (k : Nat) (one other : V), k < 7 ∧ vs = [.int (k : Int), one, other] ∧ ∀ d, H d = none → E (.ref (exC K k)) (some d) (upd H d (.xd ((fsN k).zip (valsN k one other))))
def kindsL (i : Nat) : List V := (List.range 7).map fun j => .bl (decide (i = j))
def spKinds (K : PySem.W.Frag) : Addr → Addr → Option Addr → Sp := fun a D d vs H Q _ => ∃ (i : Nat) (dd : Addr) (fs : List (Str × V)), i < 7 ∧ D = exC K i ∧ vs = [.ref a] ∧ d = some dd ∧ H dd = some (.xd fs) ∧ ∀ H' p, Same H H' → H p = none → H' p = some (.lst (kindsL i)) → Q (.ref p) H'
def spCaught : Sp := fun vs H Q _ => ∃ (k : Nat) (one other : V), k < 7 ∧ vs = [.int (k : Int), one, other] ∧ ∀ H' p, Same H H' → H p = none → H' p = some (.lst (kindsL k)) → Q (.ref p) H'
def spFields : Sp := fun vs H Q _ => ∃ (k : Nat) (one other : V), k < 7 ∧ vs = [.int (k : Int), one, other] ∧ ∀ H' p, Same H H' → H p = none → H' p = some (.tup (valsN k one other)) → Q (.ref p) H'
/-- isinstance of the caught exception, its class still a letter -/
def rIsY (K : PySem.W.Frag) (a : Addr) (cls : Value) (d : Option Addr) : List V → Hp → VK → Prop := fun xs H Q => ∃ D, cls = .ref D ∧ ExcC K D ∧ rIsX K D a d xs H Q
theorem call_isY {X : Cx} {a : Addr} {oe : Obj} {cls : Value} {d : Option Addr} (hp : (a, oe) ∈ X.pn) (hz : Zc cls d oe) (hf : ∃ vs, oe.data = .fields vs) : CallR X (.builtin "isinstance") (rIsY X.K a cls d) := by
  intro pins s σ H xs us Q I r h
  obtain ⟨D, rfl, C, h⟩ := h
  exact call_isX hp C hz hf pins s σ H xs us Q I r h
def tCallY (ps : List Str) (sp : Addr → Addr → Option Addr → Sp) (a : Addr) (cls : Value) (d : Option Addr) (t : TA) : TE := fun σ H Q => ∃ D, cls = .ref D ∧ tCallE ps (sp a D d) t σ H Q
theorem pe_callY {X : Cx} {k : Nat} {f a : Addr} {d : Option Addr} {cls : Value} {oe : Obj} {fd : FuncData} {ps : List Str} {sp : Addr → Addr → Option Addr → Sp} {x : Str} {q pos : Pos} {e : Expr} {es : List Expr} {t : TA} (F : FnE X.prog X.w X.K X.mg X.base k f fd ps sp) (hr : RoomH k X.A)
    (hp : (a, oe) ∈ X.pn) (hz : Zc cls d oe) (hf : ∃ vs, oe.data = .fields vs) (hg : Gl X x) (hm : X.mg x = some (.ref f)) (hk : PySem.W.keepIn X.K (.ref f) = true) (hb : Binds X.K fd ps []) (ha : PA X (e :: es) t) (hdb : (x == ("__debug__" : Str)) = false := by decide)
    (he : starEach (e :: es) X.env = (false, eval e X.env) :: starEach es X.env := by rfl) (hpl : (backTo pos (starEach es X.env)).any (·.1) = false := by rfl) : PE X (.Call (.Name x q) (e :: es) [] pos) (tCallY ps sp a cls d t) := by
  refine ⟨fun pins s σ H Q I h => ?_⟩
  obtain ⟨D, rfl, h⟩ := h
  exact (pe_callE F hr hp hz hf hg hm hk hb ha hdb he hpl).run pins s σ H Q I h
section
variable {P : Program} {w : World} {K : PySem.W.Frag} {mg : Str → Option Value} {base : Heap}
theorem ok_raise {f : Addr} {fd : FuncData} {k : Nat} (F : FnP K "_law_raise" sRaise f fd) (T : Txt P w K mg base) : FnOk P w K mg base (L2.CX P w) (k + 1) f fd ["k", "one", "other"] (spRaise K) := by
  refine F.ok scRaise (fun vs H Q E h => ?_) (fun cdv A outer s H vs Q E hr h => ?_)
  · obtain ⟨k, one, other, _, rfl, _⟩ := h
    rfl
  · obtain ⟨k, one, other, hk, rfl, q⟩ := h
    refine ⟨_, (pss_cons (ps_if (pt_cmpR op_eq (pv 0) pe_int (nomark _)) (pss_one (ps_raiseX (x := "ArgumentError") (fs := ["reason"]) rfl (T.cl 0 (by decide)) hr (takes_of rfl rfl rfl rfl) (by rfl) (pa_cons (pv 1) pa_nil))) pss_nil)
      (pss_cons (ps_if (pt_cmpR op_eq (pv 0) pe_int (nomark _)) (pss_one (ps_raiseX (x := "PaperError") (fs := ["reason"]) rfl (T.cl 1 (by decide)) hr (takes_of rfl rfl rfl rfl) (by rfl) (pa_cons (pv 1) pa_nil))) pss_nil)
      (pss_cons (ps_if (pt_cmpR op_eq (pv 0) pe_int (nomark _)) (pss_one (ps_raiseX (x := "TooMany") (fs := ["reason"]) rfl (T.cl 2 (by decide)) hr (takes_of rfl rfl rfl rfl) (by rfl) (pa_cons (pv 1) pa_nil))) pss_nil)
      (pss_cons (ps_if (pt_cmpR op_eq (pv 0) pe_int (nomark _)) (pss_one (ps_raiseX (x := "CheckError") (fs := ["reason"]) rfl (T.cl 3 (by decide)) hr (takes_of rfl rfl rfl rfl) (by rfl) (pa_cons (pv 1) pa_nil))) pss_nil)
      (pss_cons (ps_if (pt_cmpR op_eq (pv 0) pe_int (nomark _)) (pss_one (ps_raiseX (x := "TextError") (fs := ["at"]) rfl (T.cl 4 (by decide)) hr (takes_of rfl rfl rfl rfl) (by rfl) (pa_cons (pv 1) pa_nil))) pss_nil)
      (pss_cons (ps_if (pt_cmpR op_eq (pv 0) pe_int (nomark _)) (pss_one (ps_raiseX (x := "LogError") (fs := ["number", "reason"]) rfl (T.cl 5 (by decide)) hr (takes_of rfl rfl rfl rfl) (by rfl) (pa_cons (pv 1) (pa_cons (pv 2) pa_nil)))) pss_nil)
      (pss_one (ps_raiseX (x := "CommandError") (fs := ["line"]) rfl (T.cl 6 (by decide)) hr (takes_of rfl rfl rfl rfl) (by rfl) (pa_cons (pv 1) pa_nil))))))))), ?_⟩
    match k, hk, q with
    | 0, _, q =>
      refine ⟨_, rfl, rfl, _, rfl, ?_⟩
      refine ite2 (fun _ => ?_) (fun e => absurd rfl e)
      exact ⟨_, rfl, rfl, fun d hd => q d hd⟩
    | 1, _, q =>
      refine ⟨_, rfl, rfl, _, rfl, ?_⟩
      refine ite2 (fun e => absurd e (by decide)) (fun _ => ?_)
      refine ⟨_, rfl, rfl, _, rfl, ?_⟩
      refine ite2 (fun _ => ?_) (fun e => absurd rfl e)
      exact ⟨_, rfl, rfl, fun d hd => q d hd⟩
    | 2, _, q =>
      refine ⟨_, rfl, rfl, _, rfl, ?_⟩
      refine ite2 (fun e => absurd e (by decide)) (fun _ => ?_)
      refine ⟨_, rfl, rfl, _, rfl, ?_⟩
      refine ite2 (fun e => absurd e (by decide)) (fun _ => ?_)
      refine ⟨_, rfl, rfl, _, rfl, ?_⟩
      refine ite2 (fun _ => ?_) (fun e => absurd rfl e)
      exact ⟨_, rfl, rfl, fun d hd => q d hd⟩
    | 3, _, q =>
      refine ⟨_, rfl, rfl, _, rfl, ?_⟩
      refine ite2 (fun e => absurd e (by decide)) (fun _ => ?_)
      refine ⟨_, rfl, rfl, _, rfl, ?_⟩
      refine ite2 (fun e => absurd e (by decide)) (fun _ => ?_)
      refine ⟨_, rfl, rfl, _, rfl, ?_⟩
      refine ite2 (fun e => absurd e (by decide)) (fun _ => ?_)
      refine ⟨_, rfl, rfl, _, rfl, ?_⟩
      refine ite2 (fun _ => ?_) (fun e => absurd rfl e)
      exact ⟨_, rfl, rfl, fun d hd => q d hd⟩
    | 4, _, q =>
      refine ⟨_, rfl, rfl, _, rfl, ?_⟩
      refine ite2 (fun e => absurd e (by decide)) (fun _ => ?_)
      refine ⟨_, rfl, rfl, _, rfl, ?_⟩
      refine ite2 (fun e => absurd e (by decide)) (fun _ => ?_)
      refine ⟨_, rfl, rfl, _, rfl, ?_⟩
      refine ite2 (fun e => absurd e (by decide)) (fun _ => ?_)
      refine ⟨_, rfl, rfl, _, rfl, ?_⟩
      refine ite2 (fun e => absurd e (by decide)) (fun _ => ?_)
      refine ⟨_, rfl, rfl, _, rfl, ?_⟩
      refine ite2 (fun _ => ?_) (fun e => absurd rfl e)
      exact ⟨_, rfl, rfl, fun d hd => q d hd⟩
    | 5, _, q =>
      refine ⟨_, rfl, rfl, _, rfl, ?_⟩
      refine ite2 (fun e => absurd e (by decide)) (fun _ => ?_)
      refine ⟨_, rfl, rfl, _, rfl, ?_⟩
      refine ite2 (fun e => absurd e (by decide)) (fun _ => ?_)
      refine ⟨_, rfl, rfl, _, rfl, ?_⟩
      refine ite2 (fun e => absurd e (by decide)) (fun _ => ?_)
      refine ⟨_, rfl, rfl, _, rfl, ?_⟩
      refine ite2 (fun e => absurd e (by decide)) (fun _ => ?_)
      refine ⟨_, rfl, rfl, _, rfl, ?_⟩
      refine ite2 (fun e => absurd e (by decide)) (fun _ => ?_)
      refine ⟨_, rfl, rfl, _, rfl, ?_⟩
      refine ite2 (fun _ => ?_) (fun e => absurd rfl e)
      exact ⟨_, rfl, _, rfl, rfl, fun d hd => q d hd⟩
    | 6, _, q =>
      refine ⟨_, rfl, rfl, _, rfl, ?_⟩
      refine ite2 (fun e => absurd e (by decide)) (fun _ => ?_)
      refine ⟨_, rfl, rfl, _, rfl, ?_⟩
      refine ite2 (fun e => absurd e (by decide)) (fun _ => ?_)
      refine ⟨_, rfl, rfl, _, rfl, ?_⟩
      refine ite2 (fun e => absurd e (by decide)) (fun _ => ?_)
      refine ⟨_, rfl, rfl, _, rfl, ?_⟩
      refine ite2 (fun e => absurd e (by decide)) (fun _ => ?_)
      refine ⟨_, rfl, rfl, _, rfl, ?_⟩
      refine ite2 (fun e => absurd e (by decide)) (fun _ => ?_)
      refine ⟨_, rfl, rfl, _, rfl, ?_⟩
      refine ite2 (fun e => absurd e (by decide)) (fun _ => ?_)
      exact ⟨_, rfl, rfl, fun d hd => q d hd⟩
    | n + 7, hk, _ => exact absurd hk (by omega)
theorem ok_kinds {f : Addr} {fd : FuncData} {k : Nat} (F : FnP K "_law_kinds" sKinds f fd) (T : Txt P w K mg base) (misi : mg "isinstance" = none) : FnE P w K mg base (k + 1) f fd ["e"] (spKinds K) := by
  refine F.okE scKinds (fun cdv A outer s H vs Q a D d oe hz hf h => ?_)
  obtain ⟨i, dd, fs, hi, rfl, rfl, ed, hx, q⟩ := h
  refine ⟨_, pss_cons (ps_set (i := 1) scKinds.nd rfl (.inl rfl) (pe_lst (pa_cons (pe_callB (call_isX List.mem_cons_self (T.ec i hi) hz hf) (by rfl) misi (by decide +kernel) (pa_cons (pv 0) (pa_cons (pe_glob (v := .ref (exC K 0)) (by rfl) (T.cl 0 (by decide)).gC rfl) pa_nil))) (pa_cons (pe_callB (call_isX List.mem_cons_self (T.ec i hi) hz hf) (by rfl) misi (by decide +kernel) (pa_cons (pv 0) (pa_cons (pe_glob (v := .ref (exC K 1)) (by rfl) (T.cl 1 (by decide)).gC rfl) pa_nil))) (pa_cons (pe_callB (call_isX List.mem_cons_self (T.ec i hi) hz hf) (by rfl) misi (by decide +kernel) (pa_cons (pv 0) (pa_cons (pe_glob (v := .ref (exC K 2)) (by rfl) (T.cl 2 (by decide)).gC rfl) pa_nil))) (pa_cons (pe_callB (call_isX List.mem_cons_self (T.ec i hi) hz hf) (by rfl) misi (by decide +kernel) (pa_cons (pv 0) (pa_cons (pe_glob (v := .ref (exC K 3)) (by rfl) (T.cl 3 (by decide)).gC rfl) pa_nil))) pa_nil))))))
    (pss_one (ps_ret (pe_op op_cat (pv 1) (pe_lst (pa_cons (pe_callB (call_isX List.mem_cons_self (T.ec i hi) hz hf) (by rfl) misi (by decide +kernel) (pa_cons (pv 0) (pa_cons (pe_glob (v := .ref (exC K 4)) (by rfl) (T.cl 4 (by decide)).gC rfl) pa_nil))) (pa_cons (pe_callB (call_isX List.mem_cons_self (T.ec i hi) hz hf) (by rfl) misi (by decide +kernel) (pa_cons (pv 0) (pa_cons (pe_glob (v := .ref (exC K 5)) (by rfl) (T.cl 5 (by decide)).gC rfl) pa_nil))) (pa_cons (pe_callB (call_isX List.mem_cons_self (T.ec i hi) hz hf) (by rfl) misi (by decide +kernel) (pa_cons (pv 0) (pa_cons (pe_glob (v := .ref (exC K 6)) (by rfl) (T.cl 6 (by decide)).gC rfl) pa_nil))) pa_nil))))))), ?_⟩
  refine ⟨_, rfl, _, _, _, dd, fs, rfl, fun u h => h, ed, hx, T.kit i 0 hi (by decide), ?_⟩
  refine ⟨_, rfl, _, _, _, dd, fs, rfl, fun u h => h, ed, hx, T.kit i 1 hi (by decide), ?_⟩
  refine ⟨_, rfl, _, _, _, dd, fs, rfl, fun u h => h, ed, hx, T.kit i 2 hi (by decide), ?_⟩
  refine ⟨_, rfl, _, _, _, dd, fs, rfl, fun u h => h, ed, hx, T.kit i 3 hi (by decide), ?_⟩
  refine ⟨leL 4 rfl, fun p0 n0 => ?_⟩
  refine ⟨_, rfl, ?_⟩
  refine ⟨_, rfl, _, _, _, dd, fs, rfl, fun u h => h, ed, at_new hx n0, T.kit i 4 hi (by decide), ?_⟩
  refine ⟨_, rfl, _, _, _, dd, fs, rfl, fun u h => h, ed, at_new hx n0, T.kit i 5 hi (by decide), ?_⟩
  refine ⟨_, rfl, _, _, _, dd, fs, rfl, fun u h => h, ed, at_new hx n0, T.kit i 6 hi (by decide), ?_⟩
  refine ⟨leL 3 rfl, fun q1 m1 => ⟨_, _, _, _, rfl, rfl, at_new upd_same m1, upd_same, leL 7 rfl, fun p1 n1 => ?_⟩⟩
  exact q _ p1 ((same_new n0).trans ((same_new m1).trans (same_new n1))) (((same_new n0).trans (same_new m1)).free n1) upd_same
/-- what the clause of _law_caught does -/
def tsCaught (K : PySem.W.Frag) : Addr → Value → Option Addr → TS := fun a cls d => tRet (tIf (tB (tCB (rIsY K a cls d) (tCons (tVar 3) (tCons (tC (.ty "ValueError")) tNil)))) (tCallY ["e"] (spKinds K) a cls d (tCons (tVar 3) tNil)) (tLst tNil))
def tbRaise (K : PySem.W.Frag) : WX → TS := fun W => tDrop (tCallS (spRaise K) (WE W) (tCons (tVar 0) (tCons (tVar 1) (tCons (tVar 2) tNil))))
theorem ok_caught {f g e : Addr} {fd gd ed : FuncData} {k : Nat} (F : FnP K "_law_caught" sCaught f fd) (T : Txt P w K mg base) (G : FnOk P w K mg base (L2.CX P w) k g gd ["k", "one", "other"] (spRaise K)) (gm : mg "_law_raise" = some (.ref g)) (gk : PySem.W.keepIn K (.ref g) = true) (gb : Binds K gd ["k", "one", "other"] [])
    (Ek : FnE P w K mg base k e ed ["e"] (spKinds K)) (em : mg "_law_kinds" = some (.ref e)) (ek : PySem.W.keepIn K (.ref e) = true) (eb : Binds K ed ["e"] []) (misi : mg "isinstance" = none) (mve : mg "ValueError" = none) : FnOk P w K mg base CX0 (k + 1) f fd ["k", "one", "other"] spCaught := by
  refine F.ok scCaught (fun vs H Q E h => ?_) (fun cdv A outer s H vs Q E hr h => ?_)
  · obtain ⟨k, one, other, _, rfl, _⟩ := h
    rfl
  · obtain ⟨i, one, other, hi, rfl, q⟩ := h
    refine ⟨_, PSs.nox (pss_cons (ps_try_clauses (tb := tbRaise K) (l := [(.ref (ga K "TreeError"), 3, tsCaught K)]) (Wout := fun _ _ _ _ => False) rfl rfl scCaught.nd takes0
        (fun W pn xe tk _ => pss_one (ps_expr (by exact (pe_callS G hr (by rfl) gm gk gb (fun σ => passAt tk σ) (by exact (pa_cons (pv 0) (pa_cons (pv 1) (pa_cons (pv 2) pa_nil))))))))
        (.cons ⟨by rfl, by decide, .inl T.gT⟩ rfl rfl (fun a oe cls d pn hz hf => pss_one (ps_ret (pe_ifExp (pt_val (pe_callB (call_isY List.mem_cons_self hz hf) (by rfl) misi (by decide +kernel) (pa_cons (pv 3) (pa_cons (pe_bltn (v := .ty "ValueError") (by rfl) mve (by decide +kernel) rfl) pa_nil)))) (pe_callY Ek ⟨hr.dp, hr.un⟩ List.mem_cons_self hz hf (by rfl) em ek eb (pa_cons (pv 3) pa_nil)) (pe_lst pa_nil)))) .nil))
      (pss_one (ps_ret (pe_lst pa_nil)))), ?_⟩
    refine ⟨_, rfl, _, rfl, _, rfl, i, one, other, hi, rfl, fun d hd => ⟨true, T.exT i hi, fun _ a ha => ?_, fun z => Bool.noConfusion z⟩⟩
    refine ⟨_, rfl, exC K i, rfl, T.ec i hi, _, _, true, d, _, rfl, fun u h => h, rfl, upd_same, T.kitV i hi, _, rfl, ?_⟩
    refine ite2 (fun _ => ?_) (fun z => absurd rfl z)
    refine ⟨exC K i, rfl, _, rfl, rfl, i, d, _, hi, rfl, rfl, rfl, upd_same, fun H' p sm np e => ?_⟩
    exact q H' p ((same_new hd).trans sm) ((same_new hd).free np) e
theorem ok_fields {f g : Addr} {fd gd : FuncData} {k : Nat} (F : FnP K "_law_fields" sFields f fd) (T : Txt P w K mg base) (G : FnOk P w K mg base (L2.CX P w) k g gd ["k", "one", "other"] (spRaise K)) (gm : mg "_law_raise" = some (.ref g)) (gk : PySem.W.keepIn K (.ref g) = true) (gb : Binds K gd ["k", "one", "other"] []) :
    FnOk P w K mg base CX0 (k + 1) f fd ["k", "one", "other"] spFields := by
  refine F.ok scFields (fun vs H Q E h => ?_) (fun cdv A outer s H vs Q E hr h => ?_)
  · obtain ⟨k, one, other, _, rfl, _⟩ := h
    rfl
  · obtain ⟨i, one, other, hi, rfl, q⟩ := h
    refine ⟨_, PSs.nox (pss_cons (ps_try_clauses (tb := tbRaise K) (l := [(.ref (exC K 0), 3, fun a cls d => tRet (tTup (tCons (tXf a cls d (exC K 0) "reason" (tVar 3)) tNil))), (.ref (exC K 1), 3, fun a cls d => tRet (tTup (tCons (tXf a cls d (exC K 1) "reason" (tVar 3)) tNil))), (.ref (exC K 2), 3, fun a cls d => tRet (tTup (tCons (tXf a cls d (exC K 2) "reason" (tVar 3)) tNil))), (.ref (exC K 3), 3, fun a cls d => tRet (tTup (tCons (tXf a cls d (exC K 3) "reason" (tVar 3)) tNil))), (.ref (exC K 4), 3, fun a cls d => tRet (tTup (tCons (tXf a cls d (exC K 4) "at" (tVar 3)) tNil))), (.ref (exC K 5), 3, fun a cls d => tRet (tTup (tCons (tXf a cls d (exC K 5) "number" (tVar 3)) (tCons (tXf a cls d (exC K 5) "reason" (tVar 3)) tNil)))), (.ref (exC K 6), 3, fun a cls d => tRet (tTup (tCons (tXf a cls d (exC K 6) "line" (tVar 3)) tNil)))]) (Wout := fun _ _ _ _ => False) rfl rfl scFields.nd takes0
        (fun W pn xe tk _ => pss_one (ps_expr (by exact (pe_callS G hr (by rfl) gm gk gb (fun σ => passAt tk σ) (by exact (pa_cons (pv 0) (pa_cons (pv 1) (pa_cons (pv 2) pa_nil))))))))
        (.cons ⟨by rfl, by decide, .inl (T.cl 0 (by decide)).gC⟩ rfl rfl (fun a oe cls d pn hz hf => pss_one (ps_ret (pe_tup (pa_cons (pe_xf (T.cl 0 (by decide)).xf ((T.cl 0 (by decide)).noF "reason" List.mem_cons_self) hz hf (pv 3)) pa_nil))))
        (.cons ⟨by rfl, by decide, .inl (T.cl 1 (by decide)).gC⟩ rfl rfl (fun a oe cls d pn hz hf => pss_one (ps_ret (pe_tup (pa_cons (pe_xf (T.cl 1 (by decide)).xf ((T.cl 1 (by decide)).noF "reason" List.mem_cons_self) hz hf (pv 3)) pa_nil))))
        (.cons ⟨by rfl, by decide, .inl (T.cl 2 (by decide)).gC⟩ rfl rfl (fun a oe cls d pn hz hf => pss_one (ps_ret (pe_tup (pa_cons (pe_xf (T.cl 2 (by decide)).xf ((T.cl 2 (by decide)).noF "reason" List.mem_cons_self) hz hf (pv 3)) pa_nil))))
        (.cons ⟨by rfl, by decide, .inl (T.cl 3 (by decide)).gC⟩ rfl rfl (fun a oe cls d pn hz hf => pss_one (ps_ret (pe_tup (pa_cons (pe_xf (T.cl 3 (by decide)).xf ((T.cl 3 (by decide)).noF "reason" List.mem_cons_self) hz hf (pv 3)) pa_nil))))
        (.cons ⟨by rfl, by decide, .inl (T.cl 4 (by decide)).gC⟩ rfl rfl (fun a oe cls d pn hz hf => pss_one (ps_ret (pe_tup (pa_cons (pe_xf (T.cl 4 (by decide)).xf ((T.cl 4 (by decide)).noF "at" List.mem_cons_self) hz hf (pv 3)) pa_nil))))
        (.cons ⟨by rfl, by decide, .inl (T.cl 5 (by decide)).gC⟩ rfl rfl (fun a oe cls d pn hz hf => pss_one (ps_ret (pe_tup (pa_cons (pe_xf (T.cl 5 (by decide)).xf ((T.cl 5 (by decide)).noF "number" List.mem_cons_self) hz hf (pv 3)) (pa_cons (pe_xf (T.cl 5 (by decide)).xf ((T.cl 5 (by decide)).noF "reason" (List.mem_cons_of_mem _ List.mem_cons_self)) hz hf (pv 3)) pa_nil)))))
        (.cons ⟨by rfl, by decide, .inl (T.cl 6 (by decide)).gC⟩ rfl rfl (fun a oe cls d pn hz hf => pss_one (ps_ret (pe_tup (pa_cons (pe_xf (T.cl 6 (by decide)).xf ((T.cl 6 (by decide)).noF "line" List.mem_cons_self) hz hf (pv 3)) pa_nil))))
        .nil))))))))
      (pss_one (ps_ret pe_non))), ?_⟩
    refine ⟨_, rfl, _, rfl, _, rfl, i, one, other, hi, rfl, fun d hd => ?_⟩
    match i, hi, q with
    | 0, hi, q =>
      refine ⟨true, T.exm 0 0 hi (by decide), fun _ a ha => ?_, (fun z => Bool.noConfusion z)⟩
      refine ⟨_, rfl, rfl, rfl, d, _, _, rfl, upd_same, rfl, leL 1 rfl, fun p np => ?_⟩
      exact q _ p ((same_new hd).trans (same_new np)) ((same_new hd).free np) upd_same
    | 1, hi, q =>
      refine ⟨false, T.exm 1 0 hi (by decide), (fun z => Bool.noConfusion z), fun _ => ?_⟩
      refine ⟨true, T.exm 1 1 hi (by decide), fun _ a ha => ?_, (fun z => Bool.noConfusion z)⟩
      refine ⟨_, rfl, rfl, rfl, d, _, _, rfl, upd_same, rfl, leL 1 rfl, fun p np => ?_⟩
      exact q _ p ((same_new hd).trans (same_new np)) ((same_new hd).free np) upd_same
    | 2, hi, q =>
      refine ⟨false, T.exm 2 0 hi (by decide), (fun z => Bool.noConfusion z), fun _ => ?_⟩
      refine ⟨false, T.exm 2 1 hi (by decide), (fun z => Bool.noConfusion z), fun _ => ?_⟩
      refine ⟨true, T.exm 2 2 hi (by decide), fun _ a ha => ?_, (fun z => Bool.noConfusion z)⟩
      refine ⟨_, rfl, rfl, rfl, d, _, _, rfl, upd_same, rfl, leL 1 rfl, fun p np => ?_⟩
      exact q _ p ((same_new hd).trans (same_new np)) ((same_new hd).free np) upd_same
    | 3, hi, q =>
      refine ⟨false, T.exm 3 0 hi (by decide), (fun z => Bool.noConfusion z), fun _ => ?_⟩
      refine ⟨false, T.exm 3 1 hi (by decide), (fun z => Bool.noConfusion z), fun _ => ?_⟩
      refine ⟨false, T.exm 3 2 hi (by decide), (fun z => Bool.noConfusion z), fun _ => ?_⟩
      refine ⟨true, T.exm 3 3 hi (by decide), fun _ a ha => ?_, (fun z => Bool.noConfusion z)⟩
      refine ⟨_, rfl, rfl, rfl, d, _, _, rfl, upd_same, rfl, leL 1 rfl, fun p np => ?_⟩
      exact q _ p ((same_new hd).trans (same_new np)) ((same_new hd).free np) upd_same
    | 4, hi, q =>
      refine ⟨false, T.exm 4 0 hi (by decide), (fun z => Bool.noConfusion z), fun _ => ?_⟩
      refine ⟨false, T.exm 4 1 hi (by decide), (fun z => Bool.noConfusion z), fun _ => ?_⟩
      refine ⟨false, T.exm 4 2 hi (by decide), (fun z => Bool.noConfusion z), fun _ => ?_⟩
      refine ⟨false, T.exm 4 3 hi (by decide), (fun z => Bool.noConfusion z), fun _ => ?_⟩
      refine ⟨true, T.exm 4 4 hi (by decide), fun _ a ha => ?_, (fun z => Bool.noConfusion z)⟩
      refine ⟨_, rfl, rfl, rfl, d, _, _, rfl, upd_same, rfl, leL 1 rfl, fun p np => ?_⟩
      exact q _ p ((same_new hd).trans (same_new np)) ((same_new hd).free np) upd_same
    | 5, hi, q =>
      refine ⟨false, T.exm 5 0 hi (by decide), (fun z => Bool.noConfusion z), fun _ => ?_⟩
      refine ⟨false, T.exm 5 1 hi (by decide), (fun z => Bool.noConfusion z), fun _ => ?_⟩
      refine ⟨false, T.exm 5 2 hi (by decide), (fun z => Bool.noConfusion z), fun _ => ?_⟩
      refine ⟨false, T.exm 5 3 hi (by decide), (fun z => Bool.noConfusion z), fun _ => ?_⟩
      refine ⟨false, T.exm 5 4 hi (by decide), (fun z => Bool.noConfusion z), fun _ => ?_⟩
      refine ⟨true, T.exm 5 5 hi (by decide), fun _ a ha => ?_, (fun z => Bool.noConfusion z)⟩
      refine ⟨_, rfl, rfl, rfl, d, _, _, rfl, upd_same, rfl, _, rfl, rfl, rfl, d, _, _, rfl, upd_same, rfl, leL 2 rfl, fun p np => ?_⟩
      exact q _ p ((same_new hd).trans (same_new np)) ((same_new hd).free np) upd_same
    | 6, hi, q =>
      refine ⟨false, T.exm 6 0 hi (by decide), (fun z => Bool.noConfusion z), fun _ => ?_⟩
      refine ⟨false, T.exm 6 1 hi (by decide), (fun z => Bool.noConfusion z), fun _ => ?_⟩
      refine ⟨false, T.exm 6 2 hi (by decide), (fun z => Bool.noConfusion z), fun _ => ?_⟩
      refine ⟨false, T.exm 6 3 hi (by decide), (fun z => Bool.noConfusion z), fun _ => ?_⟩
      refine ⟨false, T.exm 6 4 hi (by decide), (fun z => Bool.noConfusion z), fun _ => ?_⟩
      refine ⟨false, T.exm 6 5 hi (by decide), (fun z => Bool.noConfusion z), fun _ => ?_⟩
      refine ⟨true, T.exm 6 6 hi (by decide), fun _ a ha => ?_, (fun z => Bool.noConfusion z)⟩
      refine ⟨_, rfl, rfl, rfl, d, _, _, rfl, upd_same, rfl, leL 1 rfl, fun p np => ?_⟩
      exact q _ p ((same_new hd).trans (same_new np)) ((same_new hd).free np) upd_same
    | n + 7, hk, _ => exact absurd hk (by omega)
end
end K00
set_option Elab.async false
set_option linter.all false
set_option maxRecDepth 100000
set_option maxHeartbeats 4000000
namespace K00
open PySem PySem.Spec PyProof.Rows L2 L2H He
abbrev sLaw : Stmt := topS 65
theorem scLaw : FnScope ["script", "draws", "at", "values", "k", "one", "other", "j"] ["script"] (defScope sLaw) := ⟨rfl, rfl, rfl, by decide +kernel, rfl, by decide +kernel, by decide +kernel⟩
def spLaw (K : PySem.W.Frag) : Sp := fun vs H Q _ => ∃ (a : Addr) (ns : List Int), vs = [.ref a] ∧ SqL K H a (ns.map V.int) ∧ ∀ H', Q (.bl true) H'
section
variable {X : Cx} {CX : CXT} {k : Nat} {f : Addr} {fd : FuncData} {sp : Sp} {E : XK} {x : Str} {p pos : Pos}
theorem pe_callG00 (F : FnG X.prog X.w X.K X.mg X.base CX k f fd [] sp) (hgd : X.A.guards = some []) (hr : Room k X.A) (hg : Gl X x) (hm : X.mg x = some (.ref f)) (hk : PySem.W.keepIn X.K (.ref f) = true) (hb : Binds X.K fd [] []) (hx : Passes CX X E)
    (hdb : (x == ("__debug__" : Str)) = false := by decide) : PE X (.Call (.Name x p) [] [] pos) (tCall sp [] E tNil) := by
  refine ⟨fun pins s σ H Q I h => wpAny_Call_Name_kw (ld_glob I hg hm ?_ hdb)⟩
  exact PySem.W.callWith_K0 I.kIn hk (F.callAt (us := []) hgd hr hb (fun e s' => hx pins σ H s e s' I) I .nil h)
end
def valL (T : Addr) : List V := [.str "word", .str "", .str "form", .int 0, .int 17, .int (-3), .non, .ref T, .str "a line", .bl true]
def valD : List PyData := [.str "word", .str "", .str "form", .int 0, .int 17, .int (-3), .none, .tuple [.str "a", .int 5], .str "a line", .bool true]
theorem val_dp {K : PySem.W.Frag} {H : Hp} {T : Addr} (h : H T = some (.tup [.str "a", .int 5])) {x : V} (hx : x ∈ valL T) : ∃ d ∈ valD, Dp K H x d := by
  unfold valL at hx
  simp only [List.mem_cons, List.not_mem_nil, or_false] at hx
  rcases hx with rfl | rfl | rfl | rfl | rfl | rfl | rfl | rfl | rfl | rfl
  · exact ⟨.str "word", by simp [valD], .str _⟩
  · exact ⟨.str "", by simp [valD], .str _⟩
  · exact ⟨.str "form", by simp [valD], .str _⟩
  · exact ⟨.int 0, by simp [valD], .int _⟩
  · exact ⟨.int 17, by simp [valD], .int _⟩
  · exact ⟨.int (-3), by simp [valD], .int _⟩
  · exact ⟨.none, by simp [valD], .non⟩
  · exact ⟨.tuple [.str "a", .int 5], by simp [valD], .tup (.inl (.inl h)) (.cons (.str _) (.cons (.int _) .nil))⟩
  · exact ⟨.str "a line", by simp [valD], .str _⟩
  · exact ⟨.bool true, by simp [valD], .bl _⟩
theorem dp_same {K : PySem.W.Frag} {H H' : Hp} (e : Same H H') {v : V} {d : PyData} : Dp K H v d → Dp K H' v d := by
  intro h
  exact (Dp.rec (motive_1 := fun v d _ => Dp K H' v d) (motive_2 := fun vs ds _ => DpAll K H' vs ds) .non (fun b => .bl b) (fun i => .int i) (fun x => .str x)
    (fun h _ ih => .lst (h.imp (Or.imp (e _ _) (fun ⟨o, z⟩ => ⟨o, e _ _ z⟩)) id) ih) (fun h _ ih => .tup (h.imp (Or.imp (e _ _) (fun ⟨o, z⟩ => ⟨o, e _ _ z⟩)) id) ih) .nil (fun _ _ a b => .cons a b) h)
/-- what stands next to a list that changes -/
theorem dp_upd {H : Hp} {t T : Addr} {o : HO} (h : H T = some (.tup [.str "a", .int 5])) (ht : H t = some o) (no : ∀ xs, o ≠ .tup xs) {u : HO} : upd H t u T = some (.tup [.str "a", .int 5]) := by
  have ne : T ≠ t := fun e => by
    rw [e, ht] at h
    exact no _ (Option.some.inj h)
  rw [upd_ne ne]
  exact h
def outD (k : Nat) (a b : PyData) : PyData := .tuple (if k = 5 then [a, b] else [a])
theorem out_ok : ∀ k, k < 7 → ∀ a ∈ valD, ∀ b ∈ valD, (outD k a b).showable = true ∧ (outD k a b).hasDict = false ∧ (outD k a b).depth ≤ 64 ∧ (outD k a b).shown.length ≤ sizeLine := by decide +kernel
def kD (i : Nat) : PyData := .list ((List.range 7).map fun j => .bool (decide (i = j)))
theorem kD_ok : ∀ k, k < 7 → SeqAt.shaped (kD k) = true ∧ PyData.eqv (kD k) (kD k) = true := by decide +kernel
theorem dpAll_bools {K : PySem.W.Frag} {H : Hp} : ∀ bs : List Bool, DpAll K H (bs.map V.bl) (bs.map PyData.bool)
  | [] => .nil
  | n :: r => .cons (.bl n) (dpAll_bools r)
theorem kD_dp {K : PySem.W.Frag} {H : Hp} {p : Addr} {k : Nat} (h : H p = some (.lst (kindsL k))) : Dp K H (.ref p) (kD k) := by
  have e := dpAll_bools (K := K) (H := H) ((List.range 7).map fun j => decide (k = j))
  rw [List.map_map, List.map_map] at e
  exact .lst (.inl (.inl h)) e
theorem outs_dp {K : PySem.W.Frag} {H : Hp} {p : Addr} {k : Nat} {x y : V} {a b : PyData} (h : H p = some (.tup (valsN k x y))) (hx : Dp K H x a) (hy : Dp K H y b) : Dp K H (.ref p) (outD k a b) := by
  refine .tup (.inl (.inl h)) ?_
  by_cases e : k = 5
  · subst e
    exact .cons hx (.cons hy .nil)
  · rw [if_neg e]
    unfold valsN
    split
    · exact absurd rfl e
    · exact .cons hx .nil
def kAcc (k i : Nat) : List V := (List.range i).map fun j => .bl (decide (k = j))
section
variable {P : Program} {w : World} {K : PySem.W.Frag} {mg : Str → Option Value} {base : Heap}
structure Kp (K : PySem.W.Frag) (mg : Str → Option Value) (x : Str) (f : Addr) (fd : FuncData) (ps : List Str) : Prop where
  g : mg x = some (.ref f)
  k : PySem.W.keepIn K (.ref f) = true
  b : Binds K fd ps []
def J (K : PySem.W.Frag) (a d t v T : Addr) (ds : List Int) (H : Hp) : Prop := d ≠ t ∧ v ≠ t ∧ SqL K H d (ds.map V.int) ∧ H v = some (.lst (valL T)) ∧ H T = some (.tup [.str "a", .int 5]) ∧ ∃ n : Int, 0 ≤ n ∧ H t = some (.lst [.int n])
theorem J.same {a d t v T : Addr} {ds : List Int} {H H' : Hp} (h : J K a d t v T ds H) (e : Same H H') : J K a d t v T ds H' := by
  obtain ⟨h1, h2, h3, h4, h5, n, hn, h6⟩ := h
  exact ⟨h1, h2, e.seq h3, e _ _ h4, e _ _ h5, n, hn, e _ _ h6⟩
theorem J.upd {a d t v T : Addr} {ds : List Int} {H : Hp} {n : Int} (h : J K a d t v T ds H) (hn : 0 ≤ n) : J K a d t v T ds (upd H t (.lst [.int n])) := by
  obtain ⟨h1, h2, h3, h4, h5, m, hm, h6⟩ := h
  exact ⟨h1, h2, seq_upd h3 h1, by rw [upd_ne h2]; exact h4, dp_upd h5 h6 (fun _ => nofun), n, hn, upd_same⟩
theorem kAcc_step {k i : Nat} : kAcc k i ++ [V.bl (decide (V.int (0 + (i : Int)) = V.int (0 + (k : Int))))] = kAcc k (i + 1) := by
  unfold kAcc
  rw [List.range_succ, List.map_append]
  congr 1
  show [V.bl _] = [V.bl _]
  congr 2
  have : (V.int (0 + (i : Int)) = V.int (0 + (k : Int))) ↔ k = i := by
    rw [V.int.injEq]
    omega
  exact decide_eq_decide.mpr this
theorem ok_law {f f1 f2 f3 f4 f5 : Addr} {fd d1 d2 d3 d4 d5 : FuncData} {k : Nat} (F : FnP K "law" sLaw f fd) (G1 : FnOk P w K mg base CX0 k f1 d1 ["script"] (spDraws K)) (K1 : Kp K mg "_law_draws" f1 d1 ["script"])
    (G2 : FnG P w K mg base CX0 k f2 d2 [] spLim) (K2 : Kp K mg "_law_limits_right" f2 d2 []) (G3 : FnOk P w K mg base CX0 k f3 d3 ["rows", "draws", "at"] (spOne K)) (K3 : Kp K mg "_law_one" f3 d3 ["rows", "draws", "at"])
    (G4 : FnOk P w K mg base CX0 k f4 d4 ["k", "one", "other"] spCaught) (K4 : Kp K mg "_law_caught" f4 d4 ["k", "one", "other"]) (G5 : FnOk P w K mg base CX0 k f5 d5 ["k", "one", "other"] spFields) (K5 : Kp K mg "_law_fields" f5 d5 ["k", "one", "other"])
    (mr : mg "range" = none) (mrp : mg "repr" = none) : FnG P w K mg base CX0 (k + 1) f fd ["script"] (spLaw K) := by
  refine F.okG scLaw (fun vs H Q E h => ?_) (fun cdv A outer s H vs Q E hg hr h => ?_)
  · obtain ⟨a, ns, rfl, _⟩ := h
    rfl
  · obtain ⟨a, ns, rfl, hS, q⟩ := h
    have hgd : (A.deeper (envOfC "law" (defScope sLaw) s.heap.objs.size f cdv)).guards = some [] := hg
    have hu := hr.un
    replace hu : (A.deeper (envOfC "law" (defScope sLaw) s.heap.objs.size f cdv)).units + 66 < cLine := by omega
    have hu2 : (A.deeper (envOfC "law" (defScope sLaw) s.heap.objs.size f cdv)).units + 64 < cLine := by omega
    refine ⟨_, PSs.nox (pss_cons (ps_set (i := 1) scLaw.nd rfl (.inl rfl) (pe_call G1 hr (by rfl) K1.g K1.k K1.b .nil pass0 (pa_cons (pv 0) pa_nil)))
      (pss_cons (ps_set (i := 2) scLaw.nd rfl (.inl rfl) (pe_lst (pa_cons pe_int pa_nil)))
      (pss_cons (ps_if (pt_not (pt_val (pe_callG00 G2 hgd hr (by rfl) K2.g K2.k K2.b pass0))) (pss_one (ps_ret pe_bl)) pss_nil)
      (pss_cons (ps_set (i := 3) scLaw.nd rfl (.inl rfl) (pe_lst (pa_cons pe_str (pa_cons pe_str (pa_cons pe_str (pa_cons pe_int (pa_cons pe_int (pa_cons (pe_un un_neg pe_int) (pa_cons pe_non (pa_cons (pe_tup (pa_cons pe_str (pa_cons pe_int pa_nil))) (pa_cons pe_str (pa_cons pe_bl pa_nil))))))))))))
      (pss_cons (ps_for PassesOwn.never rfl (pi_range1 rfl mr (pa_cons pe_int pa_nil)) (pg_name (i := 4) scLaw.nd rfl (.inr rfl))
        (pss_cons (ps_par (i := 5) (j := 6) rfl scLaw.nd rfl rfl (by decide) rfl rfl (pa_cons (pe_call G3 hr (by rfl) K3.g K3.k K3.b .nil pass0 (pa_cons (pv 3) (pa_cons (pv 1) (pa_cons (pv 2) pa_nil)))) (pa_cons (pe_call G3 hr (by rfl) K3.g K3.k K3.b .nil pass0 (pa_cons (pv 3) (pa_cons (pv 1) (pa_cons (pv 2) pa_nil)))) pa_nil)) (by rfl))
        (pss_cons (ps_if (pt_cmpR (op_neD hu2) (pe_call G4 hr (by rfl) K4.g K4.k K4.b .nil pass0 (pa_cons (pv 4) (pa_cons (pv 5) (pa_cons (pv 6) pa_nil))))
            (pe_lc (own := [("j", 7)]) rfl scLaw.nd (pi_range1 rfl mr (pa_cons pe_int pa_nil)) (blkOk_by (N := ["script", "draws", "at", "values", "k", "one", "other", "j"]) (sc := defScope sLaw) (by decide +kernel)) (fun s H C cl fp => pg_name (i := 7) scLaw.nd rfl (.inl rfl)) (fun s H C cl fp => pts_nil) (fun s H C cl fp => pe_cmpR op_eq (pv 7) (pv 4) (nomark _))) (nomark _)) (pss_one (ps_ret pe_bl)) pss_nil)
        (pss_one (ps_if (pt_cmpR op_ne (pe_callB (call_repr hgd hu) (by rfl) mrp (by decide +kernel) (pa_cons (pe_call G5 hr (by rfl) K5.g K5.k K5.b .nil pass0 (pa_cons (pv 4) (pa_cons (pv 5) (pa_cons (pv 6) pa_nil)))) pa_nil))
            (pe_callB (call_repr hgd hu) (by rfl) mrp (by decide +kernel) (pa_cons (pe_ifExp (pt_cmpR op_eq (pv 4) pe_int (nomark _)) (pe_tup (pa_cons (pv 5) (pa_cons (pv 6) pa_nil))) (pe_tup (pa_cons (pv 5) pa_nil))) pa_nil)) (nomark _)) (pss_one (ps_ret pe_bl)) pss_nil)))))
      (pss_one (ps_ret pe_bl))))))), ?_⟩
    refine ⟨_, rfl, a, ns, rfl, hS, fun H1 d ds e1 nd hd => ?_⟩
    refine ⟨leL 1 rfl, fun t nt => ?_⟩
    refine ⟨rfl, fun H2 e2 => ⟨true, rfl, ?_⟩⟩
    refine ite2 (fun z => absurd z (by decide)) (fun _ => ?_)
    have hd2 : SqL K H2 d (ds.map V.int) := e2.seq ((same_new nt).seq (.inl (.inl hd)))
    have ht2 : H2 t = some (.lst [.int 0]) := e2 _ _ upd_same
    have ndt : d ≠ t := fun z => by
      rw [z, nt] at hd
      cases hd
    refine ⟨3, rfl, leL 2 rfl, fun T nT => ⟨leL 10 rfl, fun v nv => ?_⟩⟩
    have nvt : v ≠ t := fun z => by
      rw [z, upd_ne (ne_of_none ht2 nT), ht2] at nv
      cases nv
    have J0 : J K a d t v T ds (upd (upd H2 T (.tup [.str "a", .int 5])) v (.lst (valL T))) :=
      ⟨ndt, nvt, ((same_new nT).trans (same_new nv)).seq hd2, upd_same, same_new nv _ _ upd_same, 0, by decide, same_new nv _ _ (same_new nT _ _ ht2)⟩
    refine ⟨7, rfl, by decide, by decide, for_range (lo := 0) (n := 7) (fun j σ H' => (∃ y4 y5 y6 y7 : Option V, σ = [some (.ref a), some (.ref d), some (.ref t), some (.ref v), y4, y5, y6, y7]) ∧ J K a d t v T ds H')
      ⟨⟨none, none, none, none, rfl⟩, J0⟩ (fun j σ H3 hj hp => ?_) (fun σ H3 hp => ?_)⟩
    · obtain ⟨⟨y4, y5, y6, y7, rfl⟩, j3⟩ := hp
      have j3' := j3
      obtain ⟨_, _, hd3, hv3, hT3, n3, hn3, ht3⟩ := j3'
      refine ⟨_, rfl, _, rfl, _, rfl, v, d, t, valL T, ds, n3, rfl, ndt, nvt, hv3, Nat.succ_pos _, hd3, ht3, hn3, fun x hx => ?_⟩
      have j4 := j3.upd (n := n3 + 1) (by omega)
      have j4' := j4
      obtain ⟨_, _, hd4, hv4, hT4, n4, hn4, ht4⟩ := j4'
      refine ⟨_, rfl, _, rfl, _, rfl, v, d, t, valL T, ds, n4, rfl, ndt, nvt, hv4, Nat.succ_pos _, hd4, ht4, hn4, fun y hy => ?_⟩
      have j5 := j4.upd (n := n4 + 1) (by omega)
      generalize upd (upd H3 t (.lst [.int (n3 + 1)])) t (.lst [.int (n4 + 1)]) = H5 at j5 ⊢
      have j5' := j5
      obtain ⟨_, _, hd5, hv5, hT5, n5, hn5, ht5⟩ := j5'
      obtain ⟨dx, mx, px⟩ := val_dp (K := K) hT5 hx
      obtain ⟨dy, my, py⟩ := val_dp (K := K) hT5 hy
      refine ⟨x, y, rfl, ?_⟩
      have ek : ∀ z : List V, V.int (0 + (j : Int)) :: z = V.int (j : Int) :: z := fun z => by rw [Int.zero_add]
      refine ⟨_, rfl, _, rfl, _, rfl, j, x, y, hj, ek _, fun H6 p6 e6 n6 h6 => ?_⟩
      refine ⟨7, rfl, by decide, by decide, fun D hD => lc_range (lo := 0) (n := 7) (fun i H' => H' D = some (.lst (kAcc j i)) ∧ Same H6 H') ⟨upd_same, same_new hD⟩ (fun i H' hi p => ?_) (fun H7 p7 => ?_)⟩
      · obtain ⟨p1, p2⟩ := p
        refine ⟨rfl, ?_⟩
        unfold tYes
        dsimp only
        rw [if_pos rfl]
        refine ⟨_, rfl, _, rfl, rfl, kAcc j i, p1, ?_, ?_, ?_⟩
        · refine Nat.lt_of_le_of_lt (Nat.le_of_eq (by unfold kAcc; rw [List.length_map, List.length_range])) (Nat.lt_of_lt_of_le hi (leL 7 rfl))
        · rw [upd_same, kAcc_step]
        · intro b o e
          rw [upd_ne (ne_of_none e hD)]
          exact p2 _ _ e
      · obtain ⟨p1, p2⟩ := p7
        obtain ⟨sk, ek7⟩ := kD_ok j hj
        refine ⟨kD j, kD j, kD_dp (p2 _ _ h6), kD_dp p1, sk, sk, false, by rw [ek7]; rfl, ?_⟩
        refine ite2 (fun z => absurd z (by decide)) (fun _ => ?_)
        have j7 := (j5.same e6).same p2
        have px7 := dp_same p2 (dp_same e6 px)
        have py7 := dp_same p2 (dp_same e6 py)
        obtain ⟨o1, o2, o3, o4⟩ := out_ok j hj dx mx dy my
        refine ⟨_, rfl, _, rfl, _, rfl, j, x, y, hj, ek _, fun H8 p8 e8 n8 h8 => ⟨.ref p8, outD j dx dy, rfl, outs_dp h8 (dp_same e8 px7) (dp_same e8 py7), o1, o2, o3, o4, ?_⟩⟩
        refine ⟨_, rfl, rfl, _, rfl, ite2 (fun e => ?_) (fun e => ?_)⟩
        · have e5 : j = 5 := by
            have := V.int.inj (of_decide_eq_true e)
            omega
          refine ⟨_, rfl, _, rfl, leL 2 rfl, fun p9 n9 => ⟨.ref p9, outD j dx dy, rfl, outs_dp (k := j) (x := x) (y := y) (by rw [upd_same, e5]; rfl) (dp_same (same_new n9) (dp_same e8 px7)) (dp_same (same_new n9) (dp_same e8 py7)), o1, o2, o3, o4, rfl, false, ?_, ?_⟩⟩
          · rw [decide_eq_true rfl]
            rfl
          · refine ite2 (fun z => absurd z (by decide)) (fun _ => ?_)
            exact ⟨⟨_, _, _, _, rfl⟩, (j7.same e8).same (same_new n9)⟩
        · have e5 : j ≠ 5 := fun z => e (decide_eq_true (by rw [z]; rfl))
          refine ⟨_, rfl, leL 1 rfl, fun p9 n9 => ⟨.ref p9, outD j dx dy, rfl, outs_dp (k := j) (x := x) (y := y) (by rw [upd_same]; unfold valsN; split; exact absurd rfl e5; rfl) (dp_same (same_new n9) (dp_same e8 px7)) (dp_same (same_new n9) (dp_same e8 py7)), o1, o2, o3, o4, rfl, false, ?_, ?_⟩⟩
          · rw [decide_eq_true rfl]
            rfl
          · refine ite2 (fun z => absurd z (by decide)) (fun _ => ?_)
            exact ⟨⟨_, _, _, _, rfl⟩, (j7.same e8).same (same_new n9)⟩
    · exact q H3
end
end K00
set_option Elab.async false
set_option linter.all false
set_option maxRecDepth 100000
set_option maxHeartbeats 4000000
namespace K00
open PySem PySem.Spec PyProof.Rows L2 L2H He HX
section
variable {w : World} {K : PySem.W.Frag} {h : Heap} {mg : Str → Option Value} {base : Heap}
abbrev Says (K : PySem.W.Frag) : Prop := SaysX PR.main.file okF fn ex K
theorem faOk (c : Says K) {f : Fa} (hf : f ∈ faL) : f.ok K = true := by
  have h1 : okF K = true := c.all.1
  unfold okF at h1
  exact List.all_eq_true.mp (Bool.and_eq_true_iff.mp h1).1 f hf
theorem fact (c : Says K) (i : Nat) {f : Fa} (hf : faL[i]? = some f := by rfl) : f.ok K = true := faOk c (List.mem_of_getElem? hf)
def faR : List Fa := faL.drop 45
theorem faL_eq : faL = limN.map (fun p => Fa.int p.1 p.2) ++ faR := by rfl
theorem limF (X : K.In h) (G : h.Ns mainGlobals mg) (c : Says K) (i : Nat) (p : Str × Int) (hp : limN[i]? = some p) : ∃ t, mg p.1 = some (.int p.2 t) :=
  int_ok X G (faOk c (f := .int p.1 p.2) (by rw [faL_eq]; exact List.mem_append_left _ (List.mem_map_of_mem (f := fun p => Fa.int p.1 p.2) (List.mem_of_getElem? hp))))
theorem nm_mem : ∀ i, i < 7 → nm i ∈ exN := by decide
theorem nm_inj : ∀ i, i < 7 → ∀ j, j < 7 → decide (nm i = nm j) = decide (i = j) := by decide
theorem okEs (c : Says K) {i : Nat} (hi : i < 7) : okE K (nm i) = true := by
  have h1 : okF K = true := c.all.1
  unfold okF at h1
  exact List.all_eq_true.mp (Bool.and_eq_true_iff.mp h1).2 _ (nm_mem i hi)
theorem okEs' (c : Says K) {i : Nat} (hi : i < 7) : ExcC K (exC K i) ∧ PySem.W.exmOne K (.ref (exC K i)) (.ref (ga K "TreeError")) = some true ∧ PySem.W.kitOne K (.ref (exC K i)) (.type "ValueError") = some true ∧
    ∀ j, j < 7 → PySem.W.exmOne K (.ref (exC K i)) (.ref (exC K j)) = some (decide (i = j)) ∧ PySem.W.kitOne K (.ref (exC K i)) (.ref (exC K j)) = some (decide (i = j)) := by
  have h1 := okEs c hi
  unfold okE at h1
  obtain ⟨h2, h1⟩ := ba h1
  obtain ⟨h3, h1⟩ := ba h1
  obtain ⟨h4, h1⟩ := ba h1
  refine ⟨excCB_ok h2, of_decide_eq_true h3, of_decide_eq_true h4, fun j hj => ?_⟩
  obtain ⟨h5, h6⟩ := ba (List.all_eq_true.mp h1 (nm j) (nm_mem j hj))
  have e := nm_inj i hi j hj
  exact ⟨by rw [← e]; exact of_decide_eq_true h5, by rw [← e]; exact of_decide_eq_true h6⟩
theorem super_top : (PR.main.scope.names.lookup ("super" : Str)).isSome = false := by kernel_rfl
theorem mk0 (X : K.In h) (G : h.Ns mainGlobals mg) (c : Says K) (Md : Mod K mg base) : ExcMk PR w K mg base "ArgumentError" (ga K "ArgumentError") ["reason"] := by
  obtain ⟨cda, cc, oc, od, osl, kV, doc, pm, an, ct, F, T, ho, hcd⟩ := c.exc (P := PR) X G 0
  exact excMk1 (f := "reason") Md F T ho hcd rfl rfl (fun s' x v => .of_eq rfl) rfl rfl rfl (by decide +kernel) rfl rfl rfl rfl (fun L => ⟨_, rfl⟩) (by decide) (by decide) super_top (noat_ok (fact c 63 (f := .noat "ArgumentError" "reason")))
theorem mk1 (X : K.In h) (G : h.Ns mainGlobals mg) (c : Says K) (Md : Mod K mg base) : ExcMk PR w K mg base "PaperError" (ga K "PaperError") ["reason"] := by
  obtain ⟨cda, cc, oc, od, osl, kV, doc, pm, an, ct, F, T, ho, hcd⟩ := c.exc (P := PR) X G 1
  exact excMk1 (f := "reason") Md F T ho hcd rfl rfl (fun s' x v => .of_eq rfl) rfl rfl rfl (by decide +kernel) rfl rfl rfl rfl (fun L => ⟨_, rfl⟩) (by decide) (by decide) super_top (noat_ok (fact c 64 (f := .noat "PaperError" "reason")))
theorem mk2 (X : K.In h) (G : h.Ns mainGlobals mg) (c : Says K) (Md : Mod K mg base) : ExcMk PR w K mg base "TooMany" (ga K "TooMany") ["reason"] := by
  obtain ⟨cda, cc, oc, od, osl, kV, doc, pm, an, ct, F, T, ho, hcd⟩ := c.exc (P := PR) X G 2
  exact excMk1 (f := "reason") Md F T ho hcd rfl rfl (fun s' x v => .of_eq rfl) rfl rfl rfl (by decide +kernel) rfl rfl rfl rfl (fun L => ⟨_, rfl⟩) (by decide) (by decide) super_top (noat_ok (fact c 65 (f := .noat "TooMany" "reason")))
theorem mk3 (X : K.In h) (G : h.Ns mainGlobals mg) (c : Says K) (Md : Mod K mg base) : ExcMk PR w K mg base "CheckError" (ga K "CheckError") ["reason"] := by
  obtain ⟨cda, cc, oc, od, osl, kV, doc, pm, an, ct, F, T, ho, hcd⟩ := c.exc (P := PR) X G 3
  exact excMk1 (f := "reason") Md F T ho hcd rfl rfl (fun s' x v => .of_eq rfl) rfl rfl rfl (by decide +kernel) rfl rfl rfl rfl (fun L => ⟨_, rfl⟩) (by decide) (by decide) super_top (noat_ok (fact c 66 (f := .noat "CheckError" "reason")))
theorem mk4 (X : K.In h) (G : h.Ns mainGlobals mg) (c : Says K) (Md : Mod K mg base) : ExcMk PR w K mg base "TextError" (ga K "TextError") ["at"] := by
  obtain ⟨cda, cc, oc, od, osl, kV, doc, pm, an, ct, F, T, ho, hcd⟩ := c.exc (P := PR) X G 4
  exact excMk1 (f := "at") Md F T ho hcd rfl rfl (fun s' x v => .of_eq rfl) rfl rfl rfl (by decide +kernel) rfl rfl rfl rfl (fun L => ⟨_, rfl⟩) (by decide) (by decide) super_top (noat_ok (fact c 67 (f := .noat "TextError" "at")))
theorem mk6 (X : K.In h) (G : h.Ns mainGlobals mg) (c : Says K) (Md : Mod K mg base) : ExcMk PR w K mg base "CommandError" (ga K "CommandError") ["line"] := by
  obtain ⟨cda, cc, oc, od, osl, kV, doc, pm, an, ct, F, T, ho, hcd⟩ := c.exc (P := PR) X G 6
  exact excMk1 (f := "line") Md F T ho hcd rfl rfl (fun s' x v => .of_eq rfl) rfl rfl rfl (by decide +kernel) rfl rfl rfl rfl (fun L => ⟨_, rfl⟩) (by decide) (by decide) super_top (noat_ok (fact c 70 (f := .noat "CommandError" "line")))
theorem mk5 (X : K.In h) (G : h.Ns mainGlobals mg) (c : Says K) (Md : Mod K mg base) : ExcMk PR w K mg base "LogError" (ga K "LogError") ["number", "reason"] := by
  obtain ⟨cda, cc, oc, od, osl, kV, doc, pm, an, ct, F, T, ho, hcd⟩ := c.exc (P := PR) X G 5
  exact excMk2 (f := "number") (g := "reason") Md F T ho hcd rfl rfl (fun s' x v u => .of_eq rfl) rfl rfl rfl (by decide +kernel) rfl rfl rfl rfl rfl (fun L => ⟨_, rfl⟩) (by decide) (by decide) (by decide) (by decide) (by decide) super_top (noat_ok (fact c 68 (f := .noat "LogError" "number"))) (noat_ok (fact c 69 (f := .noat "LogError" "reason")))
theorem txt (X : K.In h) (G : h.Ns mainGlobals mg) (c : Says K) (Md : Mod K mg base) : Txt PR w K mg base := by
  refine ⟨fun i hi => ?_, fun i hi => (okEs' c hi).1, fun i hi => (okEs' c hi).2.1, fun i j hi hj => ((okEs' c hi).2.2.2 j hj).1, fun i j hi hj => ((okEs' c hi).2.2.2 j hj).2, fun i hi => (okEs' c hi).2.2.1, glo_ok X G (fact c 62 (f := .glo "TreeError"))⟩
  match i, hi with
  | 0, _ => exact mk0 X G c Md
  | 1, _ => exact mk1 X G c Md
  | 2, _ => exact mk2 X G c Md
  | 3, _ => exact mk3 X G c Md
  | 4, _ => exact mk4 X G c Md
  | 5, _ => exact mk5 X G c Md
  | 6, _ => exact mk6 X G c Md
  | n + 7, hi => exact absurd hi (by omega)
theorem facts {f : Addr} (X : K.In h) (G : h.Ns mainGlobals mg) (hfa : mg ("law" : Str) = some (.ref f)) (c : Says K) :
    ∃ fd : FuncData, (∀ (s : Shared) (v : Value), BindsTo s fd ⟨[v], []⟩ [("script", v)]) ∧ ∀ base : Heap, Mod K mg base → FnG PR w K mg base CX0 6 f fd ["script"] (spLaw K) := by
  obtain ⟨d0, F0⟩ := c.def_ 0 (d := mkD 56 "_law_draws")
  replace F0 : FnP K "_law_draws" sDraws (ga K "_law_draws") d0 := F0
  obtain ⟨d1, F1⟩ := c.def_ 1 (d := mkD 57 "_law_more")
  replace F1 : FnP K "_law_more" sMore (ga K "_law_more") d1 := F1
  obtain ⟨d2, F2⟩ := c.def_ 2 (d := mkD 58 "_law_take")
  replace F2 : FnP K "_law_take" sTake (ga K "_law_take") d2 := F2
  obtain ⟨d3, F3⟩ := c.def_ 3 (d := mkD 59 "_law_one")
  replace F3 : FnP K "_law_one" sOne (ga K "_law_one") d3 := F3
  obtain ⟨d4, F4⟩ := c.def_ 4 (d := mkD 60 "_law_limits_right")
  replace F4 : FnP K "_law_limits_right" sLim (ga K "_law_limits_right") d4 := F4
  obtain ⟨d5, F5⟩ := c.def_ 5 (d := mkD 61 "_law_raise")
  replace F5 : FnP K "_law_raise" sRaise (ga K "_law_raise") d5 := F5
  obtain ⟨d6, F6⟩ := c.def_ 6 (d := mkD 62 "_law_kinds")
  replace F6 : FnP K "_law_kinds" sKinds (ga K "_law_kinds") d6 := F6
  obtain ⟨d7, F7⟩ := c.def_ 7 (d := mkD 63 "_law_caught")
  replace F7 : FnP K "_law_caught" sCaught (ga K "_law_caught") d7 := F7
  obtain ⟨d8, F8⟩ := c.def_ 8 (d := mkD 64 "_law_fields")
  replace F8 : FnP K "_law_fields" sFields (ga K "_law_fields") d8 := F8
  obtain ⟨d9, F9⟩ := c.def_ 9 (d := mkD 65 "law")
  replace F9 : FnP K "law" sLaw (ga K "law") d9 := F9
  have e := hfa.symm.trans (glo_ok X G (fact c 61 (f := .glo "law")))
  cases e
  have b0 : Binds K d0 ["script"] [] := F0.bindsN fun _ _ _ _ _ _ us hl => match us, hl with | [_], _ => rfl
  have g0 : mg "_law_draws" = some (.ref (ga K "_law_draws")) := glo_ok X G (fact c 52 (f := .glo "_law_draws"))
  have b1 : Binds K d1 ["draws", "place"] [] := F1.bindsN fun _ _ _ _ _ _ us hl => match us, hl with | [_, _], _ => rfl
  have g1 : mg "_law_more" = some (.ref (ga K "_law_more")) := glo_ok X G (fact c 53 (f := .glo "_law_more"))
  have b2 : Binds K d2 ["draws", "at", "many"] [] := F2.bindsN fun _ _ _ _ _ _ us hl => match us, hl with | [_, _, _], _ => rfl
  have g2 : mg "_law_take" = some (.ref (ga K "_law_take")) := glo_ok X G (fact c 54 (f := .glo "_law_take"))
  have b3 : Binds K d3 ["rows", "draws", "at"] [] := F3.bindsN fun _ _ _ _ _ _ us hl => match us, hl with | [_, _, _], _ => rfl
  have g3 : mg "_law_one" = some (.ref (ga K "_law_one")) := glo_ok X G (fact c 55 (f := .glo "_law_one"))
  have b4 : Binds K d4 [] [] := F4.bindsN fun _ _ _ _ _ _ us hl => match us, hl with | [], _ => rfl
  have g4 : mg "_law_limits_right" = some (.ref (ga K "_law_limits_right")) := glo_ok X G (fact c 56 (f := .glo "_law_limits_right"))
  have b5 : Binds K d5 ["k", "one", "other"] [] := F5.bindsN fun _ _ _ _ _ _ us hl => match us, hl with | [_, _, _], _ => rfl
  have g5 : mg "_law_raise" = some (.ref (ga K "_law_raise")) := glo_ok X G (fact c 57 (f := .glo "_law_raise"))
  have b6 : Binds K d6 ["e"] [] := F6.bindsN fun _ _ _ _ _ _ us hl => match us, hl with | [_], _ => rfl
  have g6 : mg "_law_kinds" = some (.ref (ga K "_law_kinds")) := glo_ok X G (fact c 58 (f := .glo "_law_kinds"))
  have b7 : Binds K d7 ["k", "one", "other"] [] := F7.bindsN fun _ _ _ _ _ _ us hl => match us, hl with | [_, _, _], _ => rfl
  have g7 : mg "_law_caught" = some (.ref (ga K "_law_caught")) := glo_ok X G (fact c 59 (f := .glo "_law_caught"))
  have b8 : Binds K d8 ["k", "one", "other"] [] := F8.bindsN fun _ _ _ _ _ _ us hl => match us, hl with | [_, _, _], _ => rfl
  have g8 : mg "_law_fields" = some (.ref (ga K "_law_fields")) := glo_ok X G (fact c 60 (f := .glo "_law_fields"))
  have b9 := FunD.bindsA (ps := ["script"]) F9 fun _ _ _ _ _ _ us hl => match us, hl with | [_], _ => rfl
  have mabs : mg "abs" = none := free_ok X G (fact c 45 (f := .free "abs"))
  have mint : mg "int" = none := free_ok X G (fact c 46 (f := .free "int"))
  have mrange : mg "range" = none := free_ok X G (fact c 47 (f := .free "range"))
  have mlen : mg "len" = none := free_ok X G (fact c 48 (f := .free "len"))
  have mrepr : mg "repr" = none := free_ok X G (fact c 49 (f := .free "repr"))
  have misinstance : mg "isinstance" = none := free_ok X G (fact c 50 (f := .free "isinstance"))
  have mValueError : mg "ValueError" = none := free_ok X G (fact c 51 (f := .free "ValueError"))
  refine ⟨d9, fun s v => b9 s [v] rfl, fun base Md => ?_⟩
  have T : Txt PR w K mg base := txt X G c Md
  have o0 := ok_draws (P := PR) (w := w) (base := base) (k := 4) F0 mabs mint mrange
  have o1 := ok_more (P := PR) (w := w) (base := base) (k := 2) F1 mint mrange mlen
  have o2 := ok_take F2 o1 g1 F1.kp b1 mint mlen
  have o3 := ok_one F3 o2 g2 F2.kp b2 mlen
  have o4 := ok_lim (P := PR) (w := w) (base := base) (k := 4) F4 mrepr (limF X G c)
  have o5 := ok_raise (k := 3) F5 T
  have o6 := ok_kinds (k := 3) F6 T misinstance
  have o7 := ok_caught F7 T o5 g5 F5.kp b5 o6 g6 F6.kp b6 misinstance mValueError
  have o8 := ok_fields F8 T o5 g5 F5.kp b5
  exact ok_law F9 o0 ⟨g0, F0.kp, b0⟩ o4 ⟨g4, F4.kp, b4⟩ o3 ⟨g3, F3.kp, b3⟩ o7 ⟨g7, F7.kp, b7⟩ o8 ⟨g8, F8.kp, b8⟩ mrange mrepr
end
end K00
open PySem PySem.W PySem.Calls PyProof.Rows
theorem PySem.Challenge.cw_treewrought_k00_errors_and_limits_holds : PySem.Challenge.rw_treewrought_k00_errors_and_limits.Holds := by
  w_on; o_law
  refine HandSHeadRun.head_any (r := OpenLaw.row PySem.Challenge.rw_treewrought_k00_errors_and_limits) (q := view (OpenLaw.row PySem.Challenge.rw_treewrought_k00_errors_and_limits).prog [65]) (H := K00.hk) (ob := K00.ob) (M := 4000) (loose := K00.loose) (d := HandSHeadRun.topDef (OpenLaw.row PySem.Challenge.rw_treewrought_k00_errors_and_limits).prog 65) (kwd := []) K00.ob_eq
    (by kernel_rfl) (fun s => by kernel_rfl) K00.run (by kernel_rfl) (by kernel_rfl) (by kernel_rfl) (by rfl) (by first | assumption | decide +kernel) (by decide +kernel) ⟨rfl, rfl, rfl, rfl, rfl, by decide +kernel⟩ ?hw ?hc
  case hw => w_witness2
  case hc =>
    refine L2.walk_ofG (l := PySem.Challenge.rw_treewrought_k00_errors_and_limits) (n := 63) (k := 6) (x := "script") (CX := L2.CX0) rfl (by decide) (by kernel_rfl) ⟨rfl, by decide, by decide⟩ ?F (fun _ _ _ _ z => z)
    intro w mg fa h Y G hmg0
    obtain ⟨K, KX, c⟩ := Y
    have hmg : mg ("law" : PySem.Str) = some (.ref fa) := by
      have e : (HandSHeadRun.topDef (OpenLaw.row PySem.Challenge.rw_treewrought_k00_errors_and_limits).prog 65).name = ("law" : PySem.Str) := by kernel_rfl
      rw [← e]
      exact hmg0
    obtain ⟨fd, hb, hF⟩ := K00.facts (w := w) KX G hmg c
    exact ⟨K, fd, K00.spLaw K, KX, hb, fun H a ns hl _ hS => ⟨a, ns, rfl, hS, fun _ => rfl⟩, hF⟩
