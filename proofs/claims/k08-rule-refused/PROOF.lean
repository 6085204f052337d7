import PyProof.Rows.All
import Wide.All
import OpenK.AllK
import Wide.FinOn
import KE.KStateDown
import KE.KExcSuper
import HandS.ForMost
import HandS.ForExc
import HandS.ExcInit
import HandS.ExcSuper
import KE.GoesEnum
import KE.GoesMore
import HandS.CallSlots
import HandS.Defaults
import HandS.IsInst
import HandS.Wide
import HandS.Walk
import HandS.Flow
import KE.KCallOwn
import HandS.Property
import HandS.ExcField
import HandS.HeadHook2
import HandS.Head0
import HandS.Head1
import HandS.Head2
import HandS.HeadEnd
import HandS.FStr
import HandS.Base
import HandS.Call
import HandS.Ends
import HandS.ExcCtx
import PySem.Challenge.RW_risensigns_k08_rule_refused
set_option Elab.async false
set_option linter.all false
set_option maxRecDepth 100000
set_option maxHeartbeats 0
/-! Exceptions of the program: class X(..own.., ValueError) whose __init__ says super().__init__(text) and then stores at most one field. -/
namespace Rz
open PySem PySem.W PySem.Calls PyProof.Rows PySem.HandSPX

/-- the text of an __init__: super().__init__('..'); self.f = g -/
def exBody1 (msg f g : Str) (j : Nat) (p0 p1 p2 p3 p4 p5 q0 q1 q2 q3 : Pos) : List Stmt :=
  [.Expr (.Call (.Attribute (.Call (.Name "super" p0) [] [] p1) "__init__" p2) [.Constant (.str msg) j p3] [] p4) p5,
   .Assign [.Attribute (.Name "self" q0) f q1] (.Name g q2) q3]
def exBody0 (msg : Str) (j : Nat) (p0 p1 p2 p3 p4 p5 : Pos) : List Stmt :=
  [.Expr (.Call (.Attribute (.Call (.Name "super" p0) [] [] p1) "__init__" p2) [.Constant (.str msg) j p3] [] p4) p5]

/-- what the written part says of an exception class at C (whatever its __init__ is) -/
structure ExC (K : Frag) (C : Addr) : Prop where
  cls : ∃ nm q N bs bm sn sub ab col dd k0 k1 k2 k3 k5, K.lookup C = some (excClassObj nm q C N bs bm true sn sub ab col dd k0 k1 k2 k3 k5 "ValueError.__new__") ∧ refsVE bm = true
  sa : findIn K (.ref C) "__setattr__" = some (some (.builtin "object.__setattr__"))
  kC : keepIn K (.ref C) = true
  exC : subIn K (.ref C) (.type "BaseException") = some true
  veC : subIn K (.ref C) (.type "ValueError") = some true
  tyC : typeIn K (.ref C) = some (.type "type")
  op : nsIn K cStatics "thirdparty.any" = some none

/-- its own __init__ at fI, with the cell cc of __class__ and the code object cda -/
structure ExF (P : Program) (K : Frag) (C fI cc cda : Addr) (params : Arguments) (body : List Stmt) (scope : Scope) : Prop where
  iC : findIn K (.ref C) "__init__" = some (some (.ref fI))
  tI : typeIn K (.ref fI) = some (.type "function")
  fn : ∃ (oc : Value) (od : Option Addr) (name qual : Str) (kV doc pm ct : Value) (an : Option Addr) (osl : Array (Option Value)),
    K.lookup fI = some ⟨oc, od, .func (fnX name qual params body scope [("__class__", cc)] .none kV doc pm an (.ref cda) ct), osl⟩ ∧ codeIn K (.ref cda) qual = true
  code : ∃ (ccl : Value) (cdd : Option Addr) (vs : Array Value) (ccs : Array (Option Value)) (file : Str) (tf : Tok),
    K.lookup cda = some ⟨ccl, cdd, .fields vs, ccs⟩ ∧ vs[2]? = some (.str file tf) ∧ ((P.main.file : Str) == file) = true
  cell : ∃ (cl : Value) (cld : Option Addr) (csl : Array (Option Value)), K.lookup cc = some ⟨cl, cld, .cell (some (.ref C)), csl⟩
  sup : ks_superIn K C C "__init__" = some (some (.builtin "ValueError.__init__"))
  top : (P.main.scope.names.lookup ("super" : Str)).isSome = false

def SupOk (scope : Scope) (cc cda fI : Addr) (msg : Str) (j : Nat) (p0 p1 p2 p3 p4 p5 : Pos) : Prop := ∀ (qual : Str) (L : Addr), ∃ pl : Sem Bool,
  swapsWith (.Call (.Attribute (.Call (.Name "super" p0) [] [] p1) "__init__" p2) [.Constant (.str msg) j p3] [] p4) none p5.line (envX qual scope L fI (.ref cda) [("__class__", cc)]) = pure false ∧
  eval (.Call (.Attribute (.Call (.Name "super" p0) [] [] p1) "__init__" p2) [.Constant (.str msg) j p3] [] p4) (envX qual scope L fI (.ref cda) [("__class__", cc)]) = (do
      let ov ← attributeBase (.Call (.Name "super" p0) [] [] p1) "__init__" (envX qual scope L fI (.ref cda) [("__class__", cc)]) (eval (.Call (.Name "super" p0) [] [] p1) (envX qual scope L fI (.ref cda) [("__class__", cc)]))
      standAt p2.atName
      let (f, first) ← holding [ov] (getMethod ov "__init__" pl)
      callWith p4 f first (backTo p4 (starEach [.Constant (.str msg) j p3] (envX qual scope L fI (.ref cda) [("__class__", cc)]))) [])

theorem kept_but {K : Frag} {h h' : Heap} {x : Addr} (X : K.In h) (hx : K.lookup x = none) (k : ∀ b o, b ≠ x → h.get? b = some o → h'.get? b = some o) : K.In h' := fun a o e =>
  k a o (fun z => by rw [z, hx] at e; cases e) (X a o e)

section
variable {prog : Program} {w : World} {A : Around} {E : Value → Shared → Prop} {R : Result → Shared → Prop} {h : Heap} {g : Array GenState} {d : Drawn} {t : Nat} {os : OsState}
variable {nm q : Str} {C N : Addr} {bs bm : List Value} {hdct : Bool} {sn : List Str} {sub : List Value} {ab : Bool} {col : Option Bool} {dd : Option Addr} {k0 k1 k2 k3 k5 : Option Value}
/-- the bound ValueError.__init__ is called -/
theorem call_mw {u e t0 : Addr} {rest : List Value} {Q : Value → Shared → Prop}
    (hC : h.get? C = some (excClassObj nm q C N bs bm hdct sn sub ab col dd k0 k1 k2 k3 k5 "ValueError.__new__")) (he : h.get? e = some (excO C t0)) (hu : h.get? u = some (kxs_mw "ValueError.__init__" e)) (hrest : rest.length ≤ sizeLine)
    (hq : ∀ h' t1, (∀ b o, b ≠ e → h.get? b = some o → h'.get? b = some o) → h'.get? e = some (excO C t1) → Q .none ⟨h', g, d, t, os⟩) :
    wpAny (model prog w) A (call (.ref u) rest) Q E ⟨h, g, d, t, os⟩ := by
  refine wpAny_call (codeAny_of_tree ?_)
  show wpAny _ A.in1 (callAny (.ref u) ⟨rest, []⟩) _ _ _
  simp only [callAny]
  refine wpAny_bind (wpAny_load hu ?_)
  simp only [kxs_mw, show (Value.type "method-wrapper" == Value.type "method" || Value.type "method-wrapper" == Value.type "builtin_function_or_method" || Value.type "method-wrapper" == Value.type "method-wrapper") = true by decide, if_true]
  refine KFB.if_so (by decide) ?_
  refine wpAny_bind (check_bound_init F.excBase_ValueError.toExcCallFacts hC he rfl ?_)
  refine wpAny_bind (wpAny_pure (wpAny_pure ?_))
  refine ⟨plainId_quiet F.excBase_ValueError.init.plain _, codeAny_builtin F.excBase_ValueError.initEntry ?_⟩
  rw [Around.under_plainId F.excBase_ValueError.init.plain _]
  wp_walk
  refine hq _ h.objs.size (fun b o hb ho => ?_) ?_
  · rw [Heap.get?_update_other _ _ (Ne.symm hb)]
    exact Heap.get?_push_of_some _ ho
  · rw [Heap.get?_update_self _ (Heap.get?_push_of_some _ he) rfl]
    rfl
end

section
variable {prog : Program} {w : World} {A : Around} {E : Value → Shared → Prop} {R : Result → Shared → Prop} {s : Shared} {K : Frag} {mg : Str → Option Value} {C fI cc cda : Addr} {params : Arguments} {body : List Stmt} {scope : Scope}
/-- the statement super().__init__('..') -/
theorem sup_stmt {bodyT : List Stmt} {qual msg : Str} {j : Nat} {p0 p1 p2 p3 p4 p5 : Pos} {L x t0 : Addr} {m : Str → Option Value} {a0 : Arg} {Q : Flow → Shared → Prop} (T0 : ExC K C) (T : ExF prog K C fI cc cda params body scope)
    (X : K.In s.heap) (hg : s.heap.Ns mainGlobals mg) (hgs : mg "super" = none) (hb : ∃ mb, s.heap.Ns builtinsNs mb ∧ mb "super" = some (.type "super")) (hL : s.heap.Ns L m) (hself : m "self" = some (.ref x)) (hx : s.heap.get? x = some (excO C t0))
    (hk : scope.kind = .function) (hks : scope.names.lookup ("super" : Str) = some .globalImplicit) (hkc : scope.names.lookup ("__class__" : Str) = some .free) (hka : scope.names.lookup ("self" : Str) = some .local)
    (hp : (params.posonlyargs ++ params.args).head? = some a0) (ha0 : a0.arg = "self")
    (hev : SupOk scope cc cda fI msg j p0 p1 p2 p3 p4 p5)
    (hi : interactive (envX qual scope L fI (.ref cda) [("__class__", cc)]) = false)
    (hq : ∀ h' tk t1, (∀ b o, b ≠ x → s.heap.get? b = some o → h'.get? b = some o) → h'.get? x = some (excO C t1) → Q .next { s with heap := h', toks := tk }) :
    _root_.PySem.wpAt (model prog w) A (.func bodyT (envX qual scope L fI (.ref cda) [("__class__", cc)])) (exec (.Expr (.Call (.Attribute (.Call (.Name "super" p0) [] [] p1) "__init__" p2) [.Constant (.str msg) j p3] [] p4) p5) (envX qual scope L fI (.ref cda) [("__class__", cc)])) Q E s := by
  obtain ⟨oc, od, name, qu, kV, doc, pm, ct, an, osl, hf, hcd⟩ := T.fn
  obtain ⟨ccl, cdd, vs, ccs, file, tf, hcode, hvs, hfile⟩ := T.code
  obtain ⟨cl, cld, csl, hcell⟩ := T.cell
  obtain ⟨nm, q, N, bs, bm, sn, sub, ab, col, dd, k0, k1, k2, k3, k5, hC, hbm⟩ := T0.cls
  obtain ⟨mb, hmb, hmbs⟩ := hb
  obtain ⟨hh, g, d, t, os⟩ := s
  obtain ⟨pl, hsw, hev⟩ := hev qual L
  refine ks_wpAt_Expr_any ?_ hi hsw
  refine ks_wpAt_MethodCall (pl := pl) ?_ hev
  refine ks_wpAt_super_base (env := envX qual scope L fI (.ref cda) [("__class__", cc)]) hks hkc rfl rfl (X _ _ hf) rfl hp rfl (X _ _ hcode) rfl hvs hfile T.top ?_
  refine ks_loadName_global hk hks (loadGlobal_builtin (env := envX qual scope L fI (.ref cda) [("__class__", cc)]) hg hgs hmb hmbs ⟨rfl, ?_⟩)
  refine wpAny_loadName_free hk hkc rfl ⟨_, X _ _ hcell, rfl⟩ ?_
  rw [ha0]
  refine wpAny_loadName_local hk hka hL hself ?_
  have hC1 := X _ _ hC
  refine ks_wpAny_isType_cls hC1 rfl ⟨rfl, ?_⟩
  have hcl : clsIn K C = some { name := nm, bases := bs, mro := .ref C :: bm, ns := N, qualname := q, hasDict := true, slotNames := sn, subclasses := sub, abstract := ab, collection := col, hasDel := false } := by unfold clsIn; rw [hC] <;> rfl
  have hmro : mroIn K C (.ref C) = some true := by
    unfold mroIn
    rw [hcl]
    show (if List.isEmpty (Value.ref C :: bm) = true then none else some (List.contains (Value.ref C :: bm) (Value.ref C))) = some true
    rw [if_neg (by simp)]
    simp
  refine ks_wpAny_call_super (ox := excO C t0) hC1 rfl hx rfl (fun c e => by cases e) (looks_mroIn X hmro) (fun h' e k => ?_)
  -- the method
  have X' : K.In h' := X.keeps k
  have hx' := k _ _ hx
  have I' : InstAt h' x (excO C t0) C none := ⟨hx', rfl, rfl, trivial⟩
  have hI : Looks (model prog w) h' (isInstance (.ref x) (.type "ValueError")) true := I'.type.andThen (looks_subIn X' T0.veC)
  have hsup := T.sup
  unfold ks_superIn at hsup
  rw [hcl] at hsup
  refine kxs_getMethod kxs_ValueError e (looks_opaque X' T0.op) (l₀ := .ref C :: bm) (fun A Q E s k q => wpAny_bind ((looks_clsIn X' hcl) A _ E s k (wpAny_pure q))) rfl X' hsup hI (ks_ne X' I' hcl) (by decide) ?_
  have k2 : ∀ b o, hh.get? b = some o → (h'.push (kxs_mw "ValueError.__init__" x)).get? b = some o := fun b o z => Heap.get?_push_of_some _ (k b o z)
  have hst : starEach [.Constant (.str msg) j p3] (envX qual scope L fI (.ref cda) [("__class__", cc)]) = (false, eval (.Constant (.str msg) j p3) (envX qual scope L fI (.ref cda) [("__class__", cc)])) :: [] := rfl
  show wpAny _ _ (callWith p4 (.ref h'.objs.size) [] (backTo p4 (starEach [.Constant (.str msg) j p3] (envX qual scope L fI (.ref cda) [("__class__", cc)]))) []) _ _ _
  rw [hst]
  refine kxs_callWith (i := "ValueError.__init__") (x := x) (by rfl) ?_
  refine evalArgs_plain ?_
  show wpAny _ _ (spliced ((false, eval (.Constant (.str msg) j p3) _) :: [])) _ _ _
  refine Calls.spliced_cons (Calls.Constant_str (Calls.spliced_nil ⟨Heap.get?_push_at rfl rfl, ?_⟩))
  exact call_mw (k2 _ _ hC1) (k2 _ _ hx) (Heap.get?_push_at rfl rfl) (by show 1 ≤ sizeLine; rw [sizeLine_eq]; decide) (fun h2 t1 k3 hx2 => hq h2 _ t1 (fun b o hb z => k3 b o hb (k2 b o z)) hx2)
end

/-- what __init__ leaves of a fresh exception at x -/
structure InitEnd (h h' : Heap) (x C dx t1 : Addr) (f : Str) (v : Value) : Prop where
  keep : ∀ b o, b ≠ x → h.get? b = some o → h'.get? b = some o
  obj : h'.get? x = some { cls := .ref C, dict := some dx, data := .fields #[.ref t1, .none, .none, .none, .bool false, .none] }
  dbig : h.objs.size ≤ dx
  dne : dx ≠ x
  ns : h'.Ns1 dx (fun y => if y = f then some v else none)
structure InitEnd0 (h h' : Heap) (x C t1 : Addr) : Prop where
  keep : ∀ b o, b ≠ x → h.get? b = some o → h'.get? b = some o
  obj : h'.get? x = some { cls := .ref C, data := .fields #[.ref t1, .none, .none, .none, .bool false, .none] }
/-- the globals that an __init__ looks at -/
structure Gls (h : Heap) (mg : Str → Option Value) : Prop where
  g : h.Ns mainGlobals mg
  s : mg "super" = none
  b : ∃ mb, h.Ns builtinsNs mb ∧ mb "super" = some (.type "super")
theorem Gls.keeps {h h' : Heap} {mg : Str → Option Value} (G : Gls h mg) (k : ∀ b o, h.get? b = some o → h'.get? b = some o) : Gls h' mg := ⟨G.g.keeps k, G.s, let ⟨mb, a, b⟩ := G.b; ⟨mb, a.keeps k, b⟩⟩
/-- the scope's and parameters' facts -/
structure ScB (scope : Scope) (params : Arguments) : Prop where
  hk : scope.kind = .function
  hks : scope.names.lookup ("super" : Str) = some .globalImplicit
  hkc : scope.names.lookup ("__class__" : Str) = some .free
  hka : scope.names.lookup ("self" : Str) = some .local
  hp : ∃ a0, (params.posonlyargs ++ params.args).head? = some a0 ∧ a0.arg = "self"
  hcell : ∀ x ∈ scope.names, x.2 ≠ .cell
structure ScI (scope : Scope) (params : Arguments) (g : Str) : Prop extends ScB scope params where
  hkg : scope.names.lookup g = some .local
  hgs : ("self" : Str) ≠ g
  hgd : (g == ("__debug__" : Str)) = false
section
variable {prog : Program} {w : World} {A : Around} {E : Value → Shared → Prop} {R : Result → Shared → Prop} {s : Shared} {K : Frag} {mg : Str → Option Value} {C fI cc cda : Addr} {params : Arguments} {scope : Scope}
theorem ldX {M : Model} {env : Env} {m : Str → Option Value} {x : Str} {pos : Pos} {v : Value} {Q : Value → Shared → Prop} (hn : s.heap.Ns env.locals m) (hv : m x = some v) (h : Q v s)
    (hk : env.scope.kind = .function) (hl : env.kindOf x = some .local) (hd : (x == ("__debug__" : Str)) = false) : wpAny M A (eval (.Name x pos) env) Q E s := wpAny_Name (wpAny_loadName_local hk hl hn hv h) hd
theorem exc_init1 {msg f g : Str} {j : Nat} {p0 p1 p2 p3 p4 p5 q0 q1 q2 q3 : Pos} {x t0 : Addr} {v : Value} (T0 : ExC K C) (T : ExF prog K C fI cc cda params (exBody1 msg f g j p0 p1 p2 p3 p4 p5 q0 q1 q2 q3) scope) (S : ScI scope params g) (hev : SupOk scope cc cda fI msg j p0 p1 p2 p3 p4 p5)
    (hno : findIn K (.ref C) f = some none) (hgen : scope.isGenerator = false) (hco : scope.isCoroutine = false)
    (hbind : ∀ (name qual : Str) (body : List Stmt) (kV doc pm ct : Value) (an : Option Addr), bindArgs (fnX name qual params body scope [("__class__", cc)] .none kV doc pm an (.ref cda) ct) ⟨[.ref x, v], []⟩ = pure [(("self" : Str), Value.ref x), (g, v)])
    (X : K.In s.heap) (G : Gls s.heap mg) (hlim : s.heap.NoLimit) (hx : s.heap.get? x = some (excO C t0)) (hnx : K.lookup x = none) (hroom : A.depth < recursionLimit) 
    (hq : ∀ h' tk dx t1, InitEnd s.heap h' x C dx t1 f v → R (.ok (.ret .none)) { s with heap := h', toks := tk }) :
    codeAny (model prog w) A (.call (.ref fI) ⟨[.ref x, v], []⟩) R s := by
  obtain ⟨oc, od, name, qual, kV, doc, pm, ct, an, osl, hf, hcd⟩ := T.fn
  obtain ⟨nm, q, N, bs, bm, sn, sub, ab, col, dd, k0, k1, k2, k3, k5, hC, hbm⟩ := T0.cls
  obtain ⟨a0, hp, ha0⟩ := S.hp
  have hcl : clsIn K C = some { name := nm, bases := bs, mro := .ref C :: bm, ns := N, qualname := q, hasDict := true, slotNames := sn, subclasses := sub, abstract := ab, collection := col, hasDel := false } := by unfold clsIn; rw [hC] <;> rfl
  refine ks_codeAny_call_defAt hroom (X _ _ hf) rfl hlim (codeRec_of X hcd) rfl (.of_eq (hbind _ _ _ _ _ _ _ _)) S.hcell (fun y hy => ?_) (fun h0 hns k => ?_) hco hgen S.hk
  · simp only [List.mem_cons, List.not_mem_nil, or_false] at hy
    rcases hy with rfl | rfl
    · exact S.hka
    · exact S.hkg
  have m1 : (([("self", Value.ref x), (g, v)] : List (Str × Value)).reverse.lookup ("self" : Str)) = some (.ref x) := by
    show List.lookup ("self" : Str) [(g, v), ("self", Value.ref x)] = _
    have e : (("self" : Str) == g) = false := by simpa using S.hgs
    simp [List.lookup, e]
  have m2 : (([("self", Value.ref x), (g, v)] : List (Str × Value)).reverse.lookup g) = some v := by
    show List.lookup g [(g, v), ("self", Value.ref x)] = _
    simp [List.lookup]
  have hxL : s.heap.objs.size ≠ x := Nat.ne_of_gt (Heap.lt_size hx)
  refine ks_wpAt_execs_cons (sup_stmt T0 T (X.keeps k) (G.keeps k).g G.s (G.keeps k).b hns m1 (k _ _ hx) S.hk S.hks S.hkc S.hka hp ha0 hev (by show interactive _ = false; simp [interactive, S.hk]) (fun h1 tk t1 k1 hx1 => ?_))
  have X1 : K.In h1 := kept_but (X.keeps k) hnx k1
  have hns1 : h1.Ns s.heap.objs.size (fun y => (([("self", Value.ref x), (g, v)] : List (Str × Value)).reverse.lookup y)) := by
    obtain ⟨o, es, ep, ho, r⟩ := hns
    exact ⟨o, es, ep, k1 _ o hxL ho, r⟩
  refine _root_.PySem.wpAt_of_wpAny ?_
  refine wpAny_execs_cons (plainObj_wpAny_Assign_Attribute ?_ (by rfl))
  refine ldX (v := v) hns1 m2 (ldX (v := .ref x) hns1 m1 ?_ S.hk S.hka rfl) S.hk S.hkg S.hgd
  refine set_plain X1 (ox := excO C t1) (od := none) ⟨hx1, rfl, rfl, trivial⟩ T0.sa ?_
  refine exc_osa X1 hx1 hcl (show refsVE (.ref C :: bm) = true from hbm) rfl hno (fun h₃ tk₃ dx k₃ dn dne hx₃ hn₃ => ?_)
  refine wpAny_execs_nil (hq h₃ tk₃ dx t1 ⟨fun b o hb e => k₃ b o hb (k1 b o hb (k b o e)), hx₃, ?_, dne, hn₃⟩)
  obtain ⟨oL, _, _, hoL, _⟩ := hns1
  have z : s.heap.objs.size < h1.objs.size := Heap.lt_size hoL
  exact Nat.le_of_lt (Nat.lt_of_lt_of_le z dn)
theorem exc_init0 {msg : Str} {j : Nat} {p0 p1 p2 p3 p4 p5 : Pos} {x t0 : Addr} (T0 : ExC K C) (T : ExF prog K C fI cc cda params (exBody0 msg j p0 p1 p2 p3 p4 p5) scope) (S : ScB scope params) (hev : SupOk scope cc cda fI msg j p0 p1 p2 p3 p4 p5)
    (hgen : scope.isGenerator = false) (hco : scope.isCoroutine = false)
    (hbind : ∀ (name qual : Str) (body : List Stmt) (kV doc pm ct : Value) (an : Option Addr), bindArgs (fnX name qual params body scope [("__class__", cc)] .none kV doc pm an (.ref cda) ct) ⟨[.ref x], []⟩ = pure [(("self" : Str), Value.ref x)])
    (X : K.In s.heap) (G : Gls s.heap mg) (hlim : s.heap.NoLimit) (hx : s.heap.get? x = some (excO C t0)) (hnx : K.lookup x = none) (hroom : A.depth < recursionLimit)
    (hq : ∀ h' tk t1, InitEnd0 s.heap h' x C t1 → R (.ok (.ret .none)) { s with heap := h', toks := tk }) :
    codeAny (model prog w) A (.call (.ref fI) ⟨[.ref x], []⟩) R s := by
  obtain ⟨oc, od, name, qual, kV, doc, pm, ct, an, osl, hf, hcd⟩ := T.fn
  obtain ⟨a0, hp, ha0⟩ := S.hp
  refine ks_codeAny_call_defAt hroom (X _ _ hf) rfl hlim (codeRec_of X hcd) rfl (.of_eq (hbind _ _ _ _ _ _ _ _)) S.hcell (fun y hy => ?_) (fun h0 hns k => ?_) hco hgen S.hk
  · simp only [List.mem_cons, List.not_mem_nil, or_false] at hy
    subst hy
    exact S.hka
  have m1 : (([("self", Value.ref x)] : List (Str × Value)).reverse.lookup ("self" : Str)) = some (.ref x) := by
    show List.lookup ("self" : Str) [("self", Value.ref x)] = _
    simp [List.lookup]
  refine ks_wpAt_execs_cons (sup_stmt T0 T (X.keeps k) (G.keeps k).g G.s (G.keeps k).b hns m1 (k _ _ hx) S.hk S.hks S.hkc S.hka hp ha0 hev (by show interactive _ = false; simp [interactive, S.hk]) (fun h1 tk t1 k1 hx1 => ?_))
  refine _root_.PySem.wpAt_of_wpAny ?_
  exact wpAny_execs_nil (hq h1 _ t1 ⟨fun b o hb e => k1 b o hb (k b o e), hx1⟩)
end

/-- an exception class with one field f | with none -/
structure ExOne (P : Program) (K : Frag) (C : Addr) (f : Str) : Prop where
  c : ExC K C
  no : findIn K (.ref C) f = some none
  ex : ∃ (fI cc cda : Addr) (params : Arguments) (msg g : Str) (j : Nat) (p0 p1 p2 p3 p4 p5 q0 q1 q2 q3 : Pos) (scope : Scope), ExF P K C fI cc cda params (exBody1 msg f g j p0 p1 p2 p3 p4 p5 q0 q1 q2 q3) scope ∧ ScI scope params g ∧
    SupOk scope cc cda fI msg j p0 p1 p2 p3 p4 p5 ∧ scope.isGenerator = false ∧ scope.isCoroutine = false ∧
    ∀ (x : Addr) (v : Value) (name qual : Str) (body : List Stmt) (kV doc pm ct : Value) (an : Option Addr), bindArgs (fnX name qual params body scope [("__class__", cc)] .none kV doc pm an (.ref cda) ct) ⟨[.ref x, v], []⟩ = pure [(("self" : Str), Value.ref x), (g, v)]
structure ExZero (P : Program) (K : Frag) (C : Addr) : Prop where
  c : ExC K C
  ex : ∃ (fI cc cda : Addr) (params : Arguments) (msg : Str) (j : Nat) (p0 p1 p2 p3 p4 p5 : Pos) (scope : Scope), ExF P K C fI cc cda params (exBody0 msg j p0 p1 p2 p3 p4 p5) scope ∧ ScB scope params ∧
    SupOk scope cc cda fI msg j p0 p1 p2 p3 p4 p5 ∧ scope.isGenerator = false ∧ scope.isCoroutine = false ∧
    ∀ (x : Addr) (name qual : Str) (body : List Stmt) (kV doc pm ct : Value) (an : Option Addr), bindArgs (fnX name qual params body scope [("__class__", cc)] .none kV doc pm an (.ref cda) ct) ⟨[.ref x], []⟩ = pure [(("self" : Str), Value.ref x)]
/-- a made exception -/
structure OwnMade (h h' : Heap) (e C d : Addr) (f : Str) (v : Value) : Prop where
  keep : ∀ b o, h.get? b = some o → h'.get? b = some o
  new : h.objs.size ≤ e
  obj : ∃ oe vs, h'.get? e = some oe ∧ oe.cls = .ref C ∧ oe.dict = some d ∧ oe.data = .fields vs ∧ vs[1]? = some .none
  dbig : h.objs.size ≤ d
  dne : d ≠ e
  ns : h'.Ns1 d (fun y => if y = f then some v else none)
structure OwnMade0 (h h' : Heap) (e C : Addr) : Prop where
  keep : ∀ b o, h.get? b = some o → h'.get? b = some o
  new : h.objs.size ≤ e
  obj : ∃ oe vs, h'.get? e = some oe ∧ oe.cls = .ref C ∧ oe.dict = none ∧ oe.data = .fields vs ∧ vs[1]? = some .none
theorem one_size (v : Value) : [v].length ≤ sizeLine := by
  rw [sizeLine_eq]
  exact (by decide : 1 ≤ 16777216)
section
variable {prog : Program} {w : World} {A : Around} {E : Value → Shared → Prop} {R : Result → Shared → Prop} {s : Shared} {K : Frag} {mg : Str → Option Value} {C : Addr} {f : Str}
theorem exc_made1 (T : ExOne prog K C f) {v : Value} (X : K.In s.heap) (G : Gls s.heap mg) (hlim : s.heap.NoLimit) (hroom : A.depth + 1 < recursionLimit)
    (hq : ∀ h' tk e d, OwnMade s.heap h' e C d f v → R (.ok (.ret (.ref e))) { s with heap := h', toks := tk }) :
    codeAny (model prog w) A (.call (.ref C) ⟨[v], []⟩) R s := by
  obtain ⟨fI, cc, cda, params, msg, g, j, p0, p1, p2, p3, p4, p5, q0, q1, q2, q3, scope, TF, S, hev, hgen, hco, hbind⟩ := T.ex
  obtain ⟨nm, q, N, bs, bm, sn, sub, ab, col, dd, k0, k1, k2, k3, k5, hC, hbm⟩ := T.c.cls
  obtain ⟨hp, gg, dr, tk, os⟩ := s
  have k : ∀ b o, hp.get? b = some o → ((hp.push (kdv_tup [v])).push (excO C hp.objs.size)).get? b = some o := fun b o e => Heap.get?_push_of_some _ (Heap.get?_push_of_some _ e)
  have hget : ((hp.push (kdv_tup [v])).push (excO C hp.objs.size)).get? (hp.objs.size + 1) = some (excO C hp.objs.size) := by heap_get
  have hnx : K.lookup (hp.objs.size + 1) = none := by
    cases e : K.lookup (hp.objs.size + 1) with
    | none => rfl
    | some o =>
      have z : hp.get? (hp.objs.size + 1) = some o := X _ _ e
      exact absurd (Nat.lt_of_succ_lt (Heap.lt_size z)) (Nat.lt_irrefl _)
  refine call_own F.excBase_ValueError (fun X => refsVE_contains X bm hbm) (X _ _ hC) (looks_findIn X TF.iC) (fun self => bind_fn X self TF.tI) (one_size v) ?_
  refine exc_init1 (mg := mg) (s := ⟨(hp.push (kdv_tup [v])).push (excO C hp.objs.size), gg, dr, tk, os⟩) T.c TF S hev T.no hgen hco (fun name qual body kV doc pm ct an => hbind _ _ name qual body kV doc pm ct an) (X.keeps k) (G.keeps k) (hlim.keeps k) hget hnx ?_ fun h' tk' dx t1 ⟨k', hx, dn, dne, hns⟩ => ?_
  · show A.depth + 1 < recursionLimit
    exact hroom
  · have old : ∀ b o, hp.get? b = some o → h'.get? b = some o := fun b o e => k' b o (Nat.ne_of_lt (Nat.lt_succ_of_lt (Heap.lt_size e))) (k b o e)
    have z : hp.objs.size + 1 + 1 ≤ dx := by
      first
        | (simpa only [Heap.size_push] using dn)
        | exact dn
        | (have q := dn; rw [Heap.size_push, Heap.size_push] at q; exact q)
    exact ⟨rfl, hq h' tk' (hp.objs.size + 1) dx ⟨old, Nat.le_succ _, ⟨_, _, hx, rfl, rfl, rfl, rfl⟩, Nat.le_trans (Nat.le_trans (Nat.le_succ _) (Nat.le_succ _)) z, dne, hns⟩⟩
theorem exc_made0 (T : ExZero prog K C) (X : K.In s.heap) (G : Gls s.heap mg) (hlim : s.heap.NoLimit) (hroom : A.depth + 1 < recursionLimit)
    (hq : ∀ h' tk e, OwnMade0 s.heap h' e C → R (.ok (.ret (.ref e))) { s with heap := h', toks := tk }) :
    codeAny (model prog w) A (.call (.ref C) ⟨[], []⟩) R s := by
  obtain ⟨fI, cc, cda, params, msg, j, p0, p1, p2, p3, p4, p5, scope, TF, S, hev, hgen, hco, hbind⟩ := T.ex
  obtain ⟨nm, q, N, bs, bm, sn, sub, ab, col, dd, k0, k1, k2, k3, k5, hC, hbm⟩ := T.c.cls
  obtain ⟨hp, gg, dr, tk, os⟩ := s
  have k : ∀ b o, hp.get? b = some o → ((hp.push (kdv_tup [])).push (excO C hp.objs.size)).get? b = some o := fun b o e => Heap.get?_push_of_some _ (Heap.get?_push_of_some _ e)
  have hget : ((hp.push (kdv_tup [])).push (excO C hp.objs.size)).get? (hp.objs.size + 1) = some (excO C hp.objs.size) := by heap_get
  have hnx : K.lookup (hp.objs.size + 1) = none := by
    cases e : K.lookup (hp.objs.size + 1) with
    | none => rfl
    | some o =>
      have z : hp.get? (hp.objs.size + 1) = some o := X _ _ e
      exact absurd (Nat.lt_of_succ_lt (Heap.lt_size z)) (Nat.lt_irrefl _)
  refine call_own F.excBase_ValueError (fun X => refsVE_contains X bm hbm) (X _ _ hC) (looks_findIn X TF.iC) (fun self => bind_fn X self TF.tI) (by show 0 ≤ sizeLine; exact Nat.zero_le _) ?_
  refine exc_init0 (mg := mg) (s := ⟨(hp.push (kdv_tup [])).push (excO C hp.objs.size), gg, dr, tk, os⟩) T.c TF S hev hgen hco (fun name qual body kV doc pm ct an => hbind _ name qual body kV doc pm ct an) (X.keeps k) (G.keeps k) (hlim.keeps k) hget hnx ?_ fun h' tk' t1 ⟨k', hx⟩ => ?_
  · show A.depth + 1 < recursionLimit
    exact hroom
  · have old : ∀ b o, hp.get? b = some o → h'.get? b = some o := fun b o e => k' b o (Nat.ne_of_lt (Nat.lt_succ_of_lt (Heap.lt_size e))) (k b o e)
    exact ⟨rfl, hq h' tk' (hp.objs.size + 1) ⟨old, Nat.le_succ _, ⟨_, _, hx, rfl, rfl, rfl, rfl⟩⟩⟩
end
end Rz

namespace L2
open PySem PySem.Spec PyProof.Rows
theorem relO_one {v : V} {v' : Value} (r : RelV v v') (fl f : Str) : RelO (List.lookup f [(fl, v)]) (if f = fl then some v' else none) := by
  by_cases hw : f = fl
  · subst hw
    rw [if_pos rfl]
    have q : List.lookup f [(f, v)] = some v := by simp [List.lookup]
    rw [q]
    exact r
  · rw [if_neg hw]
    have qw : (f == fl) = false := by simpa using hw
    have q2 : List.lookup f [(fl, v)] = none := by simp [List.lookup, qw]
    rw [q2]
    trivial
section
variable {X : Cx} {C : Addr}
theorem Inv.gls {pins : List (Addr × Obj)} {σ : St} {H : Hp} {s : Shared} (I : Inv X pins σ H s) (hs : X.mg "super" = none) : Rz.Gls s.heap X.mg :=
  ⟨I.mod.glob.keeps I.bk, hs, let ⟨mb, h1, h2⟩ := I.mod.blt; ⟨mb, h1.keeps I.bk, (h2 "super" (by decide)).trans (by decide +kernel)⟩⟩
/-- C(e), an exception with one field -/
def tMkX (C : Addr) (f : Str) (ta : TA) : St → Hp → XK → Prop := fun σ H Q => ta σ H fun vs H1 => ∃ v, vs = [v] ∧ ∀ d, H1 d = none → Q (.ref C) (some d) (upd H1 d (.xd [(f, v)]))
theorem pmk_sup1 {x f : Str} {a : Expr} {ta : TA} {p pos : Pos} {k : Nat} (T : Rz.ExOne X.prog X.K C f) (hs : X.mg "super" = none) (hr : Room k X.A) (hg : Gl X x) (hm : X.mg x = some (.ref C)) (ha : PA X [a] ta)
    (hdb : (x == ("__debug__" : Str)) = false := by decide)
    (he : starEach (a :: []) X.env = (false, eval a X.env) :: starEach [] X.env := by rfl) (hpl : (backTo pos (starEach [] X.env)).any (·.1) = false := by rfl) :
    PMk X (.Call (.Name x p) [a] [] pos) (tMkX C f ta) := by
  intro pins s σ H Q I h
  refine wpAny_Call_Name_kw (ld_glob I hg hm ?_ hdb)
  refine PySem.W.callWith_K (h₀ := X.base) I.ok.mod.kin T.c.kC (thn (ha.run pos pins s σ H _ I h) fun us s1 hh => ?_) he hpl
  obtain ⟨vs, H1, I1, r1, v, ev, q1⟩ := hh
  subst ev
  refine ⟨I1.kIn, ?_⟩
  cases r1 with
  | cons rv rn =>
    rename_i v' us'
    cases rn
    show wpAny _ _ (call (.ref C) [v']) _ _ _
    have hlim := I1.nolimit
    have G := I1.gls hs
    obtain ⟨hp, g, dr, tk, os⟩ := s1
    refine wpAny_call (Rz.exc_made1 (mg := X.mg) T I1.kIn G hlim (by have := hr.dp; omega) fun h' tk' e d M => ?_)
    show MkP X pins σ Q (.ref e) ⟨h', g, dr, tk', os⟩
    obtain ⟨oe, fv, hoe, hc, hd, hdat, h1⟩ := M.obj
    have hns := M.ns
    obtain ⟨G', g1, g2⟩ := restrict h' fun b => decide (b ≠ e)
    have gk : ∀ b, b ≠ e → G'.get? b = h'.get? b := fun b hb => g1 b (decide_eq_true hb)
    have ge : G'.get? e = none := g2 e (by simp)
    have old : ∀ b o, hp.get? b = some o → G'.get? b = some o := fun b o q => (gk b (Nat.ne_of_lt (Nat.lt_of_lt_of_le (Heap.lt_size q) M.new))).trans (M.keep b o q)
    have hns' : G'.Ns1 d (fun y => if y = f then some v' else none) := by
      obtain ⟨o, es, ep, ho, r⟩ := hns
      exact ⟨o, es, ep, (gk d M.dne).trans ho, r⟩
    have J : Inv X pins σ (upd H1 d (.xd [(f, v)])) ⟨G', g, dr, tk', os⟩ := I1.laid (t' := tk') old M.dbig ⟨_, hns', relO_one rv f⟩
    refine ⟨e, oe, fv, ⟨G', g, dr, tk', os⟩, _, .ref C, some d, rfl, J, fun b o q => ?_, ge, hoe, ⟨hc, hd⟩, hdat, h1, ?_, rfl, J.bare, raises_own T.c.exC T.c.tyC, q1 d (I1.hok.fresh M.dbig)⟩
    · by_cases hb : b = e
      · have q' : G'.get? b = some o := q
        rw [hb, ge] at q'; cases q'
      · exact (gk b hb).symm.trans q
    · rw [upd_ne (Ne.symm M.dne)]
      exact I1.hok.fresh M.new
/-- C(), an exception without fields -/
def tMkX0 (C : Addr) : St → Hp → XK → Prop := fun _ H Q => Q (.ref C) none H
theorem pmk_sup0 {x : Str} {p pos : Pos} {k : Nat} (T : Rz.ExZero X.prog X.K C) (hs : X.mg "super" = none) (hr : Room k X.A) (hg : Gl X x) (hm : X.mg x = some (.ref C))
    (hdb : (x == ("__debug__" : Str)) = false := by decide) : PMk X (.Call (.Name x p) [] [] pos) (tMkX0 C) := by
  intro pins s σ H Q I h
  refine wpAny_Call_Name_kw (ld_glob I hg hm ?_ hdb)
  refine PySem.W.callWith_K0 I.kIn T.c.kC ?_
  have hlim := I.nolimit
  have G := I.gls hs
  obtain ⟨hp, g, dr, tk, os⟩ := s
  refine wpAny_call (Rz.exc_made0 (mg := X.mg) T I.kIn G hlim (by have := hr.dp; omega) fun h' tk' e M => ?_)
  show MkP X pins σ Q (.ref e) ⟨h', g, dr, tk', os⟩
  obtain ⟨oe, fv, hoe, hc, hd, hdat, h1⟩ := M.obj
  obtain ⟨G', g1, g2⟩ := restrict h' fun b => decide (b ≠ e)
  have gk : ∀ b, b ≠ e → G'.get? b = h'.get? b := fun b hb => g1 b (decide_eq_true hb)
  have ge : G'.get? e = none := g2 e (by simp)
  have old : ∀ b o, hp.get? b = some o → G'.get? b = some o := fun b o q => (gk b (Nat.ne_of_lt (Nat.lt_of_lt_of_le (Heap.lt_size q) M.new))).trans (M.keep b o q)
  have J : Inv X pins σ H ⟨G', g, dr, tk', os⟩ := I.kept (t' := tk') old
  refine ⟨e, oe, fv, ⟨G', g, dr, tk', os⟩, H, .ref C, none, rfl, J, fun b o q => ?_, ge, hoe, ⟨hc, hd⟩, hdat, h1, I.hok.fresh M.new, rfl, J.bare, raises_own T.c.exC T.c.tyC, h⟩
  by_cases hb : b = e
  · have q' : G'.get? b = some o := q
    rw [hb, ge] at q'; cases q'
  · exact (gk b hb).symm.trans q
end
end L2

/-! enumerate over a text. -/
namespace L2
open PySem PySem.Spec PyProof.Rows
/-- each sign of the text with its place, in new pairs -/
def Ites (x : Str) : It :=
  ⟨fun i _ => i < x.cps.size, fun i H v H' => ∃ T c, v = .ref T ∧ H T = none ∧ x.cps[i]? = some c ∧ H' = upd H T (.tup [.int (i : Nat), .str ⟨#[c]⟩]), fun i _ => i = x.cps.size⟩
theorem turn_enumS {P : Program} {w : World} {K : PySem.W.Frag} {elts : List Expr} {kk : Nat} {tpos : Pos} (x : Str) (t : Tok) (e it : Addr) :
    Turn P w K (.Tuple elts kk tpos) (Ites x) [e, it] e (fun i h => (∃ old, IsEnum h e it ((i : Nat) : Int) old) ∧ h.IsStrIter it (strIterType x) x t i ∧ e ≠ it) where
  mem := by simp
  obj := fun i h st b hb => by
    obtain ⟨⟨old, he⟩, ⟨o, ho, hc, hd⟩, _⟩ := st
    have e' : b = e ∨ b = it := by simpa using hb
    rcases e' with z | z
    · rw [z]; exact ⟨_, he, fun v q => nomatch q⟩
    · rw [z]; exact ⟨o, ho, fun v q => by rw [hd] at q; cases q⟩
  keep := fun i h h' st k => by
    obtain ⟨⟨old, he⟩, ⟨o, ho, r⟩, hne⟩ := st
    exact ⟨⟨old, k e (by simp) _ he⟩, ⟨o, k it (by simp) o ho, r⟩, hne⟩
  item := by
    intro X hP hw hK hc i pins s σ H E I hf st hg
    subst hP hw hK
    obtain ⟨⟨old, he⟩, hit, hne⟩ := st
    have hel : e < s.heap.objs.size := Heap.lt_size he
    have hil : it < s.heap.objs.size := by obtain ⟨_, q, _⟩ := hit; exact Heap.lt_size q
    have hh : X.A.in1.handled = none := I.ok.hd hc
    refine wpAny_pyNext_enum_itemD (Draws.text hh it x t) he hit hg hne (by simpa using hne) fun v h' tk hv ho hit' hT hsz hk => ?_
    obtain ⟨c, u, hcx, rfl⟩ := hv
    refine ⟨_, rfl, wpAny_letOwnedTupleGo_enum (s := { s with heap := h', toks := tk + 1 }) ho fun h'' he' sb => ?_⟩
    have hT2 : h''.get? s.heap.objs.size = some { cls := .type "tuple", data := .seq #[.int i tk, .str ⟨#[c]⟩ u] } := (sb.2 _ (Nat.ne_of_gt hel)).trans hT
    have new : ObjOk X.prog X.w (upd H s.heap.objs.size (.tup [.int (i : Nat), .str ⟨#[c]⟩])) h'' s.heap.objs.size (.tup [.int (i : Nat), .str ⟨#[c]⟩]) :=
      ⟨by show 2 ≤ sizeLine; decide, [.int i tk, .str ⟨#[c]⟩ u], .cons ⟨_, rfl⟩ (.cons ⟨_, rfl⟩ .nil), ⟨_, hT2, rfl, _, rfl⟩⟩
    have I1 : Inv X pins σ (upd H s.heap.objs.size (.tup [.int (i : Nat), .str ⟨#[c]⟩])) { s with heap := h'', toks := tk + 1 } :=
      I.turnedNew (ch := [e, it]) (fun b ob hb q => (sb.2 b (fun z => hb (by simp [z]))).trans (hk b ob (fun z => hb (by simp [z])) (fun z => hb (by simp [z])) q)) hf (Nat.le_refl _) new
    obtain ⟨oi, hoi, ri⟩ := hit'
    refine ⟨.ref s.heap.objs.size, _, I1, rfl, ⟨_, c, rfl, I.hok.fresh (Nat.le_refl _), hcx, rfl⟩, ⟨⟨.str ⟨#[c]⟩ u, ?_⟩, ⟨oi, (sb.2 it (Ne.symm hne)).trans hoi, ri⟩, hne⟩, fun b hb => ?_⟩
    · have e1 : ((i + 1 : Nat) : Int) = (i : Int) + 1 := by omega
      rw [e1]; exact he'
    · have hb' : b < s.heap.objs.size := by
        have e' : b = e ∨ b = it := by simpa using hb
        rcases e' with z | z
        · rw [z]; exact hel
        · rw [z]; exact hil
      rw [upd_ne (Nat.ne_of_lt hb')]
      exact (hf b hb).1
  done := by
    intro X hP hw hK hc i pins s σ H E I hf st hg
    subst hP hw hK
    obtain ⟨⟨old, he⟩, hit, hne⟩ := st
    have hg' : i = x.cps.size := hg
    subst hg'
    obtain ⟨f0, f1, f2, f3, f4, f5⟩ := hf it (by simp)
    have hh : X.A.in1.handled = none := I.ok.hd hc
    exact wpAny_pyNext_enum_endD (Draws.text hh it x t) he hit fun h' eb => ⟨rfl, I.turned (t' := s.toks) (fun b o hb q => eb b o hb q) f0 f1 f3 f4 f5⟩
  self := fun A i s Q E st h => let ⟨⟨_, he⟩, _⟩ := st; wpAny_pyIter_enum he h
def iEnumS (ta : TA) : TI := fun σ H R => ta σ H fun vs H1 => ∃ x, vs = [.str x] ∧ R (Ites x) H1
theorem pi_enumS {X : Cx} {e : Expr} {ta : TA} {p pos tpos : Pos} {elts : List Expr} {kk : Nat} (hg : Gl X "enumerate") (hm : X.mg "enumerate" = none) (ha : PA X [e] ta) (hs : starEach [e] X.env = [(false, eval e X.env)] := by rfl) :
    PI X (.Tuple elts kk tpos) (.Call (.Name "enumerate" p) [e] [] pos) (iEnumS ta) := by
  refine ⟨fun pins s σ H R I h => ?_⟩
  refine Call_ (ld_blt I hg hm boot_enumerate (PyProof.Rows.callWith_type1 (thn (ha.run pos pins s σ H _ I h) fun us s1 ⟨vs, H1, I1, r1, q1⟩ => ?_) hs rfl))
  obtain ⟨x, ex, q⟩ := q1
  subst ex
  cases r1 with
  | cons r rr =>
    cases rr
    obtain ⟨t, rfl⟩ := r
    refine call_enumerate_str fun h' he hit hsz hk => wpAny_pyIter_enum he ?_
    have I2 : Inv X pins σ H1 { s1 with heap := h' } := I1.kept (t' := s1.toks) hk
    refine ⟨s1.heap.objs.size + 1, [s1.heap.objs.size + 1, s1.heap.objs.size], _, _, H1, rfl, I2, turn_enumS x t (s1.heap.objs.size + 1) s1.heap.objs.size, ⟨⟨.none, he⟩, hit, Nat.succ_ne_self _⟩, fun b hb => ?_, q⟩
    have e' : b = s1.heap.objs.size + 1 ∨ b = s1.heap.objs.size := by simpa using hb
    have hle : s1.heap.objs.size ≤ b := by
      rcases e' with z | z
      · rw [z]; exact Nat.le_add_right _ _
      · rw [z]; exact Nat.le_refl _
    exact I1.fpOk hle (I1.hok.fresh hle)
end L2

/-! A try whose clauses may each have a name or none. An exception that has come to the frame is a package (Got); each way of a clause is a lemma over it. -/
namespace L2
open PySem PySem.Spec PyProof.Rows
abbrev TSu := Addr → Value → Option Addr → TS
/-- behind a clause with a name: its slot is empty again -/
def Ends.drop (D : Ends) (i : Nat) : Ends := { nx := fun σ H => D.nx (σ.set i none) H, rt := D.rt, bk := fun σ H => D.bk (σ.set i none) H, ct := fun σ H => D.ct (σ.set i none) H }
/-- one clause: the class it names, its slot, its suite -/
structure Clause where
  c : Value
  slot : Option Nat
  ts : TSu
def Clause.does (q : Clause) (cls : Value) (d : Option Addr) (D : Ends) (σ : St) (H : Hp) (a : Addr) : Prop :=
  match q.slot with
  | none => q.ts a cls d D σ H
  | some i => q.ts a cls d (D.drop i) (σ.set i (some (.ref a))) H
/-- what is wanted of an exception at these clauses -/
def wMix (K : PySem.W.Frag) (Wout : WX) (D : Ends) : List Clause → WX
  | [] => Wout
  | q :: r => fun cls d σ H => ∃ b, PySem.W.exmOne K cls q.c = some b ∧ (b = true → ∀ a, H a = none → q.does cls d D σ H a) ∧ (b = false → wMix K Wout D r cls d σ H)
/-- the suite of a clause keeps its reading, whatever exception is at hand -/
def SuiteOk (X : Cx) (suite : List Stmt) (ts : TSu) : Prop :=
  ∀ (a : Addr) (oe : Obj) (cls : Value) (d : Option Addr) (pn : List (Addr × Obj)), Zc cls d oe → (∃ vs, oe.data = .fields vs) → PSs (X.suite a ((a, oe) :: pn)) suite (ts a cls d)
inductive HdsMix (X : Cx) : List ExceptHandler → List Clause → Prop
  | nil : HdsMix X [] []
  | cons {x : Str} {c : Value} {ts : TSu} {b₀ : Stmt} {suite : List Stmt} {np p' : Pos} {hds : List ExceptHandler} {l : List Clause} (hc : Names X x c) (hsu : SuiteOk X (b₀ :: suite) ts) (r : HdsMix X hds l) :
      HdsMix X (.ExceptHandler (some (.Name x np)) none (b₀ :: suite) p' :: hds) (⟨c, none, ts⟩ :: l)
  | consA {x n : Str} {c : Value} {i : Nat} {ts : TSu} {b₀ : Stmt} {suite : List Stmt} {np p' : Pos} {hds : List ExceptHandler} {l : List Clause} (hi : X.N[i]? = some n) (hln : X.env.kindOf n = some .local) (hc : Names X x c) (hsu : SuiteOk X (b₀ :: suite) ts) (r : HdsMix X hds l) :
      HdsMix X (.ExceptHandler (some (.Name x np)) (some n) (b₀ :: suite) p' :: hds) (⟨c, some i, ts⟩ :: l)

/-- an exception at a has come to this frame, noted and with no flight: B the ground, sI the state without it -/
structure Got (X : Cx) (pins : List (Addr × Obj)) (σ : St) (H : Hp) (B : Heap) (sI s : Shared) (a : Addr) (cls : Value) (d : Option Addr) : Prop where
  inv : Inv X pins σ H sI
  nb : ∀ b o, sI.heap.get? b = some o → b ∉ frs X.stack → B.get? b = some o
  fl : HandSPX.FlyingZ B (X.env :: X.outer) a (Zc cls d) s.heap
  up : sI.heap.UpToSlots s.heap
  na : H a = none
  os : s.os = sI.os
  ag : AllBare s.gens
section
variable {X : Cx} {pins : List (Addr × Obj)} {σ : St} {H : Hp} {B : Heap} {sI s : Shared} {a : Addr} {cls : Value} {d : Option Addr}
theorem Got.here (g : Got X pins σ H B sI s a cls d) : Inv X pins σ H s := by
  obtain ⟨hh, gg, dd, tt, oo⟩ := s
  exact g.inv.landed g.nb g.fl.1 g.up g.os g.ag
/-- it is no frame of those that run -/
theorem Got.apart (g : Got X pins σ H B sI s a cls d) (hf : X.env.frame = some X.env.locals) : a ≠ X.env.locals ∧ a ∉ X.fs := by
  obtain ⟨oe, vs, he, _, hd⟩ := g.fl.there
  have no : a ∉ frs (X.env :: X.outer) := by
    intro hm
    obtain ⟨_, o', e', hnf⟩ := g.fl.2.2.1.mem hm
    rw [he] at e'
    cases e'
    exact hnf _ hd
  have eq : frs (X.env :: X.outer) = X.env.locals :: X.fs := by
    show List.filterMap _ _ = _
    rw [List.filterMap_cons, hf]
    rfl
  rw [eq] at no
  exact ⟨fun z => no (z ▸ List.mem_cons_self), fun z => no (List.mem_cons_of_mem _ z)⟩
/-- the state of a suite -/
theorem Got.suite (g : Got X pins σ H B sI s a cls d) (hf : X.env.frame = some X.env.locals) :
    ∃ oe, Zc cls d oe ∧ (∃ vs, oe.data = .fields vs) ∧ s.heap.get? a = some oe ∧ Inv (X.suite a ((a, oe) :: (X.pn ++ pins))) [] σ H s := by
  obtain ⟨oe, vs, he, hz, hd⟩ := g.fl.there
  exact ⟨oe, hz, ⟨vs, hd⟩, he, g.here.suite he hd g.na (g.apart hf).1 (g.apart hf).2⟩
/-- no clause took it -/
theorem Got.passes (g : Got X pins σ H B sI s a cls d) (hs : X.stack = X.env :: X.outer) (hf : X.env.frame = some X.env.locals) {W : WX} (tk : Takes X W) (hw : W cls d σ H) {Q : Flow → Shared → Prop} :
    wpAny (model X.prog X.w) X.A (handleBy (.ref a) X.env []) Q X.xe s := by
  refine wpAny_handleBy_nil ?_
  have on : wpAny (model X.prog X.w) X.A (setFlight (.ref a) X.env.frame) (fun _ s4 => wpAny (model X.prog X.w) X.A (throw (.ref a) : Sem Flow) Q X.xe s4) X.xe s := by
    rw [hf]
    refine HandSPX.setFlight_upZ g.fl fun h4 held up4 => wpAny_throw (tk _ _ ?_)
    refine ⟨a, B, sI, pins, σ, H, cls, d, rfl, g.inv, g.nb, g.up.trans up4, .inr (.inr ?_), g.na, g.os, g.ag, hw⟩
    rw [hs]
    exact held
  obtain ⟨_, _, _, oe, vs, T, _, _, he, _, hd, h1, _⟩ := g.fl
  unfold PySem.passOn
  refine wpAny_bind (wpAny_field he hd h1 ?_)
  rw [if_neg (by simp)]
  first
    | exact wpAny_bind (wpAny_pure (wpAny_bind on))
    | exact wpAny_bind on
/-- the clause's class is looked up and held against the exception's -/
theorem Got.asked (g : Got X pins σ H B sI s a cls d) (hf : X.env.frame = some X.env.locals) {x : Str} {c : Value} {np : Pos} {b : Bool} (hc : Names X x c) (hb : PySem.W.exmOne X.K cls c = some b) {Q : Bool → Shared → Prop} {E : Value → Shared → Prop} (hq : Q b s) :
    wpAny (model X.prog X.w) (X.A.mark (some (.ref a))) (eval (.Name x np) X.env) (fun v s1 => wpAny (model X.prog X.w) (X.A.mark (some (.ref a))) (excMatches (.ref a) v) Q E s1) E s := by
  obtain ⟨oe, hz, _, he, S⟩ := g.suite hf
  have L := PySem.W.exm_one (M := model X.prog X.w) g.here.kIn (fun A Q E s k q => wpAny_typeOf_ref (k _ _ he) (by rw [hz.1]; exact q)) hb
  obtain ⟨h1, h2, h3⟩ := hc
  rcases h3 with h3 | ⟨h3, h4, h5⟩
  · exact ld_glob (X := X.suite a ((a, oe) :: (X.pn ++ pins))) S h1 h3 (L.here hq) h2
  · exact ld_blt (X := X.suite a ((a, oe) :: (X.pn ++ pins))) S h1 h3 h4 (L.here hq) h5 h2
theorem Got.again (g : Got X pins σ H B sI s a cls d) {Q : Unit → Shared → Prop} {M : Model} {A : Around} {E : Value → Shared → Prop} (k : ∀ h', Got X pins σ H B sI { s with heap := h' } a cls d → Q () { s with heap := h' }) : wpAny M A (setFlight (.ref a) none) Q E s :=
  HandSPX.lands_againZ g.fl fun h4 fl4 up4 => k h4 ⟨g.inv, g.nb, fl4, g.up.trans up4, g.na, g.os, g.ag⟩
theorem SP.unsuite {pn : List (Addr × Obj)} {q : Addr × Obj} {D : Ends} {f : Flow} {s' : Shared} (ok : X.Ok) (h : SP (X.suite a (q :: (X.pn ++ pins))) pn D f s') : SP X pins D f s' := by
  cases f with
  | next => exact let ⟨σ', H', I, z⟩ := h; ⟨σ', H', I.unsuite ok, z⟩
  | brk => exact let ⟨σ', H', I, z⟩ := h; ⟨σ', H', I.unsuite ok, z⟩
  | cont => exact let ⟨σ', H', I, z⟩ := h; ⟨σ', H', I.unsuite ok, z⟩
  | ret u => exact let ⟨v, σ', H', I, r, z⟩ := h; ⟨v, σ', H', I.unsuite ok, r, z⟩
theorem SP.ofTry {pn : List (Addr × Obj)} {xe : Value → Shared → Prop} {D : Ends} {f : Flow} {s' : Shared} (ok : X.Ok) (h : SP (X.tr (X.pn ++ pins) xe) pn D f s') : SP X pins D f s' := by
  cases f with
  | next => exact let ⟨σ', H', I, z⟩ := h; ⟨σ', H', I.ofTry ok, z⟩
  | brk => exact let ⟨σ', H', I, z⟩ := h; ⟨σ', H', I.ofTry ok, z⟩
  | cont => exact let ⟨σ', H', I, z⟩ := h; ⟨σ', H', I.ofTry ok, z⟩
  | ret u => exact let ⟨v, σ', H', I, r, z⟩ := h; ⟨v, σ', H', I.ofTry ok, r, z⟩
/-- behind a suite with a name the name goes -/
theorem SP.unname {D : Ends} {i : Nat} {n : Str} {p' : Pos} {f : Flow} {s' : Shared} (hN : X.N.Nodup) (hi : X.N[i]? = some n) (hln : X.env.kindOf n = some .local) (h : SP X pins (D.drop i) f s') :
    wpAny (model X.prog X.w) X.A (do bindName X.env n .none; unbindBehindTheSuite X.env n p') (fun _ s7 => SP X pins D f s7) X.xe s' := by
  cases f with
  | next => exact let ⟨_, _, I, z⟩ := h; gone_ok I hN hi hln fun _ J => ⟨_, _, J, z⟩
  | brk => exact let ⟨_, _, I, z⟩ := h; gone_ok I hN hi hln fun _ J => ⟨_, _, J, z⟩
  | cont => exact let ⟨_, _, I, z⟩ := h; gone_ok I hN hi hln fun _ J => ⟨_, _, J, z⟩
  | ret u => exact let ⟨_, _, _, I, r, z⟩ := h; gone_ok I hN hi hln fun _ J => ⟨_, _, _, J, r, z⟩
/-- all clauses -/
theorem Got.clauses (hs : X.stack = X.env :: X.outer) (hf : X.env.frame = some X.env.locals) (hN : X.N.Nodup) {W : WX} (tk : Takes X W) {D : Ends} {hds : List ExceptHandler} {l : List Clause} (hk : HdsMix X hds l) :
    ∀ {s : Shared}, Got X pins σ H B sI s a cls d → wMix X.K W D l cls d σ H → wpAny (model X.prog X.w) X.A (handleBy (.ref a) X.env hds) (SP X pins D) X.xe s := by
  induction hk with
  | nil => exact fun g w => g.passes hs hf tk w
  | cons hc hsu _ ih =>
    intro s g w
    obtain ⟨b, hb, yes, no⟩ := w
    refine wpAny_handleBy_cons (codeAny_handlers_test (g.asked hf hc hb ?_)) (by intro q; cases q)
    cases b
    · exact ih g (no rfl)
    · refine codeAny_handlers_suite (g.again fun h4 g4 => ?_)
      obtain ⟨oe, hz, hd, he, S⟩ := g4.suite hf
      exact wpAny_mono ((hsu a oe cls d _ hz hd).run [] _ σ H D S (yes rfl a g.na)) (fun _ _ z => z.unsuite g.inv.ok) fun _ _ z => z.elim
  | consA hi hln hc hsu _ ih =>
    intro s g w
    obtain ⟨b, hb, yes, no⟩ := w
    refine wpAny_handleBy_cons (codeAny_handlers_test (g.asked hf hc hb ?_)) (by intro q; cases q)
    cases b
    · exact ih g (no rfl)
    · refine codeAny_handlers_suite_as (g.again fun h4 g4 => ?_)
      obtain ⟨oe, hz, hd, he, S⟩ := g4.suite hf
      refine store_ok (X := X.suite a ((a, oe) :: (X.pn ++ pins))) (v := .ref a) S hN hi (.inl hln) rfl (fun s5 S5 => ?_) (.inr hln)
      exact wpAny_mono ((hsu a oe cls d _ hz hd).run [] s5 _ H _ S5 (yes rfl a g.na)) (fun _ _ z => (z.unsuite g.inv.ok).unname hN hi hln) fun _ _ z => z.elim
/-- THE RULE -/
theorem ps_try_mix {body : List Stmt} {h₀ : ExceptHandler} {hds : List ExceptHandler} {l : List Clause} {pos : Pos} {tb : WX → TS} {Wout : WX} (hs : X.stack = X.env :: X.outer) (hf : X.env.frame = some X.env.locals) (hN : X.N.Nodup) (tk : Takes X Wout)
    (hb : ∀ (W : WX) (pn : List (Addr × Obj)) (xe : Value → Shared → Prop), Takes (X.tr pn xe) W → PassesOwn (model X.prog X.w) X.A X.env xe → PSs (X.tr pn xe) body (tb W)) (hh : HdsMix X (h₀ :: hds) l) :
    PS X (.Try body (h₀ :: hds) [] [] pos) (fun D σ H => tb (wMix X.K Wout D l) D σ H) := by
  constructor
  intro pins s σ H D I h
  refine wpAny_Try_except (wpAny_mono ((hb (wMix X.K Wout D l) (X.pn ++ pins) _ ?_ PassesOwn.looking).run [] s σ H D (I.toTry _) h) (fun f s1 z => ?_) fun _ _ z => z)
  · rintro u s' ⟨a, B, sI, pins', σ', H', cls, d, rfl, J', nb, up, sky, na, os, ag, w⟩
    have J : Inv X pins σ' H' sI := J'.ofTry I.ok
    have sky' : Sky B (X.env :: X.outer) a (Zc cls d) X.env.locals s'.heap := by
      rw [← hs]
      exact sky
    show wpAny (model X.prog X.w) X.A (noteFrame (.ref a) X.env) _ _ _
    refine Sky.land Zc.steady (by rw [I.ok.frames, hs]) hf sky' fun h3 fl3 up3 => ?_
    exact Got.clauses hs hf hN tk hh ⟨J, nb, fl3, up.trans up3, na, os, ag⟩ w
  · have z' := z.ofTry I.ok
    cases f with
    | next => exact wpAny_execs_nil z'
    | brk => exact z'
    | cont => exact z'
    | ret u => exact z'
end
end L2

/-! Calls of defs, methods and classes of the program; what they raise is wished for at the caller's slots. -/
namespace L2
open PySem PySem.Spec PyProof.Rows
section
variable {X : Cx} {CX : CXT} {k : Nat} {f C : Addr} {fd : FuncData} {ps : List Str} {sp : Sp} {dvs : List V} {ds : List Value} {E : St → XK} {x m : Str} {p pos apos : Pos} {e o : Expr} {es : List Expr} {ta : TE} {t : TA}
theorem pe_call0S (F : FnOk X.prog X.w X.K X.mg X.base CX k f fd ps sp) (hr : Room k X.A) (hg : Gl X x) (hm : X.mg x = some (.ref f)) (hk : PySem.W.keepIn X.K (.ref f) = true) (hb : Binds X.K fd ps ds) (hd : Vals dvs ds) (hx : ∀ σ, PassesAt CX X σ (E σ))
    (hdb : (x == ("__debug__" : Str)) = false := by decide) : PE X (.Call (.Name x p) [] [] pos) (tCallSD sp dvs E tNil) :=
  ⟨fun _ _ σ _ _ I h => wpAny_Call_Name_kw (ld_glob I hg hm (PySem.W.callWith_K0 I.kIn hk (run_fnSD (us := []) F hr hb hd (hx σ) I .nil h)) hdb)⟩
/-- o.m(..) -/
def tMethS (C : Addr) (m : Str) (sp : Sp) (dvs : List V) (E : St → XK) (ta : TE) (t : TA) : TE := fun σ H Q => ta σ H fun y H1 => ∃ a dx fs, y = .ref a ∧ H1 a = some (.ins C dx fs) ∧ fs.lookup m = none ∧
  t σ H1 fun vs H2 => sp (y :: (vs ++ dvs)) H2 Q (E σ)
/-- C(..) -/
def tMakeS (C : Addr) (sp : Sp) (dvs : List V) (E : St → XK) (t : TA) : TE := fun σ H Q => t σ H fun vs H1 => ∀ y dx, H1 y = none → H1 dx = none → dx ≠ y →
  sp (.ref y :: (vs ++ dvs)) (upd (upd H1 dx (.own y)) y (.ins C dx [])) (fun v H2 => v = .non ∧ Q (.ref y) H2) (E σ)
theorem pe_methS {pl : Sem Bool} (he : PE X o ta) (c : Cls X.K C) (hm : Meth X.K C m f) (F : FnOk X.prog X.w X.K X.mg X.base CX k f fd ps sp) (hr : Room k X.A) (hb : Binds X.K fd ps ds) (hd : Vals dvs ds) (hx : ∀ σ, PassesAt CX X σ (E σ)) (ha : PA X (e :: es) t)
    (hst : starEach (e :: es) X.env = (false, eval e X.env) :: starEach es X.env := by rfl) (hpl : (backTo pos (starEach es X.env)).any (·.1) = false := by rfl)
    (ht : eval (.Call (.Attribute o m apos) (e :: es) [] pos) X.env = (eval o X.env >>= fun ov => standAt apos.atName >>= fun _ => holding [ov] (getMethod ov m pl) >>= fun ff => callWith pos ff.1 ff.2 (backTo pos (starEach (e :: es) X.env)) (backToKw pos (keywordEach [] X.env))) := by rfl) :
    PE X (.Call (.Attribute o m apos) (e :: es) [] pos) (tMethS C m sp dvs E ta t) := by
  constructor
  intro pins s σ H Q I h
  refine PySem.W.methodCall_KW (pl := pl) (thn (he.run pins s σ H _ I h) ?_) ht
  rintro u s1 ⟨y, H1, I1, ry, a, dx, fs, rfl, ea, l, q⟩
  cases ry
  refine getmeth_ok I1 ea c hm l (PySem.W.callWith_K (first := [.ref a]) (h₀ := X.base) I.ok.mod.kin hm.kp (thn (ha.run pos pins s1 σ H1 _ I1 q) ?_) hst hpl)
  rintro us s2 ⟨vs, H2, I2, r, q2⟩
  exact ⟨I2.kIn, run_fnSD (us := .ref a :: us) (vs := .ref a :: vs) F hr hb hd (hx σ) I2 (.cons rfl r) q2⟩
theorem pe_meth0S {pl : Sem Bool} (he : PE X o ta) (c : Cls X.K C) (hm : Meth X.K C m f) (F : FnOk X.prog X.w X.K X.mg X.base CX k f fd ps sp) (hr : Room k X.A) (hb : Binds X.K fd ps ds) (hd : Vals dvs ds) (hx : ∀ σ, PassesAt CX X σ (E σ))
    (ht : eval (.Call (.Attribute o m apos) [] [] pos) X.env = (eval o X.env >>= fun ov => standAt apos.atName >>= fun _ => holding [ov] (getMethod ov m pl) >>= fun ff => callWith pos ff.1 ff.2 (backTo pos (starEach [] X.env)) (backToKw pos (keywordEach [] X.env))) := by rfl) :
    PE X (.Call (.Attribute o m apos) [] [] pos) (tMethS C m sp dvs E ta tNil) := by
  constructor
  intro pins s σ H Q I h
  refine PySem.W.methodCall_KW (pl := pl) (thn (he.run pins s σ H _ I h) ?_) ht
  rintro u s1 ⟨y, H1, I1, ry, a, dx, fs, rfl, ea, l, q⟩
  cases ry
  exact getmeth_ok I1 ea c hm l (PySem.W.callWith_K0 (first := [.ref a]) I1.kIn hm.kp (run_fnSD (us := [.ref a]) (vs := [.ref a]) F hr hb hd (hx σ) I1 (.cons rfl .nil) q))
theorem run_makeS {pins : List (Addr × Obj)} {σ : St} {H : Hp} {s : Shared} {Q : VK} {us : List Value} {vs : List V} (M : Mk X.K C f) (F : FnOk X.prog X.w X.K X.mg X.base CX k f fd ps sp) (hr : Room (k + 1) X.A) (hb : Binds X.K fd ps ds) (hd : Vals dvs ds)
    (hx : PassesAt CX X σ (E σ)) (I : Inv X pins σ H s) (r : Vals vs us)
    (h : ∀ y dx, H y = none → H dx = none → dx ≠ y → sp (.ref y :: (vs ++ dvs)) (upd (upd H dx (.own y)) y (.ins C dx [])) (fun v H2 => v = .non ∧ Q (.ref y) H2) (E σ)) :
    wpAny (model X.prog X.w) X.A (call (.ref C) us) (EP X pins σ Q) X.xe s := by
  have I2 := Inv.made (C := C) I
  have q := h (s.heap.objs.size + 1) s.heap.objs.size (I.hok.fresh (Nat.le_succ _)) (I.hok.fresh (Nat.le_refl _)) (Nat.ne_of_lt (Nat.lt_succ_self _))
  have rr : Vals (V.ref (s.heap.objs.size + 1) :: (vs ++ dvs)) (Value.ref (s.heap.objs.size + 1) :: us ++ ds) := .cons rfl (r.append hd)
  have hl : (Value.ref (s.heap.objs.size + 1) :: us ++ ds).length = ps.length := rr.length.symm.trans (F.len _ _ _ _ q)
  have run := F.run _ X.stack _ _ ⟨Value.ref (s.heap.objs.size + 1) :: us, []⟩ _ _ _ (E σ) (hr.make C us []) (I2.env0.make C us []) (hb _ (Value.ref (s.heap.objs.size + 1) :: us) I2.kIn hl) rr q
  refine wpAny_call (make_map (f := f) I.kIn M.makes M.init (beq_iff_eq.mp M.fn) (codeAny_mono run ?_))
  intro res s' hq
  match res, hq with
  | .error e, hq => exact hx pins _ _ e s' I2 hq
  | .ok (.ret u), hq =>
    obtain ⟨v, H', I3, rv, ev, q3⟩ := I2.after hq
    subst ev
    exact ⟨rv, V.ref (s.heap.objs.size + 1), H', I3, rfl, q3⟩
  | .ok .next, hq => exact hq.elim
  | .ok .brk, hq => exact hq.elim
  | .ok .cont, hq => exact hq.elim
theorem pe_makeS (M : Mk X.K C f) (F : FnOk X.prog X.w X.K X.mg X.base CX k f fd ps sp) (hr : Room (k + 1) X.A) (hg : Gl X x) (hm : X.mg x = some (.ref C)) (hb : Binds X.K fd ps ds) (hd : Vals dvs ds) (hx : ∀ σ, PassesAt CX X σ (E σ))
    (ha : PA X (e :: es) t) (hdb : (x == ("__debug__" : Str)) = false := by decide) (he : starEach (e :: es) X.env = (false, eval e X.env) :: starEach es X.env := by rfl) (hpl : (backTo pos (starEach es X.env)).any (·.1) = false := by rfl) :
    PE X (.Call (.Name x p) (e :: es) [] pos) (tMakeS C sp dvs E t) := by
  constructor
  intro pins s σ H Q I h
  refine wpAny_Call_Name_kw (ld_glob I hg hm (PySem.W.callWith_K (h₀ := X.base) I.ok.mod.kin M.kp (thn (ha.run pos pins s σ H _ I h) ?_) he hpl) hdb)
  rintro us s1 ⟨vs, H1, I1, r, q⟩
  exact ⟨I1.kIn, run_makeS M F hr hb hd (hx σ) I1 r q⟩
theorem pe_make0S (M : Mk X.K C f) (F : FnOk X.prog X.w X.K X.mg X.base CX k f fd ps sp) (hr : Room (k + 1) X.A) (hg : Gl X x) (hm : X.mg x = some (.ref C)) (hb : Binds X.K fd ps ds) (hd : Vals dvs ds) (hx : ∀ σ, PassesAt CX X σ (E σ))
    (hdb : (x == ("__debug__" : Str)) = false := by decide) : PE X (.Call (.Name x p) [] [] pos) (tMakeS C sp dvs E tNil) :=
  ⟨fun _ _ σ _ _ I h => wpAny_Call_Name_kw (ld_glob I hg hm (PySem.W.callWith_K0 I.kIn M.kp (run_makeS (us := []) M F hr hb hd (hx σ) I .nil h)) hdb)⟩
end
end L2

/-! Operators and built-ins by values, whatever the kinds of the operands; how a reading goes on is a lemma each. -/
namespace L2
open PySem PySem.Spec PyProof.Rows
abbrev Frg := PySem.W.Frag
/-! ### + -/
def rAddS : R2 := fun x y H Q => ∃ i j, x = .str i ∧ y = .str j ∧ i.length + j.length ≤ sizeLine ∧ Q (.str (i ++ j)) H
def rAddA : R2 := fun x y H Q => rI0 (fun i j => .int (i + j)) x y H Q ∨ rAddS x y H Q ∨ rCat x y H Q
theorem op_addA {X : Cx} : OpR X (binaryOp .Add) rAddA := op_add.or (OpR.or op_add_str op_cat)
theorem addA_int {i j : Int} {H : Hp} {Q : VK} (h : Q (.int (i + j)) H) : rAddA (.int i) (.int j) H Q := .inl ⟨_, _, rfl, rfl, h⟩
theorem addA_str {i j : Str} {H : Hp} {Q : VK} (hz : i.length + j.length ≤ sizeLine) (h : Q (.str (i ++ j)) H) : rAddA (.str i) (.str j) H Q := .inr (.inl ⟨_, _, rfl, rfl, hz, h⟩)
theorem addA_lst {a b : Addr} {xs ys : List V} {H : Hp} {Q : VK} (ha : H a = some (.lst xs)) (hb : H b = some (.lst ys)) (hz : xs.length + ys.length ≤ sizeLine) (h : ∀ p, H p = none → Q (.ref p) (upd H p (.lst (xs ++ ys)))) :
    rAddA (.ref a) (.ref b) H Q := .inr (.inr ⟨_, _, _, _, rfl, rfl, ha, hb, hz, h⟩)
/-! ### - // % ** -/
abbrev rSubA : R2 := rI0 fun i j => .int (i - j)
abbrev rDivA : R2 := rI CDivW fun i j => .int (i / j)
abbrev rModA : R2 := rI (fun _ j => 0 < j) fun i j => .int (i % j)
abbrev rPowA : R2 := rI CPow fun i j => .int (i ^ j.toNat)
theorem op_subA {X : Cx} : OpR X (binaryOp .Sub) rSubA := op_sub
theorem op_divA {X : Cx} : OpR X (binaryOp .FloorDiv) rDivA := op_fdivW
theorem op_modA {X : Cx} : OpR X (binaryOp .Mod) rModA := op_mod
theorem op_powA {X : Cx} : OpR X (binaryOp .Pow) rPowA := op_pow
/-! ### * -/
def repS (z : Str) (k : Nat) : Str := ⟨((List.replicate k z.cps.toList).flatten).toArray⟩
theorem fold_rep (z : Array Nat) : ∀ (n : Nat) (acc : Array Nat), (List.replicate n z).foldl (· ++ ·) acc = acc ++ ((List.replicate n z.toList).flatten).toArray
  | 0, acc => by simp
  | n + 1, acc => by
    rw [List.replicate_succ, List.foldl_cons, fold_rep z n, List.replicate_succ, List.flatten_cons]
    apply Array.ext'
    simp
theorem repS_length (z : Str) (k : Nat) : (repS z k).length = k * z.length := by
  show ((List.replicate k z.cps.toList).flatten).toArray.size = k * z.cps.size
  simp
def rRepS : R2 := fun x y H Q => ∃ z k, x = .str z ∧ y = .int k ∧ 1 ≤ k ∧ k ≤ 4096 ∧ z.length ≤ 4096 ∧ Q (.str (repS z k.toNat)) H
theorem op_repS {X : Cx} : OpR X (binaryOp .Mult) rRepS := by
  intro pins s σ H x y v u Q I rx ry h
  obtain ⟨z, k, rfl, rfl, h1, h2, h3, q⟩ := h
  obtain ⟨t, rfl⟩ := rx
  obtain ⟨t', rfl⟩ := ry
  have hs : sizeLine = 16777216 := sizeLine_eq
  have hlen : z.length * k.toNat ≤ 16777216 := Nat.le_trans (Nat.mul_le_mul h3 (by omega : k.toNat ≤ 4096)) (by decide)
  refine P.mul_str (by rw [decide_eq_false (by omega), decide_eq_false (by omega)]; rfl) (fun _ _ => ?_) (fun _ _ => ?_) ?_
  · have hk : 0 < k := by omega
    have hd : (4096 : Int) ≤ (2 ^ 63 - 1) / k := by
      rw [Int.le_ediv_iff_mul_le hk]
      have : (4096 : Int) * k ≤ 4096 * 4096 := by omega
      omega
    omega
  · unfold PySem.Builtin.Str.tooLong
    rw [hs]
    exact decide_eq_false (by omega)
  · rw [if_neg (by omega)]
    by_cases hc : (k == 1 || z.length == 0) = true
    · rw [if_pos hc]
      have e : repS z k.toNat = z := by
        rcases Bool.or_eq_true_iff.mp hc with c | c
        · have : k = 1 := by simpa using c
          subst this
          unfold repS
          simp
        · have c0 : z.length = 0 := by simpa using c
          have hz : z.cps = #[] := Array.eq_empty_of_size_eq_zero c0
          obtain ⟨zc⟩ := z
          simp only at hz
          subst hz
          unfold repS
          simp
      rw [e] at q
      exact ⟨.str z, H, I, ⟨t, rfl⟩, q⟩
    · rw [if_neg hc]
      have e : (⟨(List.replicate k.toNat z.cps).foldl (· ++ ·) #[]⟩ : Str) = repS z k.toNat := by
        unfold repS
        rw [fold_rep]
        simp
      refine ⟨?_, ?_⟩
      · rw [e, repS_length, hs]
        rw [Nat.mul_comm]
        exact hlen
      · rw [e]
        exact ⟨.str (repS z k.toNat), H, I.tok _, ⟨_, rfl⟩, q⟩
def rMulA : R2 := fun x y H Q => rI CMul (fun i j => .int (i * j)) x y H Q ∨ rRep x y H Q ∨ rRepS x y H Q
theorem op_mulA {X : Cx} : OpR X (binaryOp .Mult) rMulA := op_mul.or (OpR.or op_rep op_repS)
theorem mulA_int {i j : Int} {H : Hp} {Q : VK} (hc : CMul i j) (h : Q (.int (i * j)) H) : rMulA (.int i) (.int j) H Q := .inl ⟨_, _, rfl, rfl, hc, h⟩
theorem mulA_str {z : Str} {k : Int} {H : Hp} {Q : VK} (h1 : 1 ≤ k) (h2 : k ≤ 4096) (h3 : z.length ≤ 4096) (h : Q (.str (repS z k.toNat)) H) : rMulA (.str z) (.int k) H Q := .inr (.inr ⟨_, _, rfl, rfl, h1, h2, h3, h⟩)
/-! ### == and != -/
def rEqA (K : Frg) : R2 := fun x y H Q => rEq x y H Q ∨ rEqD K x y H Q
def rNeA (K : Frg) : R2 := fun x y H Q => rNe x y H Q ∨ rNeD K x y H Q
theorem op_eqA {X : Cx} {k : Nat} (hr : Room k X.A) : OpR X (compareOp .Eq) (rEqA X.K) := op_eq.or (op_eqD hr.units)
theorem op_neA {X : Cx} {k : Nat} (hr : Room k X.A) : OpR X (compareOp .NotEq) (rNeA X.K) := op_ne.or (op_neD hr.units)
theorem decI (i j : Int) : decide (V.int i = V.int j) = decide (i = j) := by rw [dec_int, Bool.beq_eq_decide_eq]
theorem decS (i j : Str) : decide (V.str i = V.str j) = decide (i = j) := by rw [dec_str, Bool.beq_eq_decide_eq]
theorem eqA_int {K : Frg} {i j : Int} {H : Hp} {Q : VK} (h : Q (.bl (decide (i = j))) H) : rEqA K (.int i) (.int j) H Q := .inl ⟨rfl, by rw [decI]; exact h⟩
theorem eqA_str {K : Frg} {i j : Str} {H : Hp} {Q : VK} (h : Q (.bl (decide (i = j))) H) : rEqA K (.str i) (.str j) H Q := .inl ⟨rfl, by rw [decS]; exact h⟩
theorem neA_int {K : Frg} {i j : Int} {H : Hp} {Q : VK} (h : Q (.bl (!decide (i = j))) H) : rNeA K (.int i) (.int j) H Q := .inl ⟨rfl, by rw [decI]; exact h⟩
theorem neA_str {K : Frg} {i j : Str} {H : Hp} {Q : VK} (h : Q (.bl (!decide (i = j))) H) : rNeA K (.str i) (.str j) H Q := .inl ⟨rfl, by rw [decS]; exact h⟩
theorem eqA_data {K : Frg} {x y : V} {d e : PyData} {b : Bool} {H : Hp} {Q : VK} (hd : Dp K H x d) (he : Dp K H y e) (sd : SeqAt.shaped d = true) (se : SeqAt.shaped e = true) (hb : PyData.eqv d e = b) (h : Q (.bl b) H) : rEqA K x y H Q :=
  .inr ⟨d, e, hd, he, sd, se, by rw [hb]; exact h⟩
theorem neA_data {K : Frg} {x y : V} {d e : PyData} {b : Bool} {H : Hp} {Q : VK} (hd : Dp K H x d) (he : Dp K H y e) (sd : SeqAt.shaped d = true) (se : SeqAt.shaped e = true) (hb : PyData.eqv d e = b) (h : Q (.bl (!b)) H) : rNeA K x y H Q :=
  .inr ⟨d, e, hd, he, sd, se, by rw [hb]; exact h⟩
/-! ### < <= > >= -/
def rLtS : R2 := fun x y H Q => ∃ i j, x = .str i ∧ y = .str j ∧ Q (.bl (decide (i.cps.toList < j.cps.toList))) H
def rLtA : R2 := fun x y H Q => rI0 (fun i j => .bl (decide (i < j))) x y H Q ∨ rLtS x y H Q
theorem op_ltA {X : Cx} : OpR X (compareOp .Lt) rLtA := op_lt.or op_lt_str
abbrev rLeA : R2 := rI0 fun i j => .bl (decide (i ≤ j))
abbrev rGtA : R2 := rI0 fun i j => .bl (decide (j < i))
abbrev rGeA : R2 := rI0 fun i j => .bl (decide (j ≤ i))
theorem op_leA {X : Cx} : OpR X (compareOp .LtE) rLeA := op_le
theorem op_gtA {X : Cx} : OpR X (compareOp .Gt) rGtA := op_gt
theorem op_geA {X : Cx} : OpR X (compareOp .GtE) rGeA := op_ge
theorem ltA_int {i j : Int} {H : Hp} {Q : VK} (h : Q (.bl (decide (i < j))) H) : rLtA (.int i) (.int j) H Q := .inl ⟨_, _, rfl, rfl, h⟩
theorem i0_go {g : Int → Int → V} {i j : Int} {H : Hp} {Q : VK} (h : Q (g i j) H) : rI0 g (.int i) (.int j) H Q := ⟨_, _, rfl, rfl, h⟩
theorem i_go {C : Int → Int → Prop} {g : Int → Int → V} {i j : Int} {H : Hp} {Q : VK} (hc : C i j) (h : Q (g i j) H) : rI C g (.int i) (.int j) H Q := ⟨_, _, rfl, rfl, hc, h⟩
/-! ### in, not in -/
def rInS : R2 := fun x y H Q => ∃ (c : Nat) (z : Str), x = .str ⟨#[c]⟩ ∧ y = .str z ∧ Q (.bl (decide (c ∈ z.cps.toList))) H
def rNotInS : R2 := fun x y H Q => ∃ (c : Nat) (z : Str), x = .str ⟨#[c]⟩ ∧ y = .str z ∧ Q (.bl (!decide (c ∈ z.cps.toList))) H
def rInT : R2 := fun x y H Q => ∃ i j, x = .str i ∧ y = .str j ∧ Q (.bl (!(Builtin.Str.occurrences j i 0 j.length 1).isEmpty)) H
def rInA (K : Frg) : R2 := fun x y H Q => rInS x y H Q ∨ rIn K false x y H Q ∨ rInT x y H Q
def rNotInA (K : Frg) : R2 := fun x y H Q => rNotInS x y H Q ∨ rIn K true x y H Q
theorem op_inA {X : Cx} : OpR X (compareOp .In) (rInA X.K) := op_in_sign.or (OpR.or op_in_seq op_in_str)
theorem op_notInA {X : Cx} : OpR X (compareOp .NotIn) (rNotInA X.K) := op_notIn_sign.or op_notIn_seq
theorem inA_sign {K : Frg} {c : Nat} {z : Str} {H : Hp} {Q : VK} (h : Q (.bl (decide (c ∈ z.cps.toList))) H) : rInA K (.str ⟨#[c]⟩) (.str z) H Q := .inl ⟨c, z, rfl, rfl, h⟩
theorem notInA_sign {K : Frg} {c : Nat} {z : Str} {H : Hp} {Q : VK} (h : Q (.bl (!decide (c ∈ z.cps.toList))) H) : rNotInA K (.str ⟨#[c]⟩) (.str z) H Q := .inl ⟨c, z, rfl, rfl, h⟩
theorem inA_seq {K : Frg} {x : V} {p : Addr} {xs : List V} {H : Hp} {Q : VK} (hp : SqL K H p xs ∨ SqT K H p xs) (hx : flatV x = true) (ha : xs.all flatV = true) (h : Q (.bl (inV x xs)) H) : rInA K x (.ref p) H Q := .inr (.inl ⟨p, xs, rfl, hp, hx, ha, h⟩)
/-! ### is None -/
def rIsN' : R2 := fun x y H Q => y = .non ∧ Q (.bl (decide (x = .non))) H
def rNotN' : R2 := fun x y H Q => y = .non ∧ Q (.bl (!decide (x = .non))) H
theorem op_isA {X : Cx} : OpR X (compareOp .Is) rIsN' := op_isN
theorem op_isNotA {X : Cx} : OpR X (compareOp .IsNot) rNotN' := op_notN
/-! ### subscripts -/
abbrev rIxA := rIx
theorem ixA_lst {K : Frg} {p : Addr} {xs : List V} {i : Int} {v : V} {H : Hp} {Q : VK} (hp : SqL K H p xs) (hi : atI xs i = some v) (h : Q v H) : rIx K (.ref p) (.int i) H Q := .inl ⟨p, xs, i, v, rfl, rfl, hp, hi, h⟩
theorem ixA_tup {K : Frg} {p : Addr} {xs : List V} {i : Int} {v : V} {H : Hp} {Q : VK} (hp : SqT K H p xs) (hi : atI xs i = some v) (h : Q v H) : rIx K (.ref p) (.int i) H Q := .inr (.inl ⟨p, xs, i, v, rfl, rfl, hp, hi, h⟩)
theorem ixA_str {K : Frg} {z : Str} {i : Int} {c : Nat} {H : Hp} {Q : VK} (hz : z.length ≤ sizeLine) (hi : atI z.cps.toList i = some c) (h : Q (.str ⟨#[c]⟩) H) : rIx K (.str z) (.int i) H Q := .inr (.inr ⟨z, i, c, rfl, rfl, hz, hi, h⟩)
abbrev SlV := V → Option Int → Option Int → Hp → VK → Prop
def rSlA (K : Frg) : SlV := fun x lo hi H Q => rSlS x lo hi H Q ∨ rSlL K x lo hi H Q
theorem sl_A {X : Cx} : SlR X (rSlA X.K) := sl_str.or sl_list
theorem slA_str {K : Frg} {z : Str} {lo hi : Option Int} {H : Hp} {Q : VK} (hz : z.length ≤ sizeLine) (h : Q (.str (cutS z lo hi)) H) : rSlA K (.str z) lo hi H Q := .inl ⟨z, rfl, hz, h⟩
theorem slA_lst {K : Frg} {a : Addr} {xs : List V} {lo hi : Option Int} {H : Hp} {Q : VK} (ha : SqL K H a xs) (h : ∀ p, H p = none → Q (.ref p) (upd H p (.lst (cutV xs lo hi)))) : rSlA K (.ref a) lo hi H Q := .inr ⟨a, xs, rfl, ha, h⟩
/-! ### built-ins by their names -/
abbrev RC := List V → Hp → VK → Prop
def rLenA (K : Frg) : RC := fun xs H Q => ∃ x n, xs = [x] ∧ LenV K x H n ∧ Q (.int n) H
theorem c_len {X : Cx} : CallR X (.builtin "len") (rLenA X.K) := call_len
theorem lenA_str {K : Frg} {z : Str} {H : Hp} {Q : VK} (hz : z.length ≤ sizeLine) (h : Q (.int z.length) H) : rLenA K [.str z] H Q := ⟨_, _, rfl, ⟨hz, rfl⟩, h⟩
theorem lenA_lst {K : Frg} {a : Addr} {xs : List V} {H : Hp} {Q : VK} (ha : SqL K H a xs) (h : Q (.int xs.length) H) : rLenA K [.ref a] H Q := ⟨_, _, rfl, .inl ⟨_, ha, rfl⟩, h⟩
theorem lenA_tup {K : Frg} {a : Addr} {xs : List V} {H : Hp} {Q : VK} (ha : SqT K H a xs) (h : Q (.int xs.length) H) : rLenA K [.ref a] H Q := ⟨_, _, rfl, .inr ⟨_, ha, rfl⟩, h⟩
def rAbsA : RC := fun xs H Q => ∃ i, xs = [.int i] ∧ Q (.int (if i < 0 then -i else i)) H
theorem c_abs {X : Cx} : CallR X (.builtin "abs") rAbsA := call_abs
def rIntA : RC := fun xs H Q => (∃ i, xs = [.int i] ∧ Q (.int i) H) ∨ ∃ k, xs = [.bl k] ∧ Q (.int (if k then 1 else 0)) H
theorem c_int {X : Cx} : CallR X (.type "int") rIntA := call_int1
theorem intA_int {i : Int} {H : Hp} {Q : VK} (h : Q (.int i) H) : rIntA [.int i] H Q := .inl ⟨i, rfl, h⟩
def rListA (K : Frg) : RC := fun xs H Q => ∃ p ys, xs = [.ref p] ∧ (SqL K H p ys ∨ SqT K H p ys) ∧ ∀ l, H l = none → Q (.ref l) (upd H l (.lst ys))
theorem c_list {X : Cx} : CallR X (.type "list") (rListA X.K) := call_list_of
def rJoinA (K : Frg) : V → List V → Hp → VK → Prop := fun x xs H Q => ∃ a p, ∃ ys : List Str, x = .str a ∧ xs = [.ref p] ∧ (SqL K H p (ys.map V.str) ∨ SqT K H p (ys.map V.str)) ∧ (ys.map (·.length)).sum + ys.length * a.length ≤ 16777216 ∧ Q (.str (Txt.join a ys)) H
theorem pe_joinA {X : Cx} {o e : Expr} {to te : TE} {apos pos : Pos} (ho : PE X o to) (he : PE X e te) (h1 : starEach [e] X.env = [(false, eval e X.env)] := by rfl) (h2 : attributeBase o "join" X.env (eval o X.env) = eval o X.env := by rfl) (h3 : (apos.endLine == pos.line) = true := by rfl) :
    PE X (.Call (.Attribute o "join" apos) [e] [] pos) (tM1 (rJoinA X.K) to te) := pe_join ho he h1 h2 h3
def rIsiA (K : Frg) : RC := rIsi K
theorem c_isi {X : Cx} : CallR X (.builtin "isinstance") (rIsiA X.K) := call_isi
theorem isi_go {K : Frg} {x c : V} {t u : Value} {b : Bool} {H : Hp} {Q : VK} (hc : ClsV c u) (ht : TyX K H x t) (hk : PySem.W.kitOne K t u = some b) (h : Q (.bl b) H) : rIsiA K [x, c] H Q := ⟨x, c, t, u, b, rfl, hc, ht, hk, h⟩
/-! ### constants of the module -/
theorem pe_gint {X : Cx} {x : Str} {i : Int} {pos : Pos} (hg : Gl X x) (hm : ∃ t, X.mg x = some (.int i t)) (hd : (x == ("__debug__" : Str)) = false := by decide) : PE X (.Name x pos) (tC (.int i)) :=
  let ⟨t, h⟩ := hm; pe_glob hg h ⟨t, rfl⟩ hd
theorem pe_gstr {X : Cx} {x z : Str} {pos : Pos} (hg : Gl X x) (hm : ∃ t, X.mg x = some (.str z t)) (hd : (x == ("__debug__" : Str)) = false := by decide) : PE X (.Name x pos) (tC (.str z)) :=
  let ⟨t, h⟩ := hm; pe_glob hg h ⟨t, rfl⟩ hd
/-- what a def wishes of exceptions -/
def W0 (E : XK) : WX := fun cls d _ H => E cls d H
def WN : WX := fun _ _ _ _ => False
end L2

/-! Built-ins and operators over instances of the program's own classes. -/
namespace L2
open PySem PySem.Spec PyProof.Rows
section
variable {X : Cx} {CX : CXT} {k : Nat} {f C a dx : Addr} {fs : List (Str × V)} {fd : FuncData} {ps : List Str} {sp : Sp} {dvs : List V} {ds : List Value} {pins : List (Addr × Obj)} {σ : St} {H : Hp} {s : Shared}
/-- a def of the text runs within a built-in -/
theorem run_in {A' : Around} {Q : VK} {E : XK} {us : List Value} {vs : List V} (F : FnOk X.prog X.w X.K X.mg X.base CX k f fd ps sp) (hr : Room k A') (hfr : A'.frames = X.A.frames) (hb : Binds X.K fd ps ds) (hd : Vals dvs ds)
    (hx : PassesAt CX X σ E) (I : Inv X pins σ H s) (r : Vals vs us) (h : sp (vs ++ dvs) H Q E) : wpAny (model X.prog X.w) A' (call (.ref f) us) (EP X pins σ Q) X.xe s := by
  have e0 := I.env0
  have e1 : Env0 X.prog X.w X.K X.mg X.base A' X.stack s H := ⟨hfr.trans e0.frames, e0.mod, e0.bs, e0.bsz, e0.funs, e0.frf, e0.hok, e0.bare⟩
  have rr : Vals (vs ++ dvs) (us ++ ds) := r.append hd
  refine wpAny_call (codeAny_mono (F.run A' X.stack s H ⟨us, []⟩ _ _ Q E hr e1 (hb s us I.kIn (rr.length.symm.trans (F.len _ _ _ _ h))) rr h) ?_)
  intro res s' hq
  match res, hq with
  | .error e, hq => exact hx pins H s e s' I hq
  | .ok (.ret u), hq => exact I.after hq
  | .ok .next, hq => exact hq.elim
  | .ok .brk, hq => exact hq.elim
  | .ok .cont, hq => exact hq.elim
/-- an instance as the library's rules see it -/
theorem Inv.instAt (I : Inv X pins σ H s) (ea : H a = some (.ins C dx fs)) : ∃ od, PySem.W.InstAt s.heap a (PySem.W.instObj C dx) C (some od) := by
  obtain ⟨mA, O, _⟩ := ins_get I.hok ea
  obtain ⟨od, J, _⟩ := O.look
  exact ⟨od, J⟩
/-- str(o), o's class with a __str__ of the program -/
def rStrO (C : Addr) (sp : Sp) (E : St → XK) (σ : St) : List V → Hp → VK → Prop := fun xs H Q => ∃ a dx fs, xs = [.ref a] ∧ H a = some (.ins C dx fs) ∧ sp [.ref a] H (fun v H' => ∃ z, v = .str z ∧ Q (.str z) H') (E σ)
def tStrO (C : Addr) (sp : Sp) (E : St → XK) (t : TA) : TE := fun σ H Q => t σ H fun vs H1 => rStrO C sp E σ vs H1 Q
theorem pe_strO {E : St → XK} {p pos : Pos} {e : Expr} {es : List Expr} {t : TA} (m : Meth X.K C "__str__" f) (F : FnOk X.prog X.w X.K X.mg X.base CX k f fd ps sp) (hr : Room (k + 2) X.A) (hb : Binds X.K fd ps []) (hx : ∀ σ, PassesAt CX X σ (E σ))
    (hg : Gl X "str") (hm : X.mg "str" = none) (ha : PA X (e :: es) t)
    (he : starEach (e :: es) X.env = (false, eval e X.env) :: starEach es X.env := by rfl) (hpl : (backTo pos (starEach es X.env)).any (·.1) = false := by rfl) : PE X (.Call (.Name "str" p) (e :: es) [] pos) (tStrO C sp E t) := by
  constructor
  intro pins s σ H Q I h
  refine wpAny_Call_Name_kw (ld_blt I hg hm (by decide +kernel : bootBuiltins "str" = some (.type "str")) ?_ (by decide) (by decide))
  refine PyProof.Rows.callWith_type1 (thn (ha.run pos pins s σ H _ I h) ?_) he hpl
  rintro us s1 ⟨vs, H1, I1, r1, a, dx, fs, rfl, ea, q⟩
  cases r1 with
  | cons ra rn =>
    cases rn
    cases ra
    obtain ⟨od, J⟩ := I1.instAt ea
    refine PySem.W.kso_call (hr.in1.in1.units0) I1.kIn J m.at_ m.fn (thn (run_in (vs := [.ref a]) (dvs := []) (ds := []) F hr.in1.in1 rfl hb .nil (hx σ) I1 (.cons rfl .nil) (by simpa using q)) ?_)
    rintro v s2 ⟨x, H2, I2, rx, z, rfl, q2⟩
    obtain ⟨t, rfl⟩ := rx
    exact ⟨.str z, H2, I2, ⟨t, rfl⟩, q2⟩
end
end L2

/-! What the head tells of the written part: a Bool of facts, and the function objects by their places. -/
namespace Rz
open PySem PySem.Spec PyProof.Rows L2 He
abbrev Fg := PySem.W.Frag
/-! ### looking into K -/
def funOf (K : Fg) (f : Addr) : Option FuncData := match K.lookup f with
  | some o => (match o.data with
    | .func fd => some fd
    | _ => none)
  | none => none
theorem funOf_ok {K : Fg} {f : Addr} {fd : FuncData} (h : funOf K f = some fd) : ∃ oc od osl, K.lookup f = some ⟨oc, od, .func fd, osl⟩ := by
  unfold funOf at h
  cases q : K.lookup f with
  | none => rw [q] at h; cases h
  | some o =>
    obtain ⟨oc, od, dt, osl⟩ := o
    rw [q] at h
    cases dt with
    | func fd' =>
      have e : fd' = fd := Option.some.inj h
      subst e
      exact ⟨oc, od, osl, rfl⟩
    | _ => cases h
theorem funOf_eq {K : Fg} {f : Addr} {fd : FuncData} {oc od osl} (h : K.lookup f = some ⟨oc, od, .func fd, osl⟩) : funOf K f = some fd := by
  unfold funOf
  rw [h]
def fldsOf (K : Fg) (a : Addr) : Option (Array Value) := match K.lookup a with
  | some o => (match o.data with
    | .fields vs => some vs
    | _ => none)
  | none => none
theorem fldsOf_ok {K : Fg} {a : Addr} {vs : Array Value} (h : fldsOf K a = some vs) : ∃ oc od osl, K.lookup a = some ⟨oc, od, .fields vs, osl⟩ := by
  unfold fldsOf at h
  cases q : K.lookup a with
  | none => rw [q] at h; cases h
  | some o =>
    obtain ⟨oc, od, dt, osl⟩ := o
    rw [q] at h
    cases dt with
    | fields v =>
      have e : v = vs := Option.some.inj h
      subst e
      exact ⟨oc, od, osl, rfl⟩
    | _ => cases h
def cellOf (K : Fg) (a : Addr) : Option (Option Value) := match K.lookup a with
  | some o => (match o.data with
    | .cell v => some v
    | _ => none)
  | none => none
theorem cellOf_ok {K : Fg} {a : Addr} {v : Option Value} (h : cellOf K a = some v) : ∃ oc od osl, K.lookup a = some ⟨oc, od, .cell v, osl⟩ := by
  unfold cellOf at h
  cases q : K.lookup a with
  | none => rw [q] at h; cases h
  | some o =>
    obtain ⟨oc, od, dt, osl⟩ := o
    rw [q] at h
    cases dt with
    | cell u =>
      have e : u = v := Option.some.inj h
      subst e
      exact ⟨oc, od, osl, rfl⟩
    | _ => cases h
def strOf? : Value → Option Str
  | .str x _ => some x
  | _ => none
theorem strOf?_ok {v : Value} {x : Str} (h : strOf? v = some x) : ∃ t, v = .str x t := by
  cases v with
  | str y t =>
    have e : y = x := Option.some.inj h
    exact ⟨t, by rw [e]⟩
  | _ => cases h
def refOf? : Value → Option Addr
  | .ref a => some a
  | _ => none
theorem refOf?_ok {v : Value} {a : Addr} (h : refOf? v = some a) : v = .ref a := by
  cases v with
  | ref b => exact congrArg Value.ref (Option.some.inj h)
  | _ => cases h
def clsOf (K : Fg) (a : Addr) : Option (ClassData × Array (Option Value)) := match K.lookup a with
  | some o => (match o.data with
    | .cls cd => (match decide (o.cls = .type "type") with
      | true => some (cd, o.slots)
      | false => none)
    | _ => none)
  | none => none
theorem clsOf_ok {K : Fg} {a : Addr} {cd : ClassData} {sl : Array (Option Value)} (h : clsOf K a = some (cd, sl)) : ∃ od, K.lookup a = some ⟨.type "type", od, .cls cd, sl⟩ := by
  unfold clsOf at h
  cases q : K.lookup a with
  | none => rw [q] at h; cases h
  | some o =>
    obtain ⟨oc, od, dt, osl⟩ := o
    rw [q] at h
    cases dt with
    | cls c =>
      cases e : decide (oc = Value.type "type") with
      | false =>
        simp only [e] at h
        cases h
      | true =>
        simp only [e] at h
        have e1 := Option.some.inj h
        have e2 : c = cd := congrArg Prod.fst e1
        have e3 : osl = sl := congrArg Prod.snd e1
        have e4 : oc = .type "type" := of_decide_eq_true e
        subst e2 e3 e4
        exact ⟨od, rfl⟩
    | _ => cases h
/-! ### where a function stands -/
def pG (x : Str) : Fg → Addr := fun K => ga K x
def pM (C m : Str) : Fg → Addr := fun K => ma K (ga K C) m
/-- the record that a class has at a name (a property's, a classmethod's) -/
def recAt (C m : Str) : Fg → Addr := fun K => ma K (ga K C) m
def firstOf (n : String) (p : Addr) (K : Fg) : Addr := match PySem.W.recIn K p n with
  | some (.ref g :: _) => g
  | _ => 0
def pP (C m : Str) : Fg → Addr := fun K => firstOf "property" (recAt C m K) K
def pC (C m : Str) : Fg → Addr := fun K => firstOf "classmethod" (recAt C m K) K
/-! ### a function's datum -/
structure Dq where
  at_ : Fg → Addr
  name : Str
  qual : Str
  params : Arguments
  body : List Stmt
  scope : Scope
  clo : List Str := []
  dfl : List Dv := []
  kwd : List (Str × Dv) := []
abbrev FnQ : Type := Option (Str × Str × Arguments × FuncBody × Scope × Addr × List Str × Addr)
def fnQ (K : Fg) (f : Addr) : FnQ := (funOf K f).map fun fd => (fd.name, fd.qualname, fd.params, fd.body, fd.scope, fd.globals, fd.closure.map (·.1), fd.builtins)
def Dq.val (d : Dq) : FnQ := some (d.name, d.qual, d.params, .stmts d.body, d.scope, mainGlobals, d.clo, builtinsNs)
def Dq.dvs (K : Fg) (d : Dq) : List V := d.dfl.map (Dv.v K)
def Dq.kws (K : Fg) (d : Dq) : List (Str × V) := d.kwd.map fun q => (q.1, q.2.v K)
def Dq.ok (K : Fg) (d : Dq) : Bool := PySem.W.keepIn K (.ref (d.at_ K)) && (match funOf K (d.at_ K) with
  | some fd => PySem.W.codeIn K fd.code d.qual && (dflB K fd.defaults (d.dvs K) && kwdB K fd.kwdefaults (d.kws K))
  | none => false)
theorem Dq.parts {K : Fg} {d : Dq} (e : fnQ K (d.at_ K) = d.val) (c : d.ok K = true) : ∃ oc od osl cl dV kV doc pm an cdv ct, K.lookup (d.at_ K) = some ⟨oc, od, .func (PySem.W.fnX d.name d.qual d.params d.body d.scope cl dV kV doc pm an cdv ct), osl⟩ ∧ cl.map (·.1) = d.clo ∧
    PySem.W.keepIn K (.ref (d.at_ K)) = true ∧ PySem.W.codeIn K cdv d.qual = true ∧ DflV K dV (d.dvs K) ∧ KwdV K kV (d.kws K) := by
  unfold Dq.ok at c
  unfold fnQ at e
  obtain ⟨kp, c2⟩ := ba c
  cases q : funOf K (d.at_ K) with
  | none => rw [q] at c2; cases c2
  | some fd =>
    rw [q] at c2 e
    obtain ⟨oc, od, osl, lk⟩ := funOf_ok q
    obtain ⟨n1, n2, n3, n4, n5, n6, n7, n8, n9, n10, n11, n12, n13, n14, n15⟩ := fd
    simp only [Dq.val, Option.map_some, Option.some.injEq, Prod.mk.injEq] at e
    obtain ⟨h1, h2, h3, h4, h5, h6, h7, h8⟩ := e
    subst h1 h2 h3 h4 h5 h6 h8
    obtain ⟨k1, k2⟩ := ba c2
    obtain ⟨k3, k4⟩ := ba k2
    exact ⟨oc, od, osl, n7, n8, n9, n10, n11, n12, n13, n14, lk, h7, kp, k1, dflB_ok k3, kwdB_ok k4⟩
theorem Dq.funD {K : Fg} {d : Dq} (e : fnQ K (d.at_ K) = d.val) (c : d.ok K = true) (hc : d.clo = []) : ∃ fd, FunD K d.name d.qual d.params d.body d.scope (d.dvs K) (d.kws K) (d.at_ K) fd := by
  obtain ⟨oc, od, osl, cl, dV, kV, doc, pm, an, cdv, ct, h1, h2, h3, h4, h5, h6⟩ := Dq.parts e c
  rw [hc] at h2
  have : cl = [] := List.map_eq_nil_iff.mp h2
  subst this
  exact ⟨_, ⟨oc, od, dV, kV, doc, pm, an, cdv, ct, osl, rfl, h1, h4, h5, h6⟩, h3⟩
/-! ### facts of classes -/
def gloB (x : Str) : Fg → Bool := fun K => (Fa.glo x).ok K
def firstB (n : String) (p : Addr) (K : Fg) : Bool := decide ((PySem.W.recIn K p n).bind List.head? = some (.ref (firstOf n p K)))
theorem firstB_ok {n : String} {p : Addr} {K : Fg} (h : firstB n p K = true) : ∃ rest, PySem.W.recIn K p n = some (.ref (firstOf n p K) :: rest) := by
  have e := of_decide_eq_true h
  cases q : PySem.W.recIn K p n with
  | none => rw [q] at e; cases e
  | some l =>
    rw [q] at e
    cases l with
    | nil => cases e
    | cons v r =>
      have ev : v = .ref (firstOf n p K) := Option.some.inj e
      exact ⟨r, by rw [ev]⟩
def propB (C m : Str) : Fg → Bool := fun K => eqO (PySem.W.findIn K (.ref (ga K C)) m) (some (some (.ref (recAt C m K)))) && (eqO (PySem.W.specialIn K (.ref (recAt C m K)) "__get__") (some (some (.builtin "property.__get__"))) &&
  (decide (PySem.W.takesIn K (.ref (recAt C m K)) = some true) && firstB "property" (recAt C m K) K))
theorem propB_ok {C m : Str} {K : Fg} (h : propB C m K = true) : PropOf K (ga K C) m (recAt C m K) (pP C m K) := by
  obtain ⟨h1, h⟩ := ba h
  obtain ⟨h2, h⟩ := ba h
  obtain ⟨h3, h4⟩ := ba h
  exact ⟨eqO_ok h1, eqO_ok h2, of_decide_eq_true h3, firstB_ok h4⟩
/-- an exception class of the program -/
def mroVE (C : Addr) (l : List Value) : Bool := decide (l.head? = some (.ref C)) && PySem.HandSPX.refsVE l.tail
def slotsVE (sl : Array (Option Value)) : Bool := decide (sl.size = 6) && decide (sl[4]? = some (some (.builtin "ValueError.__new__")))
def clsVE (K : Fg) (C : Addr) : Bool := match clsOf K C with
  | some (cd, sl) => mroVE C cd.mro && (cd.hasDict && (!cd.hasDel && slotsVE sl))
  | none => false
theorem clsVE_ok {K : Fg} {C : Addr} (h : clsVE K C = true) : ∃ nm q N bs bm sn sub ab col dd k0 k1 k2 k3 k5, K.lookup C = some (excClassObj nm q C N bs bm true sn sub ab col dd k0 k1 k2 k3 k5 "ValueError.__new__") ∧ PySem.HandSPX.refsVE bm = true := by
  unfold clsVE at h
  cases q : clsOf K C with
  | none => rw [q] at h; cases h
  | some r =>
    obtain ⟨cd, sl⟩ := r
    rw [q] at h
    obtain ⟨od, lk⟩ := clsOf_ok q
    obtain ⟨nm, bs, mro, N, qn, hd, sn, sub, ab, col, del⟩ := cd
    obtain ⟨h2, h⟩ := ba (show (mroVE C mro && (hd && (!del && slotsVE sl))) = true from h)
    obtain ⟨h3, h⟩ := ba h
    obtain ⟨h4, h5⟩ := ba h
    have e4 : del = false := by simpa using h4
    subst h3 e4
    obtain ⟨h6, h7⟩ := ba h2
    obtain ⟨h8, h9⟩ := ba h5
    cases mro with
    | nil => cases of_decide_eq_true h6
    | cons v bm =>
      have ev : v = .ref C := Option.some.inj (of_decide_eq_true h6)
      subst ev
      obtain ⟨l⟩ := sl
      have z : l.length = 6 := of_decide_eq_true h8
      have z4 : l[4]? = some (some (.builtin "ValueError.__new__")) := by simpa using of_decide_eq_true h9
      obtain ⟨k0, l, rfl⟩ := List.exists_cons_of_length_eq_add_one z
      obtain ⟨k1, l, rfl⟩ := List.exists_cons_of_length_eq_add_one (Nat.succ.inj z)
      obtain ⟨k2, l, rfl⟩ := List.exists_cons_of_length_eq_add_one (Nat.succ.inj (Nat.succ.inj z))
      obtain ⟨k3, l, rfl⟩ := List.exists_cons_of_length_eq_add_one (Nat.succ.inj (Nat.succ.inj (Nat.succ.inj z)))
      obtain ⟨k4, l, rfl⟩ := List.exists_cons_of_length_eq_add_one (Nat.succ.inj (Nat.succ.inj (Nat.succ.inj (Nat.succ.inj z))))
      obtain ⟨k5, l, rfl⟩ := List.exists_cons_of_length_eq_add_one (Nat.succ.inj (Nat.succ.inj (Nat.succ.inj (Nat.succ.inj (Nat.succ.inj z)))))
      have e0 : l = [] := List.eq_nil_of_length_eq_zero (Nat.succ.inj (Nat.succ.inj (Nat.succ.inj (Nat.succ.inj (Nat.succ.inj (Nat.succ.inj z))))))
      have e4 : k4 = some (.builtin "ValueError.__new__") := by simpa using z4
      subst e0 e4
      exact ⟨nm, qn, N, bs, bm, sn, sub, ab, col, od, k0, k1, k2, k3, k5, lk, h7⟩
def excB (x : Str) : Fg → Bool := fun K => clsVE K (ga K x) && (eqO (PySem.W.findIn K (.ref (ga K x)) "__setattr__") (some (some (.builtin "object.__setattr__"))) && (PySem.W.keepIn K (.ref (ga K x)) && (decide (PySem.W.subIn K (.ref (ga K x)) (.type "BaseException") = some true) &&
  (decide (PySem.W.subIn K (.ref (ga K x)) (.type "ValueError") = some true) && (decide (PySem.W.typeIn K (.ref (ga K x)) = some (.type "type")) && (eqO (PySem.W.nsIn K cStatics "thirdparty.any") (some none) && xfB K (ga K x)))))))
theorem excB_ok {x : Str} {K : Fg} (h : excB x K = true) : ExC K (ga K x) ∧ XfC K (ga K x) := by
  obtain ⟨h1, h⟩ := ba h
  obtain ⟨h2, h⟩ := ba h
  obtain ⟨h3, h⟩ := ba h
  obtain ⟨h4, h⟩ := ba h
  obtain ⟨h5, h⟩ := ba h
  obtain ⟨h6, h⟩ := ba h
  obtain ⟨h7, h8⟩ := ba h
  exact ⟨⟨clsVE_ok h1, eqO_ok h2, h3, of_decide_eq_true h4, of_decide_eq_true h5, of_decide_eq_true h6, eqO_ok h7⟩, xfB_ok h8⟩
/-- its __init__: the cell of __class__, the code object -/
def ccOf (f : Addr) (K : Fg) : Addr := match funOf K f with
  | some fd => (match fd.closure.head? with
    | some q => q.2
    | none => 0)
  | none => 0
def cdOf (f : Addr) (K : Fg) : Addr := match funOf K f with
  | some fd => (refOf? fd.code).getD 0
  | none => 0
def fileB (P : Program) (c : Addr) (K : Fg) : Bool := match (fldsOf K c).bind fun vs => vs[2]?.bind strOf? with
  | some file => (P.main.file : Str) == file
  | none => false
theorem fileB_ok {P : Program} {c : Addr} {K : Fg} (h : fileB P c K = true) : ∃ (ccl : Value) (cdd : Option Addr) (vs : Array Value) (ccs : Array (Option Value)) (file : Str) (tf : Tok),
    K.lookup c = some ⟨ccl, cdd, .fields vs, ccs⟩ ∧ vs[2]? = some (.str file tf) ∧ ((P.main.file : Str) == file) = true := by
  unfold fileB at h
  cases q : fldsOf K c with
  | none => rw [q] at h; cases h
  | some vs =>
    rw [q] at h
    obtain ⟨oc, od, osl, lk⟩ := fldsOf_ok q
    cases q2 : vs[2]? with
    | none =>
      simp only [Option.bind_some, q2, Option.bind_none] at h
      cases h
    | some v =>
      simp only [Option.bind_some, q2] at h
      cases q3 : strOf? v with
      | none => rw [q3] at h; cases h
      | some file =>
        rw [q3] at h
        obtain ⟨t, rfl⟩ := strOf?_ok q3
        exact ⟨oc, od, vs, osl, file, t, lk, q2, h⟩
def iniB (P : Program) (x : Str) : Fg → Bool := fun K => eqO (PySem.W.findIn K (.ref (ga K x)) "__init__") (some (some (.ref (pM x "__init__" K)))) && (decide (PySem.W.typeIn K (.ref (pM x "__init__" K)) = some (.type "function")) &&
  (fileB P (cdOf (pM x "__init__" K) K) K && (decide (cellOf K (ccOf (pM x "__init__" K) K) = some (some (.ref (ga K x)))) && eqO (PySem.W.ks_superIn K (ga K x) (ga K x) "__init__") (some (some (.builtin "ValueError.__init__"))))))
theorem iniB_ok {P : Program} {x : Str} {K : Fg} {d : Dq} (h : iniB P x K = true) (ht : (P.main.scope.names.lookup ("super" : Str)).isSome = false) (hd : d.at_ = pM x "__init__") (e : fnQ K (d.at_ K) = d.val) (c : d.ok K = true) (hc : d.clo = [("__class__" : Str)]) (hdf : d.dfl = []) :
    ExF P K (ga K x) (pM x "__init__" K) (ccOf (pM x "__init__" K) K) (cdOf (pM x "__init__" K) K) d.params d.body d.scope := by
  obtain ⟨h1, h⟩ := ba h
  obtain ⟨h2, h⟩ := ba h
  obtain ⟨h3, h⟩ := ba h
  obtain ⟨h4, h5⟩ := ba h
  obtain ⟨oc, od, osl, cl, dV, kV, doc, pm, an, cdv, ct, g1, g2, g3, g4, g5, g6⟩ := Dq.parts e c
  rw [hc] at g2
  rw [hd] at g1
  obtain ⟨cc, rfl⟩ : ∃ cc, cl = [(("__class__" : Str), cc)] := by
    cases cl with
    | nil => cases g2
    | cons p r =>
      obtain ⟨n, cc⟩ := p
      cases r with
      | nil =>
        have : n = "__class__" := by simpa using g2
        exact ⟨cc, by rw [this]⟩
      | cons _ _ => simp at g2
  have hdv : dV = .none := by
    rcases g5 with ⟨_, z⟩ | ⟨z, _⟩
    · exact z
    · exact absurd (by unfold Dq.dvs; rw [hdf]; rfl) z
  subst hdv
  obtain ⟨cda, rfl⟩ : ∃ cda, cdv = .ref cda := by
    cases cdv with
    | ref a => exact ⟨a, rfl⟩
    | _ => cases g4
  have ecc : ccOf (pM x "__init__" K) K = cc := by
    unfold ccOf
    rw [funOf_eq g1]
    rfl
  have ecd : cdOf (pM x "__init__" K) K = cda := by
    unfold cdOf
    rw [funOf_eq g1]
    rfl
  rw [ecc, ecd]
  rw [ecc] at h4
  rw [ecd] at h3
  refine ⟨eqO_ok h1, of_decide_eq_true h2, ⟨oc, od, d.name, d.qual, kV, doc, pm, ct, an, osl, g1, g4⟩, fileB_ok h3, ?_, eqO_ok h5, ht⟩
  obtain ⟨a, b, c', q⟩ := cellOf_ok (of_decide_eq_true h4)
  exact ⟨a, b, c', q⟩
/-! ### the Hook -/
def growR (g : Addr → Option Obj) (as : List Addr) : List Addr := growD g as
def asR (g : Addr → Option Obj) : Nat → List Addr
  | 0 => [mainGlobals, cStatics]
  | n + 1 => growR g (asR g n)
abbrev AlR : Type := Bool × List FnQ
def obsR (fa : List (Fg → Bool)) (fn : List Dq) (K : Fg) : AlR := ((fa.all fun f => f K) && fn.all fun d => d.ok K, fn.map fun d => fnQ K (d.at_ K))
def valR (fn : List Dq) : AlR := (true, fn.map Dq.val)
def SaysR (fa : List (Fg → Bool)) (fn : List Dq) (K : Fg) : Prop := obsR fa fn K = valR fn
def obsRG (n : Nat) (fa : List (Fg → Bool)) (fn : List Dq) (g : Addr → Option Obj) : AlR := obsR fa fn (frG g (asR g n))
def hookR (n : Nat) (fa : List (Fg → Bool)) (fn : List Dq) : PySem.W.Hook where
  α := AlR
  obs := fun s => obsRG n fa fn s.heap.get?
  val := fun _ => valR fn
  says := fun _ h => ∃ K : Fg, K.In h ∧ SaysR fa fn K
  of := fun _ _ e => ⟨_, frG_in, e⟩
  keeps := fun _ _ _ ⟨K, hK, c⟩ k => ⟨K, PySem.W.Frag.In.keeps hK k, c⟩
theorem obsRG_eq {n : Nat} {fa : List (Fg → Bool)} {fn : List Dq} {g : Addr → Option Obj} {s : Shared} (h : ∀ a, g a = s.heap.get? a) : obsRG n fa fn g = (hookR n fa fn).obs s := by
  have e : g = s.heap.get? := funext h
  rw [e] <;> rfl
section
variable {fa : List (Fg → Bool)} {fn : List Dq} {K : Fg}
theorem SaysR.fact (c : SaysR fa fn K) (i : Nat) {f : Fg → Bool} (h : fa[i]? = some f := by rfl) : f K = true := by
  have c1 := (ba (show ((fa.all fun f => f K) && fn.all fun d => d.ok K) = true from congrArg Prod.fst c)).1
  exact List.all_eq_true.mp c1 f (List.mem_of_getElem? h)
theorem SaysR.def_ (c : SaysR fa fn K) (i : Nat) {d : Dq} (h : fn[i]? = some d := by rfl) : fnQ K (d.at_ K) = d.val ∧ d.ok K = true := by
  have c2 := (ba (show ((fa.all fun f => f K) && fn.all fun d => d.ok K) = true from congrArg Prod.fst c)).2
  have e : fn.map (fun d => fnQ K (d.at_ K)) = fn.map Dq.val := congrArg Prod.snd c
  have e2 : (fn.map fun d => fnQ K (d.at_ K))[i]? = (fn.map Dq.val)[i]? := by rw [e]
  rw [List.getElem?_map, List.getElem?_map, h] at e2
  exact ⟨Option.some.inj e2, List.all_eq_true.mp c2 d (List.mem_of_getElem? h)⟩
theorem SaysR.fun_ (c : SaysR fa fn K) (i : Nat) {d : Dq} (h : fn[i]? = some d := by rfl) (hc : d.clo = [] := by rfl) : ∃ fd, FunD K d.name d.qual d.params d.body d.scope (d.dvs K) (d.kws K) (d.at_ K) fd :=
  let ⟨e, k⟩ := c.def_ i h; Dq.funD e k hc
end
end Rz

/-! Names for readings. -/
namespace L2
open PySem PySem.Spec PyProof.Rows
def tRaise (mk : St → Hp → XK → Prop) (W : WX) : TS := fun _ σ H => mk σ H fun cls d H' => W cls d σ H'
def tTry (K : Frg) (W : WX) (tb : WX → TS) (l : List Clause) : TS := fun D σ H => tb (wMix K W D l) D σ H
theorem ps_tryM {X : Cx} {body : List Stmt} {h₀ : ExceptHandler} {hds : List ExceptHandler} {l : List Clause} {pos : Pos} {tb : WX → TS} {Wout : WX} (hs : X.stack = X.env :: X.outer) (hf : X.env.frame = some X.env.locals) (hN : X.N.Nodup) (tk : Takes X Wout)
    (hb : ∀ (W : WX) (pn : List (Addr × Obj)) (xe : Value → Shared → Prop), Takes (X.tr pn xe) W → PassesOwn (model X.prog X.w) X.A X.env xe → PSs (X.tr pn xe) body (tb W)) (hh : HdsMix X (h₀ :: hds) l) :
    PS X (.Try body (h₀ :: hds) [] [] pos) (tTry X.K Wout tb l) := ps_try_mix hs hf hN tk hb hh
def tJoined (ts : List TE) : TE := fun σ H Q => tJs ts Str.empty σ H fun out H1 => Q (.str out) H1
def tTruth (K : Frg) (ta : TE) : TT := fun σ H Q => ta σ H fun x H' => ∃ k, TruV K x H' k ∧ Q k H'
abbrev rNegA : V → Hp → VK → Prop := rU fun i => .int (-i)
end L2

/-! How a reading goes on, one lemma a construct. -/
namespace L2
open PySem PySem.Spec PyProof.Rows
section
variable {K : Frg} {σ : St} {H : Hp} {Q : VK} {D : Ends} {ta tb tc : TE} {t u : TS} {tt tt' : TT} {g : TG} {i : Nat} {v : V} {tl tr : TA} {W : WX} {E : XK} {B : Bool → Hp → Prop} {QL : List V → Hp → Prop}
theorem rd_seq (h : t { D with nx := u D } σ H) : tSeq t u D σ H := h
theorem rd_next (h : D.nx σ H) : tNext D σ H := h
theorem rd_asg (h : ta σ H fun x H1 => g x σ H1 D.nx) : tAsg ta g D σ H := h
theorem rd_name {R : St → Hp → Prop} (h : R (σ.set i (some v)) H) : gName i v σ H R := h
theorem rd_drop (h : ta σ H fun _ H1 => D.nx σ H1) : tDrop ta D σ H := h
theorem rd_ret (h : ta σ H D.rt) : tRet ta D σ H := h
theorem rd_retN (h : D.rt .non H) : tRetN D σ H := h
theorem rd_if (h : tt σ H fun b H1 => (b = true → t D σ H1) ∧ (b = false → u D σ H1)) (hm : ∀ {P P' : Bool → Hp → Prop}, (∀ b H, P b H → P' b H) → tt σ H P → tt σ H P') : tIfS tt t u D σ H :=
  hm (fun b H1 ⟨h1, h2⟩ => by cases b; exact h2 rfl; exact h1 rfl) h
theorem rd_ifS (h : tt σ H fun b H1 => if b = true then t D σ H1 else u D σ H1) : tIfS tt t u D σ H := h
theorem rd_var (e : σ[i]? = some (some v)) (h : Q v H) : tVar i σ H Q := ⟨v, e, h⟩
theorem rd_c (h : Q v H) : tC v σ H Q := h
theorem rd_op {r : R2} (h : ta σ H fun x H1 => tb σ H1 fun y H2 => r x y H2 Q) : tOp r ta tb σ H Q := h
theorem rd_un {r : V → Hp → VK → Prop} (h : ta σ H fun x H1 => r x H1 Q) : tUn r ta σ H Q := h
theorem rd_neg {j : Int} (h : Q (.int (-j)) H) : rNegA (.int j) H Q := ⟨j, rfl, h⟩
theorem rd_cb {r : RC} (h : tl σ H fun vs H1 => r vs H1 Q) : tCB r tl σ H Q := h
theorem rd_nil (h : QL [] H) : tNil σ H QL := h
theorem rd_cons (h : ta σ H fun x H1 => tr σ H1 fun xs H2 => QL (x :: xs) H2) : tCons ta tr σ H QL := h
theorem rd_test (h : ta σ H fun x H1 => ∃ k, x = .bl k ∧ B k H1) : tTest ta σ H B := h
theorem rd_tb (h : ta σ H fun x H1 => ∃ k, x = .bl k ∧ B k H1) : tB ta σ H B := h
theorem rd_bl {k : Bool} (h : B k H) : ∃ k', V.bl k = .bl k' ∧ B k' H := ⟨k, rfl, h⟩
theorem rd_and (h : tt σ H fun c H1 => if c = true then tt' σ H1 B else B false H1) : tAnd tt tt' σ H B := h
theorem rd_or (h : tt σ H fun c H1 => if c = true then B true H1 else tt' σ H1 B) : tOr tt tt' σ H B := h
theorem rd_not (h : tt σ H fun c H1 => B (!c) H1) : tNot tt σ H B := h
theorem rd_andV (h : ta σ H fun x H1 => ∃ c, x = .bl c ∧ if c = true then tb σ H1 Q else Q (.bl false) H1) : tAndV ta tb σ H Q := h
theorem rd_orV (h : ta σ H fun x H1 => ∃ c, x = .bl c ∧ if c = true then Q (.bl true) H1 else tb σ H1 Q) : tOrV ta tb σ H Q := h
theorem rd_notV (h : ta σ H fun x H1 => ∃ c, x = .bl c ∧ Q (.bl (!c)) H1) : tNotV ta σ H Q := h
theorem rd_ifE (h : tt σ H fun c H1 => if c = true then ta σ H1 Q else tb σ H1 Q) : tIf tt ta tb σ H Q := h
theorem rd_tup (h : tl σ H fun xs H1 => xs.length ≤ sizeLine ∧ ∀ p, H1 p = none → Q (.ref p) (upd H1 p (.tup xs))) : tTup tl σ H Q := h
theorem rd_lst (h : tl σ H fun xs H1 => xs.length ≤ sizeLine ∧ ∀ p, H1 p = none → Q (.ref p) (upd H1 p (.lst xs))) : tLst tl σ H Q := h
theorem rd_call {sp : Sp} {dvs : List V} {EE : St → XK} (h : tl σ H fun vs H1 => sp (vs ++ dvs) H1 Q (EE σ)) : tCallSD sp dvs EE tl σ H Q := h
theorem rd_joined {ts : List TE} (h : tJs ts Str.empty σ H fun out H1 => Q (.str out) H1) : tJoined ts σ H Q := h
theorem rd_raise {mk : St → Hp → XK → Prop} (h : mk σ H fun cls d H' => W cls d σ H') : tRaise mk W D σ H := h
theorem rd_mkx {C : Addr} {f : Str} {R : XK} (h : tl σ H fun vs H1 => ∃ v, vs = [v] ∧ ∀ d, H1 d = none → R (.ref C) (some d) (upd H1 d (.xd [(f, v)]))) : tMkX C f tl σ H R := h
theorem rd_mkx0 {C : Addr} {R : XK} (h : R (.ref C) none H) : tMkX0 C σ H R := h
theorem rd_try {tbb : WX → TS} {l : List Clause} (h : tbb (wMix K W D l) D σ H) : tTry K W tbb l D σ H := h
theorem rd_sl {r : SlV} {tlo thi : TO} (h : ta σ H fun x H1 => tlo σ H1 fun l H2 => thi σ H2 fun u H3 => r x l u H3 Q) : tSl r ta tlo thi σ H Q := h
theorem rd_nopart {R : Option Int → Hp → Prop} (h : R none H) : tNoPart σ H R := h
theorem rd_part {R : Option Int → Hp → Prop} (h : ta σ H fun x H1 => ∃ i, x = .int i ∧ R (some i) H1) : tPart ta σ H R := h
theorem rd_ofint {j : Int} {R : Option Int → Hp → Prop} (h : R (some j) H) : ∃ i, V.int j = .int i ∧ R (some i) H := ⟨j, rfl, h⟩
theorem rd_chain {r r' : R2} (h : ta σ H fun x H1 => tb σ H1 fun y H2 => r x y H2 fun z H3 => ∃ k, z = .bl k ∧ if k = true then tc σ H3 fun w H4 => r' y w H4 Q else Q (.bl false) H3) : tChain r r' ta tb tc σ H Q := h
/-- the ways of an if whose test is a decision -/
theorem rd_ite {c : Prop} [Decidable c] {A B : Prop} (h1 : c → A) (h2 : ¬ c → B) : if decide c = true then A else B := by
  by_cases h : c
  · rw [decide_eq_true h]; exact h1 h
  · rw [decide_eq_false h]; exact h2 h
theorem rd_iteN {c : Prop} [Decidable c] {A B : Prop} (h1 : ¬ c → A) (h2 : c → B) : if (!decide c) = true then A else B := by
  by_cases h : c
  · rw [decide_eq_true h]; exact h2 h
  · rw [decide_eq_false h]; exact h1 h
theorem rd_iteT {A B : Prop} (h : A) : if true = true then A else B := h
theorem rd_iteF {A B : Prop} (h : B) : if false = true then A else B := h
/-! ### loops -/
/-- for k in range(n) -/
theorem rd_forR {n : Int} {H1 : Hp} (Pv : Nat → St → Hp → Prop) (hn : -(2 ^ 62) ≤ n) (hn' : n < 2 ^ 62) (h0 : Pv 0 σ H1)
    (hs : ∀ (i : Nat) σ H, (i : Int) < n → Pv i σ H → g (.int i) σ H fun σ2 H2 => t { D with nx := Pv (i + 1), bk := D.nx, ct := Pv (i + 1) } σ2 H2) (hd : ∀ σ H, Pv n.toNat σ H → D.nx σ H) (h : tl σ H fun vs H2 => vs = [.int n] ∧ H2 = H1)
    (hm : ∀ {P P' : List V → Hp → Prop}, (∀ b H, P b H → P' b H) → tl σ H P → tl σ H P') : tFor (iRng1 tl) g t D σ H := by
  refine hm ?_ h
  rintro vs H2 ⟨rfl, rfl⟩
  refine ⟨n, rfl, hn, hn', for_range (lo := 0) Pv h0 (fun i σ H hi p => ?_) hd⟩
  have := hs i σ H (by omega) p
  rw [Int.zero_add]
  exact this
theorem rd_forR1 {n : Int} {R : (It → Hp → Prop)} {H1 : Hp} (hn : -(2 ^ 62) ≤ n) (hn' : n < 2 ^ 62) (h : R (Itr 0 n.toNat) H1) : ∃ j : Int, [V.int n] = [.int j] ∧ -(2 ^ 62) ≤ j ∧ j < 2 ^ 62 ∧ R (Itr 0 j.toNat) H1 := ⟨n, rfl, hn, hn', h⟩
theorem forR {n : Int} {D : Ends} {σ : St} {H : Hp} (Pv : Nat → St → Hp → Prop) (h0 : Pv 0 σ H)
    (hs : ∀ (i : Nat) σ H, (i : Int) < n → Pv i σ H → g (.int i) σ H fun σ2 H2 => t { D with nx := Pv (i + 1), bk := D.nx, ct := Pv (i + 1) } σ2 H2) (hd : ∀ σ H, Pv n.toNat σ H → D.nx σ H) :
    ∃ W : Nat → Nat → St → Hp → Prop, (∃ m, W 0 m σ H) ∧ ∀ i m σ H, W i m σ H →
      ((Itr 0 n.toNat).stop i H ∧ D.nx σ H) ∨ ((Itr 0 n.toNat).go i H ∧ ∃ N : St → Hp → Prop, (∀ σ' H', N σ' H' → ∃ m', m' < m ∧ W (i + 1) m' σ' H') ∧ ∀ x H', (Itr 0 n.toNat).yld i H x H' → g x σ H' fun σ2 H2 => t { D with nx := N, ct := N, bk := D.nx } σ2 H2) :=
  for_range (lo := 0) Pv h0 (fun i σ H hi p => by rw [Int.zero_add]; exact hs i σ H (by omega) p) hd
theorem walk_enumS {z : Str} : Walk (Ites z) z.cps.size (fun _ => True) (fun i H v H' => ∃ T c, v = .ref T ∧ H T = none ∧ z.cps[i]? = some c ∧ H' = upd H T (.tup [.int (i : Nat), .str ⟨#[c]⟩])) :=
  ⟨fun _ _ hi _ => hi, fun _ _ => rfl, fun _ _ _ _ _ _ y => y⟩
theorem rd_yes (h : B true H) : tYes σ H B := h
/-- a comprehension over range(n) -/
theorem lcR {n : Int} {te : TE} {vs : List Nat} {H1 : Hp} {L : Addr} {Qd : Hp → Prop} (Pv : Nat → Hp → Prop) (h0 : Pv 0 (upd H1 L (.lst [])))
    (hs : ∀ (i : Nat) H, (i : Int) < n → Pv i H → g (.int i) (wipe σ vs) H fun σ2 H2 => wipe σ2 vs = wipe σ vs ∧ tt σ2 H2 fun b H3 =>
      if b = true then te σ2 H3 fun y H4 => ∃ acc, H4 L = some (.lst acc) ∧ acc.length < sizeLine ∧ Pv (i + 1) (upd H4 L (.lst (acc ++ [y]))) else Pv (i + 1) H3) (hd : ∀ H, Pv n.toNat H → Qd H) :
    ∃ W : Nat → Nat → Hp → Prop, (∃ m, W 0 m (upd H1 L (.lst []))) ∧ ∀ i m H, W i m H →
      ((Itr 0 n.toNat).stop i H ∧ Qd H) ∨ ((Itr 0 n.toNat).go i H ∧ ∃ Nx : Hp → Prop, (∀ H', Nx H' → ∃ m', m' < m ∧ W (i + 1) m' H') ∧ ∀ x H', (Itr 0 n.toNat).yld i H x H' → g x (wipe σ vs) H' fun σ2 H2 => wipe σ2 vs = wipe σ vs ∧ tt σ2 H2 fun b H3 =>
        if b = true then te σ2 H3 fun y H4 => ∃ acc, H4 L = some (.lst acc) ∧ acc.length < sizeLine ∧ Nx (upd H4 L (.lst (acc ++ [y]))) else Nx H3) :=
  lc_range (lo := 0) Pv h0 (fun i H hi p => by rw [Int.zero_add]; exact hs i H (by omega) p) hd
end
end L2

/-! a law's end where the defs' world of exceptions hangs on the program -/
namespace Rz
open PySem PySem.Spec PyProof.Rows L2
variable {l : PySem.W.OpenLaw} {n k : Nat} {q : Program} {loose : List Str} {XP : (Str → Option Value) → Heap → Prop} {YP : World → Heap → Prop} {d : DefRec} {x : Str}
/-- what the end asks of the head's facts -/
def Given (l : PySem.W.OpenLaw) (n k : Nat) (x : Str) (w : World) (mg : Str → Option Value) (fa : Addr) (h : Heap) : Prop :=
  ∃ (K : PySem.W.Frag) (fd : FuncData) (sp : Sp), K.In h ∧ (∀ (s : Shared) (u : Value), BindsTo s fd ⟨[u], []⟩ [(x, u)]) ∧
    (∀ (H : Hp) (a : Addr) (ns : List Int), ns.length ≤ n → SqL K H a (ns.map V.int) → sp [.ref a] H (fun v _ => v = .bl true) fun _ _ _ => False) ∧
    ∀ base : Heap, K.In base → base.Ns mainGlobals mg → FnOk l.prog w K mg base (L2.CX l.prog w) k fa fd [x] sp
theorem endX (hn : l.most = some n) (hn2 : n ≤ sizeLine) (hdf : d.params.defaults = []) (hr : Room k callerA)
    (F : ∀ (w : World) (mg : Str → Option Value) (fa : Addr) (h : Heap), YP w h → h.Ns mainGlobals mg → mg d.name = some (.ref fa) → Given l n k x w mg fa h) :
    PySem.W.WalkO q loose XP YP l.row.toRowW d [] (fun f vs => PySem.call f vs) := by
  refine Att.attach_call hn hdf ?_
  intro w s₀ s₁ mg mb fa o pm cd doc a vs ns G Y ho hd hcd hmg hobj hints hlen hg
  have T := G.T
  obtain ⟨K, fd, sp, KX, hb, hsp, hF⟩ := F w mg fa _ Y T.g hmg
  refine law_call KX T.g T.b T.builtins T.nolimit hg hobj hints (Nat.le_trans hlen hn2) hr hF hb ?_ ?_
  · exact fun H _ hS => hsp H a ns hlen hS
  · rintro H e s' ⟨_, _, _, _, _, _, _, _, _, _, _, _, z⟩
    exact z
/-- one function object stands at an address -/
theorem fd_one {K : PySem.W.Frag} {y qual y2 qual2 : Str} {ps ps2 : Arguments} {body body2 : List Stmt} {sc sc2 : Scope} {dv dv2 : List V} {kw kw2 : List (Str × V)} {f : Addr} {fd fd2 : FuncData}
    (a : FunD K y qual ps body sc dv kw f fd) (b : FunD K y2 qual2 ps2 body2 sc2 dv2 kw2 f fd2) : fd = fd2 := by
  obtain ⟨_, _, _, _, _, _, _, _, _, _, _, la, _⟩ := a.ex
  obtain ⟨_, _, _, _, _, _, _, _, _, _, _, lb, _⟩ := b.ex
  have e := Option.some.inj (la.symm.trans lb)
  cases e
  rfl
end Rz

namespace Lw
open PySem PySem.Spec PyProof.Rows L2
def top (i : Nat) : Stmt := PySem.Challenge.pw_risensigns_k08_rule_refused.main.body.getD i (.Pass ⟨0, 0, 0, 0⟩)
abbrev PROG : Program := PySem.Challenge.pw_risensigns_k08_rule_refused
abbrev s_law_pool : Stmt := top 21
abbrev s_law_pick : Stmt := top 22
abbrev s_law_word_of : Stmt := top 23
abbrev s_law_odd_sign : Stmt := top 25
abbrev s_law_spoilt : Stmt := top 31
abbrev s_law_first_odd : Stmt := top 26
abbrev s_law_due_of : Stmt := top 27
abbrev s_Rule_str : Stmt := inClass (top 19) 1
abbrev s_law_is_int : Stmt := top 24
abbrev s_law_same : Stmt := top 28
abbrev s_check_text : Stmt := top 14
abbrev s_Rule_init : Stmt := inClass (top 19) 0
abbrev s_law_try_make : Stmt := top 29
abbrev s_law_made_short : Stmt := top 30
abbrev s_law : Stmt := top 32
abbrev s_BadSign_init : Stmt := inClass (top 3) 0
abbrev s_BadRule_init : Stmt := inClass (top 7) 0
structure Txt (P : Program) (K : Frg) (mg : Str → Option Value) : Prop where
  f_abs : mg "abs" = none
  f_int : mg "int" = none
  f_range : mg "range" = none
  F_law_pool : ∃ fd, FunD K "_law_pool" "_law_pool" (defArgs s_law_pool) (defBody s_law_pool) (defScope s_law_pool) [] [] (Rz.pG "_law_pool" K) fd
  g__law_pool : mg "_law_pool" = some (.ref (He.ga K "_law_pool"))
  F_law_pick : ∃ fd, FunD K "_law_pick" "_law_pick" (defArgs s_law_pick) (defBody s_law_pick) (defScope s_law_pick) [] [] (Rz.pG "_law_pick" K) fd
  g__law_pick : mg "_law_pick" = some (.ref (He.ga K "_law_pick"))
  f_len : mg "len" = none
  F_law_word_of : ∃ fd, FunD K "_law_word_of" "_law_word_of" (defArgs s_law_word_of) (defBody s_law_word_of) (defScope s_law_word_of) [] [] (Rz.pG "_law_word_of" K) fd
  g__law_word_of : mg "_law_word_of" = some (.ref (He.ga K "_law_word_of"))
  F_law_odd_sign : ∃ fd, FunD K "_law_odd_sign" "_law_odd_sign" (defArgs s_law_odd_sign) (defBody s_law_odd_sign) (defScope s_law_odd_sign) [] [] (Rz.pG "_law_odd_sign" K) fd
  g__law_odd_sign : mg "_law_odd_sign" = some (.ref (He.ga K "_law_odd_sign"))
  F_law_spoilt : ∃ fd, FunD K "_law_spoilt" "_law_spoilt" (defArgs s_law_spoilt) (defBody s_law_spoilt) (defScope s_law_spoilt) [] [] (Rz.pG "_law_spoilt" K) fd
  g__law_spoilt : mg "_law_spoilt" = some (.ref (He.ga K "_law_spoilt"))
  F_law_first_odd : ∃ fd, FunD K "_law_first_odd" "_law_first_odd" (defArgs s_law_first_odd) (defBody s_law_first_odd) (defScope s_law_first_odd) [] [] (Rz.pG "_law_first_odd" K) fd
  g__law_first_odd : mg "_law_first_odd" = some (.ref (He.ga K "_law_first_odd"))
  F_law_due_of : ∃ fd, FunD K "_law_due_of" "_law_due_of" (defArgs s_law_due_of) (defBody s_law_due_of) (defScope s_law_due_of) [] [] (Rz.pG "_law_due_of" K) fd
  g__law_due_of : mg "_law_due_of" = some (.ref (He.ga K "_law_due_of"))
  f_str : mg "str" = none
  c_Rule : Cls K (He.ga K "Rule")
  n_Rule_left : NoAttr K (He.ga K "Rule") "left"
  f_isinstance : mg "isinstance" = none
  n_Rule_right : NoAttr K (He.ga K "Rule") "right"
  F_Rule_str : ∃ fd, FunD K "__str__" "Rule.__str__" (defArgs s_Rule_str) (defBody s_Rule_str) (defScope s_Rule_str) [] [] (Rz.pM "Rule" "__str__" K) fd
  m_Rule___str__ : Meth K (He.ga K "Rule") "__str__" (Rz.pM "Rule" "__str__" K)
  f_bool : mg "bool" = none
  F_law_is_int : ∃ fd, FunD K "_law_is_int" "_law_is_int" (defArgs s_law_is_int) (defBody s_law_is_int) (defScope s_law_is_int) [] [] (Rz.pG "_law_is_int" K) fd
  g__law_is_int : mg "_law_is_int" = some (.ref (He.ga K "_law_is_int"))
  F_law_same : ∃ fd, FunD K "_law_same" "_law_same" (defArgs s_law_same) (defBody s_law_same) (defScope s_law_same) [] [] (Rz.pG "_law_same" K) fd
  f_enumerate : mg "enumerate" = none
  k_SIGNS : ∃ t, mg "SIGNS" = some (.str "abcdefghijklmnopqrstuvwxyz" t)
  xb_BadSign : Rz.ExC K (He.ga K "BadSign") ∧ XfC K (He.ga K "BadSign")
  n_BadSign_at : NoAttr K (He.ga K "BadSign") "at"
  x_BadSign : Rz.ExOne P K (He.ga K "BadSign") "at"
  f_super : mg "super" = none
  g_BadSign : mg "BadSign" = some (.ref (He.ga K "BadSign"))
  F_check_text : ∃ fd, FunD K "check_text" "check_text" (defArgs s_check_text) (defBody s_check_text) (defScope s_check_text) [] [] (Rz.pG "check_text" K) fd
  g_check_text : mg "check_text" = some (.ref (He.ga K "check_text"))
  k_MOST_SIGNS : ∃ t, mg "MOST_SIGNS" = some (.int 4 t)
  xb_BadRule : Rz.ExC K (He.ga K "BadRule") ∧ XfC K (He.ga K "BadRule")
  x_BadRule : Rz.ExZero P K (He.ga K "BadRule")
  g_BadRule : mg "BadRule" = some (.ref (He.ga K "BadRule"))
  F_Rule_init : ∃ fd, FunD K "__init__" "Rule.__init__" (defArgs s_Rule_init) (defBody s_Rule_init) (defScope s_Rule_init) [.str ""] [] (Rz.pM "Rule" "__init__" K) fd
  mk_Rule : Mk K (He.ga K "Rule") (Rz.pM "Rule" "__init__" K)
  g_Rule : mg "Rule" = some (.ref (He.ga K "Rule"))
  F_law_try_make : ∃ fd, FunD K "_law_try_make" "_law_try_make" (defArgs s_law_try_make) (defBody s_law_try_make) (defScope s_law_try_make) [] [] (Rz.pG "_law_try_make" K) fd
  g__law_try_make : mg "_law_try_make" = some (.ref (He.ga K "_law_try_make"))
  g__law_same : mg "_law_same" = some (.ref (He.ga K "_law_same"))
  F_law_made_short : ∃ fd, FunD K "_law_made_short" "_law_made_short" (defArgs s_law_made_short) (defBody s_law_made_short) (defScope s_law_made_short) [] [] (Rz.pG "_law_made_short" K) fd
  g__law_made_short : mg "_law_made_short" = some (.ref (He.ga K "_law_made_short"))
  F_law : ∃ fd, FunD K "law" "law" (defArgs s_law) (defBody s_law) (defScope s_law) [] [] (Rz.pG "law" K) fd
  g_law : mg "law" = some (.ref (He.ga K "law"))
  e_BadSign_BadSign : PySem.W.exmOne K (.ref (He.ga K "BadSign")) (.ref (He.ga K "BadSign")) = some true
  e_BadSign_BadRule : PySem.W.exmOne K (.ref (He.ga K "BadSign")) (.ref (He.ga K "BadRule")) = some false
  e_BadRule_BadSign : PySem.W.exmOne K (.ref (He.ga K "BadRule")) (.ref (He.ga K "BadSign")) = some false
  e_BadRule_BadRule : PySem.W.exmOne K (.ref (He.ga K "BadRule")) (.ref (He.ga K "BadRule")) = some true
section
variable {w : World} {K : Frg} {mg : Str → Option Value} {base : Heap}
/-! _law_pool -/
abbrev N_law_pool : List Str := ["_law_script", "_law_draws", "_law_seed", "_law_cell", "_law_k", "_law_rest", "_law_value"]
def t_law_pool (K : Frg) (E : XK) : TS :=
  (tSeq (tAsg (tLst tNil) (gName 1)) (tSeq (tAsg (tC (.int 0)) (gName 2)) (tSeq (tFor (iList K (tVar 0)) (gName 3) (tSeq (tAsg (tCB (rAbsA) (tCons (tVar 3) tNil)) (gName 5)) (tSeq (tAsg (tOp rModA (tCB (rIntA) (tCons (tOp rAddA (tOp rMulA (tVar 2) (tC (.int 31))) (tVar 5)) tNil)) (tC (.int 1009))) (gName 2)) (tIfS (tTest (tOp rLtA (tVar 5) (tOp rPowA (tC (.int 10)) (tC (.int 18))))) (tDrop (tBM K "list" rAppend (tVar 1) (tCons (tVar 5) tNil))) (tFor (iRng1 (tCons (tC (.int 60)) tNil)) (gName 4) (tIfS (tTest (tOp rGtA (tVar 5) (tC (.int 0)))) (tSeq (tDrop (tBM K "list" rAppend (tVar 1) (tCons (tOp rModA (tCB (rIntA) (tCons (tVar 5) tNil)) (tC (.int 1000))) tNil))) (tAsg (tOp rDivA (tVar 5) (tC (.int 1000))) (gName 5))) tNext)))))) (tSeq (tFor (iRng1 (tCons (tC (.int 90)) tNil)) (gName 4) (tSeq (tAsg (tOp rModA (tCB (rIntA) (tCons (tOp rMulA (tOp rAddA (tVar 2) (tC (.int 1))) (tOp rAddA (tOp rDivA (tOp rAddA (tOp rMulA (tOp rMulA (tC (.int 3)) (tVar 4)) (tVar 4)) (tOp rMulA (tC (.int 5)) (tVar 4))) (tC (.int 2))) (tC (.int 7)))) tNil)) (tC (.int 1009))) (gName 6)) (tDrop (tBM K "list" rAppend (tVar 1) (tCons (tOp rModA (tCB (rIntA) (tCons (tOp rAddA (tOp rMulA (tVar 6) (tVar 6)) (tVar 4)) tNil)) (tC (.int 1013))) tNil))))) (tRet (tVar 1))))))
def sp_law_pool (K : Frg) : Sp := fun vs H Q E => vs.length = 1 ∧ t_law_pool K E { nx := fun _ H' => Q .non H', rt := Q } (start N_law_pool vs) H
theorem sc_law_pool : FnScope N_law_pool ["_law_script"] (defScope s_law_pool) := ⟨rfl, rfl, rfl, by decide +kernel, rfl, by decide +kernel, by decide +kernel⟩
theorem ok_law_pool (T : Txt PROG K mg) : ∃ fd, FnOk PROG w K mg base (L2.CX PROG w) 1 (Rz.pG "_law_pool" K) fd ["_law_script"] (sp_law_pool K) ∧ FunD K "_law_pool" "_law_pool" (defArgs s_law_pool) (defBody s_law_pool) (defScope s_law_pool) [] [] (Rz.pG "_law_pool" K) fd := by
  obtain ⟨fd, F⟩ := T.F_law_pool
  refine ⟨fd, F.ok sc_law_pool (fun vs H Q E h => h.1) (fun cdv A outer s H vs Q E hr h => ⟨t_law_pool K E, ?_, h.2⟩), F⟩
  exact (pss_cons (ps_set (i := 1) sc_law_pool.nd rfl (by first | exact Or.inl rfl | exact Or.inr rfl) (pe_lst pa_nil)) (pss_cons (ps_set (i := 2) sc_law_pool.nd rfl (by first | exact Or.inl rfl | exact Or.inr rfl) pe_int) (pss_cons (ps_for (passes_of rfl) rfl (pi_list (pv 0)) (pg_name (i := 3) sc_law_pool.nd rfl (by first | exact Or.inl rfl | exact Or.inr rfl)) (pss_cons (ps_set (i := 5) sc_law_pool.nd rfl (by first | exact Or.inl rfl | exact Or.inr rfl) (pe_callB c_abs rfl T.f_abs (by decide +kernel) (pa_cons (pv 3) pa_nil))) (pss_cons (ps_set (i := 2) sc_law_pool.nd rfl (by first | exact Or.inl rfl | exact Or.inr rfl) (pe_op op_modA (pe_callTy c_int rfl T.f_int (by decide +kernel) (pa_cons (pe_op op_addA (pe_op op_mulA (pv 2) pe_int) (pv 5)) pa_nil)) pe_int)) (pss_one (ps_if (pt_cmpR op_ltA (pv 5) (pe_op op_powA pe_int pe_int) (nomark _)) (pss_one (ps_expr (pe_bm PySem.F.plainAttrs_list PySem.F.slot_list_append PySem.F.type_list_append mt_append (pv 1) (pa_cons (pv 5) pa_nil)))) (pss_one (ps_for (passes_of rfl) rfl (pi_range1 rfl T.f_range (pa_cons pe_int pa_nil)) (pg_name (i := 4) sc_law_pool.nd rfl (by first | exact Or.inl rfl | exact Or.inr rfl)) (pss_one (ps_if (pt_cmpR op_gtA (pv 5) pe_int (nomark _)) (pss_cons (ps_expr (pe_bm PySem.F.plainAttrs_list PySem.F.slot_list_append PySem.F.type_list_append mt_append (pv 1) (pa_cons (pe_op op_modA (pe_callTy c_int rfl T.f_int (by decide +kernel) (pa_cons (pv 5) pa_nil)) pe_int) pa_nil))) (pss_one (ps_set (i := 5) sc_law_pool.nd rfl (by first | exact Or.inl rfl | exact Or.inr rfl) (pe_op op_divA (pv 5) pe_int)))) pss_nil))))))))) (pss_cons (ps_for (passes_of rfl) rfl (pi_range1 rfl T.f_range (pa_cons pe_int pa_nil)) (pg_name (i := 4) sc_law_pool.nd rfl (by first | exact Or.inl rfl | exact Or.inr rfl)) (pss_cons (ps_set (i := 6) sc_law_pool.nd rfl (by first | exact Or.inl rfl | exact Or.inr rfl) (pe_op op_modA (pe_callTy c_int rfl T.f_int (by decide +kernel) (pa_cons (pe_op op_mulA (pe_op op_addA (pv 2) pe_int) (pe_op op_addA (pe_op op_divA (pe_op op_addA (pe_op op_mulA (pe_op op_mulA pe_int (pv 4)) (pv 4)) (pe_op op_mulA pe_int (pv 4))) pe_int) pe_int)) pa_nil)) pe_int)) (pss_one (ps_expr (pe_bm PySem.F.plainAttrs_list PySem.F.slot_list_append PySem.F.type_list_append mt_append (pv 1) (pa_cons (pe_op op_modA (pe_callTy c_int rfl T.f_int (by decide +kernel) (pa_cons (pe_op op_addA (pe_op op_mulA (pv 6) (pv 6)) (pv 4)) pa_nil)) pe_int) pa_nil)))))) (pss_one (ps_ret (pv 1)))))))
/-! _law_pick -/
abbrev N_law_pick : List Str := ["_law_draws", "_law_many"]
def t_law_pick (K : Frg) (E : XK) : TS :=
  (tSeq (tIfS (tTest (tOp (rEqA K) (tVar 0) (tLst tNil))) (tRet (tC (.int 0))) tNext) (tRet (tOp rModA (tCB (rIntA) (tCons (tBM K "list" rPopAt (tVar 0) (tCons (tC (.int 0)) tNil)) tNil)) (tVar 1))))
def sp_law_pick (K : Frg) : Sp := fun vs H Q E => vs.length = 2 ∧ t_law_pick K E { nx := fun _ H' => Q .non H', rt := Q } (start N_law_pick vs) H
theorem sc_law_pick : FnScope N_law_pick ["_law_draws", "_law_many"] (defScope s_law_pick) := ⟨rfl, rfl, rfl, by decide +kernel, rfl, by decide +kernel, by decide +kernel⟩
theorem ok_law_pick (T : Txt PROG K mg) : ∃ fd, FnOk PROG w K mg base (L2.CX PROG w) 1 (Rz.pG "_law_pick" K) fd ["_law_draws", "_law_many"] (sp_law_pick K) ∧ FunD K "_law_pick" "_law_pick" (defArgs s_law_pick) (defBody s_law_pick) (defScope s_law_pick) [] [] (Rz.pG "_law_pick" K) fd := by
  obtain ⟨fd, F⟩ := T.F_law_pick
  refine ⟨fd, F.ok sc_law_pick (fun vs H Q E h => h.1) (fun cdv A outer s H vs Q E hr h => ⟨t_law_pick K E, ?_, h.2⟩), F⟩
  exact (pss_cons (ps_if (pt_cmpR (op_eqA hr) (pv 0) (pe_lst pa_nil) (nomark _)) (pss_one (ps_ret pe_int)) pss_nil) (pss_one (ps_ret (pe_op op_modA (pe_callTy c_int rfl T.f_int (by decide +kernel) (pa_cons (pe_bm PySem.F.plainAttrs_list PySem.F.slot_list_pop PySem.F.type_list_pop mt_popAt (pv 0) (pa_cons pe_int pa_nil)) pa_nil)) (pv 1)))))
/-! _law_word_of -/
abbrev N_law_word_of : List Str := ["_law_draws", "_law_signs", "_law_least", "_law_greatest", "_law_size", "_law_k"]
def t_law_word_of (K : Frg) (E : XK) : TS :=
  (tSeq (tAsg (tOp rAddA (tVar 2) (tCallSD (sp_law_pick K) [] (WE (W0 E)) (tCons (tVar 0) (tCons (tOp rAddA (tOp rSubA (tVar 3) (tVar 2)) (tC (.int 1))) tNil)))) (gName 4)) (tRet (tM1 (rJoinA K) (tC (.str "")) (tLc (iRng1 (tCons (tVar 4) tNil)) (gName 5) tYes (tOp (rIx K) (tVar 1) (tCallSD (sp_law_pick K) [] (WE WN) (tCons (tVar 0) (tCons (tCB (rLenA K) (tCons (tVar 1) tNil)) tNil)))) [5]))))
def sp_law_word_of (K : Frg) : Sp := fun vs H Q E => vs.length = 4 ∧ t_law_word_of K E { nx := fun _ H' => Q .non H', rt := Q } (start N_law_word_of vs) H
theorem sc_law_word_of : FnScope N_law_word_of ["_law_draws", "_law_signs", "_law_least", "_law_greatest"] (defScope s_law_word_of) := ⟨rfl, rfl, rfl, by decide +kernel, rfl, by decide +kernel, by decide +kernel⟩
theorem ok_law_word_of (T : Txt PROG K mg) : ∃ fd, FnOk PROG w K mg base (L2.CX PROG w) 2 (Rz.pG "_law_word_of" K) fd ["_law_draws", "_law_signs", "_law_least", "_law_greatest"] (sp_law_word_of K) ∧ FunD K "_law_word_of" "_law_word_of" (defArgs s_law_word_of) (defBody s_law_word_of) (defScope s_law_word_of) [] [] (Rz.pG "_law_word_of" K) fd := by
  obtain ⟨fd_law_pick, G_law_pick, D_law_pick⟩ := ok_law_pick (w := w) (base := base) T
  have b_law_pick_2 : Binds K fd_law_pick _ [] := D_law_pick.bindsN (ps := ["_law_draws", "_law_many"]) (fun _ _ _ _ _ _ us hl => match us, hl with | [_, _], _ => rfl)
  obtain ⟨fd, F⟩ := T.F_law_word_of
  refine ⟨fd, F.ok sc_law_word_of (fun vs H Q E h => h.1) (fun cdv A outer s H vs Q E hr h => ⟨t_law_word_of K E, ?_, h.2⟩), F⟩
  exact (pss_cons (ps_set (i := 4) sc_law_word_of.nd rfl (by first | exact Or.inl rfl | exact Or.inr rfl) (pe_op op_addA (pv 2) (pe_callSD G_law_pick (hr.mono (by decide)) rfl T.g__law_pick D_law_pick.kp b_law_pick_2 .nil (fun σ => passAt (takes_of rfl rfl rfl rfl) σ) (pa_cons (pv 0) (pa_cons (pe_op op_addA (pe_op op_subA (pv 3) (pv 2)) pe_int) pa_nil))))) (pss_one (ps_ret (pe_joinA pe_str (pe_lc (own := [("_law_k", 5)]) rfl sc_law_word_of.nd (pi_range1 rfl T.f_range (pa_cons (pv 4) pa_nil)) (blkOk_by (own := [("_law_k", 5)]) (N := N_law_word_of) (sc := defScope s_law_word_of) (by decide +kernel)) (fun _ _ _ _ _ => (pg_name (i := 5) sc_law_word_of.nd rfl (by first | exact Or.inl rfl | exact Or.inr rfl))) (fun _ _ _ _ _ => pts_nil) (fun _ _ _ _ _ => (pe_ix ix_seq (pv 1) (pe_callSD G_law_pick (hr.mono (by decide)) rfl T.g__law_pick D_law_pick.kp b_law_pick_2 .nil (fun σ => passAt takes0 σ) (pa_cons (pv 0) (pa_cons (pe_callB c_len rfl T.f_len (by decide +kernel) (pa_cons (pv 1) pa_nil)) pa_nil))) (fun _ _ => rfl))))))))
/-! _law_odd_sign -/
abbrev N_law_odd_sign : List Str := ["_law_draws", "_law_odd"]
def t_law_odd_sign (K : Frg) (E : XK) : TS :=
  (tSeq (tAsg (tC (.str " !\"#$&'()*+,-./0123456789:;<=>?@ABCDEFGHIJKLMNOPQRSTUVWXYZ[\\]^_`{|}~\n\t")) (gName 1)) (tRet (tOp (rIx K) (tVar 1) (tCallSD (sp_law_pick K) [] (WE (W0 E)) (tCons (tVar 0) (tCons (tCB (rLenA K) (tCons (tVar 1) tNil)) tNil))))))
def sp_law_odd_sign (K : Frg) : Sp := fun vs H Q E => vs.length = 1 ∧ t_law_odd_sign K E { nx := fun _ H' => Q .non H', rt := Q } (start N_law_odd_sign vs) H
theorem sc_law_odd_sign : FnScope N_law_odd_sign ["_law_draws"] (defScope s_law_odd_sign) := ⟨rfl, rfl, rfl, by decide +kernel, rfl, by decide +kernel, by decide +kernel⟩
theorem ok_law_odd_sign (T : Txt PROG K mg) : ∃ fd, FnOk PROG w K mg base (L2.CX PROG w) 2 (Rz.pG "_law_odd_sign" K) fd ["_law_draws"] (sp_law_odd_sign K) ∧ FunD K "_law_odd_sign" "_law_odd_sign" (defArgs s_law_odd_sign) (defBody s_law_odd_sign) (defScope s_law_odd_sign) [] [] (Rz.pG "_law_odd_sign" K) fd := by
  obtain ⟨fd_law_pick, G_law_pick, D_law_pick⟩ := ok_law_pick (w := w) (base := base) T
  have b_law_pick_2 : Binds K fd_law_pick _ [] := D_law_pick.bindsN (ps := ["_law_draws", "_law_many"]) (fun _ _ _ _ _ _ us hl => match us, hl with | [_, _], _ => rfl)
  obtain ⟨fd, F⟩ := T.F_law_odd_sign
  refine ⟨fd, F.ok sc_law_odd_sign (fun vs H Q E h => h.1) (fun cdv A outer s H vs Q E hr h => ⟨t_law_odd_sign K E, ?_, h.2⟩), F⟩
  exact (pss_cons (ps_set (i := 1) sc_law_odd_sign.nd rfl (by first | exact Or.inl rfl | exact Or.inr rfl) pe_str) (pss_one (ps_ret (pe_ix ix_seq (pv 1) (pe_callSD G_law_pick (hr.mono (by decide)) rfl T.g__law_pick D_law_pick.kp b_law_pick_2 .nil (fun σ => passAt (takes_of rfl rfl rfl rfl) σ) (pa_cons (pv 0) (pa_cons (pe_callB c_len rfl T.f_len (by decide +kernel) (pa_cons (pv 1) pa_nil)) pa_nil))) (fun _ _ => rfl)))))
/-! _law_spoilt -/
abbrev N_law_spoilt : List Str := ["_law_draws", "_law_text", "_law_at"]
def t_law_spoilt (K : Frg) (E : XK) : TS :=
  (tSeq (tAsg (tCallSD (sp_law_pick K) [] (WE (W0 E)) (tCons (tVar 0) (tCons (tOp rAddA (tCB (rLenA K) (tCons (tVar 1) tNil)) (tC (.int 1))) tNil))) (gName 2)) (tRet (tOp rAddA (tOp rAddA (tSl (rSlA K) (tVar 1) tNoPart (tPart (tVar 2))) (tCallSD (sp_law_odd_sign K) [] (WE (W0 E)) (tCons (tVar 0) tNil))) (tSl (rSlA K) (tVar 1) (tPart (tVar 2)) tNoPart))))
def sp_law_spoilt (K : Frg) : Sp := fun vs H Q E => vs.length = 2 ∧ t_law_spoilt K E { nx := fun _ H' => Q .non H', rt := Q } (start N_law_spoilt vs) H
theorem sc_law_spoilt : FnScope N_law_spoilt ["_law_draws", "_law_text"] (defScope s_law_spoilt) := ⟨rfl, rfl, rfl, by decide +kernel, rfl, by decide +kernel, by decide +kernel⟩
theorem ok_law_spoilt (T : Txt PROG K mg) : ∃ fd, FnOk PROG w K mg base (L2.CX PROG w) 3 (Rz.pG "_law_spoilt" K) fd ["_law_draws", "_law_text"] (sp_law_spoilt K) ∧ FunD K "_law_spoilt" "_law_spoilt" (defArgs s_law_spoilt) (defBody s_law_spoilt) (defScope s_law_spoilt) [] [] (Rz.pG "_law_spoilt" K) fd := by
  obtain ⟨fd_law_pick, G_law_pick, D_law_pick⟩ := ok_law_pick (w := w) (base := base) T
  obtain ⟨fd_law_odd_sign, G_law_odd_sign, D_law_odd_sign⟩ := ok_law_odd_sign (w := w) (base := base) T
  have b_law_pick_2 : Binds K fd_law_pick _ [] := D_law_pick.bindsN (ps := ["_law_draws", "_law_many"]) (fun _ _ _ _ _ _ us hl => match us, hl with | [_, _], _ => rfl)
  have b_law_odd_sign_1 : Binds K fd_law_odd_sign _ [] := D_law_odd_sign.bindsN (ps := ["_law_draws"]) (fun _ _ _ _ _ _ us hl => match us, hl with | [_], _ => rfl)
  obtain ⟨fd, F⟩ := T.F_law_spoilt
  refine ⟨fd, F.ok sc_law_spoilt (fun vs H Q E h => h.1) (fun cdv A outer s H vs Q E hr h => ⟨t_law_spoilt K E, ?_, h.2⟩), F⟩
  exact (pss_cons (ps_set (i := 2) sc_law_spoilt.nd rfl (by first | exact Or.inl rfl | exact Or.inr rfl) (pe_callSD G_law_pick (hr.mono (by decide)) rfl T.g__law_pick D_law_pick.kp b_law_pick_2 .nil (fun σ => passAt (takes_of rfl rfl rfl rfl) σ) (pa_cons (pv 0) (pa_cons (pe_op op_addA (pe_callB c_len rfl T.f_len (by decide +kernel) (pa_cons (pv 1) pa_nil)) pe_int) pa_nil)))) (pss_one (ps_ret (pe_op op_addA (pe_op op_addA (pe_slice sl_A (pv 1) po_none (po_some (pv 2))) (pe_callSD G_law_odd_sign (hr.mono (by decide)) rfl T.g__law_odd_sign D_law_odd_sign.kp b_law_odd_sign_1 .nil (fun σ => passAt (takes_of rfl rfl rfl rfl) σ) (pa_cons (pv 0) pa_nil))) (pe_slice sl_A (pv 1) (po_some (pv 2)) po_none)))))
/-! _law_first_odd -/
abbrev N_law_first_odd : List Str := ["_law_text", "_law_at"]
def t_law_first_odd (K : Frg) (E : XK) : TS :=
  (tSeq (tFor (iRng1 (tCons (tCB (rLenA K) (tCons (tVar 0) tNil)) tNil)) (gName 1) (tIfS (tTest (tOp (rNotInA K) (tOp (rIx K) (tVar 0) (tVar 1)) (tC (.str "abcdefghijklmnopqrstuvwxyz")))) (tRet (tVar 1)) tNext)) (tRet (tUn rNegA (tC (.int 1)))))
def sp_law_first_odd (K : Frg) : Sp := fun vs H Q E => vs.length = 1 ∧ t_law_first_odd K E { nx := fun _ H' => Q .non H', rt := Q } (start N_law_first_odd vs) H
theorem sc_law_first_odd : FnScope N_law_first_odd ["_law_text"] (defScope s_law_first_odd) := ⟨rfl, rfl, rfl, by decide +kernel, rfl, by decide +kernel, by decide +kernel⟩
theorem ok_law_first_odd (T : Txt PROG K mg) : ∃ fd, FnOk PROG w K mg base (L2.CX PROG w) 1 (Rz.pG "_law_first_odd" K) fd ["_law_text"] (sp_law_first_odd K) ∧ FunD K "_law_first_odd" "_law_first_odd" (defArgs s_law_first_odd) (defBody s_law_first_odd) (defScope s_law_first_odd) [] [] (Rz.pG "_law_first_odd" K) fd := by
  obtain ⟨fd, F⟩ := T.F_law_first_odd
  refine ⟨fd, F.ok sc_law_first_odd (fun vs H Q E h => h.1) (fun cdv A outer s H vs Q E hr h => ⟨t_law_first_odd K E, ?_, h.2⟩), F⟩
  exact (pss_cons (ps_for (passes_of rfl) rfl (pi_range1 rfl T.f_range (pa_cons (pe_callB c_len rfl T.f_len (by decide +kernel) (pa_cons (pv 0) pa_nil)) pa_nil)) (pg_name (i := 1) sc_law_first_odd.nd rfl (by first | exact Or.inl rfl | exact Or.inr rfl)) (pss_one (ps_if (pt_cmpR op_notInA (pe_ix ix_seq (pv 0) (pv 1) (fun _ _ => rfl)) pe_str (by rfl)) (pss_one (ps_ret (pv 1))) pss_nil))) (pss_one (ps_ret (pe_un un_neg pe_int))))
/-! _law_due_of -/
abbrev N_law_due_of : List Str := ["_law_left", "_law_right"]
def t_law_due_of (K : Frg) (E : XK) : TS :=
  (tSeq (tIfS (tTest (tOp rGeA (tCallSD (sp_law_first_odd K) [] (WE (W0 E)) (tCons (tVar 0) tNil)) (tC (.int 0)))) (tRet (tTup (tCons (tC (.str "sign")) (tCons (tCallSD (sp_law_first_odd K) [] (WE (W0 E)) (tCons (tVar 0) tNil)) tNil)))) tNext) (tSeq (tIfS (tTest (tOp rGeA (tCallSD (sp_law_first_odd K) [] (WE (W0 E)) (tCons (tVar 1) tNil)) (tC (.int 0)))) (tRet (tTup (tCons (tC (.str "sign")) (tCons (tCallSD (sp_law_first_odd K) [] (WE (W0 E)) (tCons (tVar 1) tNil)) tNil)))) tNext) (tSeq (tIfS (tOr (tTest (tOp rLtA (tCB (rLenA K) (tCons (tVar 0) tNil)) (tC (.int 1)))) (tOr (tTest (tOp rGtA (tCB (rLenA K) (tCons (tVar 0) tNil)) (tC (.int 4)))) (tTest (tOp rGtA (tCB (rLenA K) (tCons (tVar 1) tNil)) (tC (.int 4)))))) (tRet (tTup (tCons (tC (.str "rule")) (tCons (tC (.int 0)) tNil)))) tNext) (tRet (tTup (tCons (tC (.str "good")) (tCons (tC (.int 0)) tNil)))))))
def sp_law_due_of (K : Frg) : Sp := fun vs H Q E => vs.length = 2 ∧ t_law_due_of K E { nx := fun _ H' => Q .non H', rt := Q } (start N_law_due_of vs) H
theorem sc_law_due_of : FnScope N_law_due_of ["_law_left", "_law_right"] (defScope s_law_due_of) := ⟨rfl, rfl, rfl, by decide +kernel, rfl, by decide +kernel, by decide +kernel⟩
theorem ok_law_due_of (T : Txt PROG K mg) : ∃ fd, FnOk PROG w K mg base (L2.CX PROG w) 2 (Rz.pG "_law_due_of" K) fd ["_law_left", "_law_right"] (sp_law_due_of K) ∧ FunD K "_law_due_of" "_law_due_of" (defArgs s_law_due_of) (defBody s_law_due_of) (defScope s_law_due_of) [] [] (Rz.pG "_law_due_of" K) fd := by
  obtain ⟨fd_law_first_odd, G_law_first_odd, D_law_first_odd⟩ := ok_law_first_odd (w := w) (base := base) T
  have b_law_first_odd_1 : Binds K fd_law_first_odd _ [] := D_law_first_odd.bindsN (ps := ["_law_text"]) (fun _ _ _ _ _ _ us hl => match us, hl with | [_], _ => rfl)
  obtain ⟨fd, F⟩ := T.F_law_due_of
  refine ⟨fd, F.ok sc_law_due_of (fun vs H Q E h => h.1) (fun cdv A outer s H vs Q E hr h => ⟨t_law_due_of K E, ?_, h.2⟩), F⟩
  exact (pss_cons (ps_if (pt_cmpR op_geA (pe_callSD G_law_first_odd (hr.mono (by decide)) rfl T.g__law_first_odd D_law_first_odd.kp b_law_first_odd_1 .nil (fun σ => passAt (takes_of rfl rfl rfl rfl) σ) (pa_cons (pv 0) pa_nil)) pe_int (nomark _)) (pss_one (ps_ret (pe_tup (pa_cons pe_str (pa_cons (pe_callSD G_law_first_odd (hr.mono (by decide)) rfl T.g__law_first_odd D_law_first_odd.kp b_law_first_odd_1 .nil (fun σ => passAt (takes_of rfl rfl rfl rfl) σ) (pa_cons (pv 0) pa_nil)) pa_nil))))) pss_nil) (pss_cons (ps_if (pt_cmpR op_geA (pe_callSD G_law_first_odd (hr.mono (by decide)) rfl T.g__law_first_odd D_law_first_odd.kp b_law_first_odd_1 .nil (fun σ => passAt (takes_of rfl rfl rfl rfl) σ) (pa_cons (pv 1) pa_nil)) pe_int (nomark _)) (pss_one (ps_ret (pe_tup (pa_cons pe_str (pa_cons (pe_callSD G_law_first_odd (hr.mono (by decide)) rfl T.g__law_first_odd D_law_first_odd.kp b_law_first_odd_1 .nil (fun σ => passAt (takes_of rfl rfl rfl rfl) σ) (pa_cons (pv 1) pa_nil)) pa_nil))))) pss_nil) (pss_cons (ps_if (PW.pt (pw_or (pt_cmpR op_ltA (pe_callB c_len rfl T.f_len (by decide +kernel) (pa_cons (pv 0) pa_nil)) pe_int (nomark _)) (pw_or (pt_cmpR op_gtA (pe_callB c_len rfl T.f_len (by decide +kernel) (pa_cons (pv 0) pa_nil)) pe_int (nomark _)) (pw_or1 (pt_cmpR op_gtA (pe_callB c_len rfl T.f_len (by decide +kernel) (pa_cons (pv 1) pa_nil)) pe_int (nomark _)))))) (pss_one (ps_ret (pe_tup (pa_cons pe_str (pa_cons pe_int pa_nil))))) pss_nil) (pss_one (ps_ret (pe_tup (pa_cons pe_str (pa_cons pe_int pa_nil))))))))
/-! Rule.__str__ -/
abbrev N_Rule_str : List Str := ["self"]
def t_Rule_str (K : Frg) (E : XK) : TS :=
  (tRet (tJoined [(tFmt (tFld K (tVar 0) "left")), (tC (.str ":")), (tFmt (tFld K (tVar 0) "right"))]))
def sp_Rule_str (K : Frg) : Sp := fun vs H Q E => vs.length = 1 ∧ t_Rule_str K E { nx := fun _ H' => Q .non H', rt := Q } (start N_Rule_str vs) H
theorem sc_Rule_str : FnScope N_Rule_str ["self"] (defScope s_Rule_str) := ⟨rfl, rfl, rfl, by decide +kernel, rfl, by decide +kernel, by decide +kernel⟩
theorem ok_Rule_str (T : Txt PROG K mg) : ∃ fd, FnOk PROG w K mg base (L2.CX PROG w) 1 (Rz.pM "Rule" "__str__" K) fd ["self"] (sp_Rule_str K) ∧ FunD K "__str__" "Rule.__str__" (defArgs s_Rule_str) (defBody s_Rule_str) (defScope s_Rule_str) [] [] (Rz.pM "Rule" "__str__" K) fd := by
  obtain ⟨fd, F⟩ := T.F_Rule_str
  refine ⟨fd, F.ok sc_Rule_str (fun vs H Q E h => h.1) (fun cdv A outer s H vs Q E hr h => ⟨t_Rule_str K E, ?_, h.2⟩), F⟩
  exact (pss_one (ps_ret (pe_joined (PJ.cons (pe_fmt (pe_fld (pv 0) rfl)) (PJ.cons pe_str (PJ.cons (pe_fmt (pe_fld (pv 0) rfl)) PJ.nil))))))
/-! _law_is_int -/
abbrev N_law_is_int : List Str := ["_law_value"]
def t_law_is_int (K : Frg) (E : XK) : TS :=
  (tRet (tAndV (tCB (rIsiA K) (tCons (tVar 0) (tCons (tC (.ty "int")) tNil))) (tNotV (tCB (rIsiA K) (tCons (tVar 0) (tCons (tC (.ty "bool")) tNil))))))
def sp_law_is_int (K : Frg) : Sp := fun vs H Q E => vs.length = 1 ∧ t_law_is_int K E { nx := fun _ H' => Q .non H', rt := Q } (start N_law_is_int vs) H
theorem sc_law_is_int : FnScope N_law_is_int ["_law_value"] (defScope s_law_is_int) := ⟨rfl, rfl, rfl, by decide +kernel, rfl, by decide +kernel, by decide +kernel⟩
theorem ok_law_is_int (T : Txt PROG K mg) : ∃ fd, FnOk PROG w K mg base (L2.CX PROG w) 1 (Rz.pG "_law_is_int" K) fd ["_law_value"] (sp_law_is_int K) ∧ FunD K "_law_is_int" "_law_is_int" (defArgs s_law_is_int) (defBody s_law_is_int) (defScope s_law_is_int) [] [] (Rz.pG "_law_is_int" K) fd := by
  obtain ⟨fd, F⟩ := T.F_law_is_int
  refine ⟨fd, F.ok sc_law_is_int (fun vs H Q E h => h.1) (fun cdv A outer s H vs Q E hr h => ⟨t_law_is_int K E, ?_, h.2⟩), F⟩
  exact (pss_one (ps_ret (pe_and (pe_callB c_isi rfl T.f_isinstance (by decide +kernel) (pa_cons (pv 0) (pa_cons (pe_bltn rfl T.f_int (by decide +kernel) rfl) pa_nil))) (pe_one (pe_not (pe_callB c_isi rfl T.f_isinstance (by decide +kernel) (pa_cons (pv 0) (pa_cons (pe_bltn rfl T.f_bool (by decide +kernel) rfl) pa_nil))))))))
/-! _law_same -/
abbrev N_law_same : List Str := ["_law_told", "_law_left", "_law_right", "_law_due", "_law_rule"]
def t_law_same (K : Frg) (E : XK) : TS :=
  (tSeq (tAsg (tCallSD (sp_law_due_of K) [] (WE (W0 E)) (tCons (tVar 1) (tCons (tVar 2) tNil))) (gName 3)) (tSeq (tIfS (tTest (tOp (rNeA K) (tOp (rIx K) (tVar 0) (tC (.int 0))) (tOp (rIx K) (tVar 3) (tC (.int 0))))) (tRet (tC (.bl false))) tNext) (tSeq (tIfS (tTest (tOp (rEqA K) (tOp (rIx K) (tVar 3) (tC (.int 0))) (tC (.str "good")))) (tSeq (tAsg (tOp (rIx K) (tVar 0) (tC (.int 1))) (gName 4)) (tRet (tAndV (tCB (rIsiA K) (tCons (tFld K (tVar 4) "left") (tCons (tC (.ty "str")) tNil))) (tAndV (tOp (rEqA K) (tFld K (tVar 4) "left") (tVar 1)) (tAndV (tOp (rEqA K) (tFld K (tVar 4) "right") (tVar 2)) (tOp (rEqA K) (tStrO (He.ga K "Rule") (sp_Rule_str K) (WE (W0 E)) (tCons (tVar 4) tNil)) (tOp rAddA (tOp rAddA (tVar 1) (tC (.str ":"))) (tVar 2)))))))) tNext) (tRet (tAndV (tCallSD (sp_law_is_int K) [] (WE (W0 E)) (tCons (tOp (rIx K) (tVar 0) (tC (.int 1))) tNil)) (tOp (rEqA K) (tOp (rIx K) (tVar 0) (tC (.int 1))) (tOp (rIx K) (tVar 3) (tC (.int 1)))))))))
def sp_law_same (K : Frg) : Sp := fun vs H Q E => vs.length = 3 ∧ t_law_same K E { nx := fun _ H' => Q .non H', rt := Q } (start N_law_same vs) H
theorem sc_law_same : FnScope N_law_same ["_law_told", "_law_left", "_law_right"] (defScope s_law_same) := ⟨rfl, rfl, rfl, by decide +kernel, rfl, by decide +kernel, by decide +kernel⟩
theorem ok_law_same (T : Txt PROG K mg) : ∃ fd, FnOk PROG w K mg base (L2.CX PROG w) 4 (Rz.pG "_law_same" K) fd ["_law_told", "_law_left", "_law_right"] (sp_law_same K) ∧ FunD K "_law_same" "_law_same" (defArgs s_law_same) (defBody s_law_same) (defScope s_law_same) [] [] (Rz.pG "_law_same" K) fd := by
  obtain ⟨fd_law_due_of, G_law_due_of, D_law_due_of⟩ := ok_law_due_of (w := w) (base := base) T
  obtain ⟨fd_Rule_str, G_Rule_str, D_Rule_str⟩ := ok_Rule_str (w := w) (base := base) T
  obtain ⟨fd_law_is_int, G_law_is_int, D_law_is_int⟩ := ok_law_is_int (w := w) (base := base) T
  have b_law_due_of_2 : Binds K fd_law_due_of _ [] := D_law_due_of.bindsN (ps := ["_law_left", "_law_right"]) (fun _ _ _ _ _ _ us hl => match us, hl with | [_, _], _ => rfl)
  have b_Rule_str_1 : Binds K fd_Rule_str _ [] := D_Rule_str.bindsN (ps := ["self"]) (fun _ _ _ _ _ _ us hl => match us, hl with | [_], _ => rfl)
  have b_law_is_int_1 : Binds K fd_law_is_int _ [] := D_law_is_int.bindsN (ps := ["_law_value"]) (fun _ _ _ _ _ _ us hl => match us, hl with | [_], _ => rfl)
  obtain ⟨fd, F⟩ := T.F_law_same
  refine ⟨fd, F.ok sc_law_same (fun vs H Q E h => h.1) (fun cdv A outer s H vs Q E hr h => ⟨t_law_same K E, ?_, h.2⟩), F⟩
  exact (pss_cons (ps_set (i := 3) sc_law_same.nd rfl (by first | exact Or.inl rfl | exact Or.inr rfl) (pe_callSD G_law_due_of (hr.mono (by decide)) rfl T.g__law_due_of D_law_due_of.kp b_law_due_of_2 .nil (fun σ => passAt (takes_of rfl rfl rfl rfl) σ) (pa_cons (pv 1) (pa_cons (pv 2) pa_nil)))) (pss_cons (ps_if (pt_cmpR (op_neA hr) (pe_ix ix_seq (pv 0) pe_int (fun _ _ => rfl)) (pe_ix ix_seq (pv 3) pe_int (fun _ _ => rfl)) (nomark _)) (pss_one (ps_ret pe_bl)) pss_nil) (pss_cons (ps_if (pt_cmpR (op_eqA hr) (pe_ix ix_seq (pv 3) pe_int (fun _ _ => rfl)) pe_str (nomark _)) (pss_cons (ps_set (i := 4) sc_law_same.nd rfl (by first | exact Or.inl rfl | exact Or.inr rfl) (pe_ix ix_seq (pv 0) pe_int (fun _ _ => rfl))) (pss_one (ps_ret (pe_and (pe_callB c_isi rfl T.f_isinstance (by decide +kernel) (pa_cons (pe_fld (pv 4) rfl) (pa_cons (pe_bltn rfl T.f_str (by decide +kernel) rfl) pa_nil))) (pe_and (pe_cmpR (op_eqA hr) (pe_fld (pv 4) rfl) (pv 1) (nomark _)) (pe_and (pe_cmpR (op_eqA hr) (pe_fld (pv 4) rfl) (pv 2) (nomark _)) (pe_one (pe_cmpR (op_eqA hr) (pe_strO T.m_Rule___str__ G_Rule_str (hr.mono (by decide)) b_Rule_str_1 (fun σ => passAt (takes_of rfl rfl rfl rfl) σ) rfl T.f_str (pa_cons (pv 4) pa_nil)) (pe_op op_addA (pe_op op_addA (pv 1) pe_str) (pv 2)) (nomark _))))))))) pss_nil) (pss_one (ps_ret (pe_and (pe_callSD G_law_is_int (hr.mono (by decide)) rfl T.g__law_is_int D_law_is_int.kp b_law_is_int_1 .nil (fun σ => passAt (takes_of rfl rfl rfl rfl) σ) (pa_cons (pe_ix ix_seq (pv 0) pe_int (fun _ _ => rfl)) pa_nil)) (pe_one (pe_cmpR (op_eqA hr) (pe_ix ix_seq (pv 0) pe_int (fun _ _ => rfl)) (pe_ix ix_seq (pv 3) pe_int (fun _ _ => rfl)) (nomark _)))))))))
/-! check_text -/
abbrev N_check_text : List Str := ["text", "at", "sign"]
def t_check_text (K : Frg) (E : XK) : TS :=
  (tFor (iEnumS (tCons (tVar 0) tNil)) (gTup K 2 (gCons (gName 1) (gCons (gName 2) gNil))) (tIfS (tTest (tOp (rNotInA K) (tVar 2) (tC (.str "abcdefghijklmnopqrstuvwxyz")))) (tRaise (tMkX (He.ga K "BadSign") "at" (tCons (tVar 1) tNil)) (W0 E)) tNext))
def sp_check_text (K : Frg) : Sp := fun vs H Q E => vs.length = 1 ∧ t_check_text K E { nx := fun _ H' => Q .non H', rt := Q } (start N_check_text vs) H
theorem sc_check_text : FnScope N_check_text ["text"] (defScope s_check_text) := ⟨rfl, rfl, rfl, by decide +kernel, rfl, by decide +kernel, by decide +kernel⟩
theorem ok_check_text (T : Txt PROG K mg) : ∃ fd, FnOk PROG w K mg base (L2.CX PROG w) 1 (Rz.pG "check_text" K) fd ["text"] (sp_check_text K) ∧ FunD K "check_text" "check_text" (defArgs s_check_text) (defBody s_check_text) (defScope s_check_text) [] [] (Rz.pG "check_text" K) fd := by
  obtain ⟨fd, F⟩ := T.F_check_text
  refine ⟨fd, F.ok sc_check_text (fun vs H Q E h => h.1) (fun cdv A outer s H vs Q E hr h => ⟨t_check_text K E, ?_, h.2⟩), F⟩
  exact (pss_one (ps_for (passes_of rfl) rfl (pi_enumS rfl T.f_enumerate (pa_cons (pv 0) pa_nil)) (pg_tup rfl (pgs_cons (pg_name (i := 1) sc_check_text.nd rfl (by first | exact Or.inl rfl | exact Or.inr rfl)) (pgs_cons (pg_name (i := 2) sc_check_text.nd rfl (by first | exact Or.inl rfl | exact Or.inr rfl)) pgs_nil))) (pss_one (ps_if (pt_cmpR op_notInA (pv 2) (pe_gstr rfl T.k_SIGNS) (by rfl)) (pss_one (ps_raise rfl (takes_of rfl rfl rfl rfl) (pmk_sup1 T.x_BadSign T.f_super hr rfl T.g_BadSign (pa_cons (pv 1) pa_nil)))) pss_nil))))
/-! Rule.__init__ -/
abbrev N_Rule_init : List Str := ["self", "left", "right"]
def t_Rule_init (K : Frg) (E : XK) : TS :=
  (tSeq (tDrop (tCallSD (sp_check_text K) [] (WE (W0 E)) (tCons (tVar 1) tNil))) (tSeq (tDrop (tCallSD (sp_check_text K) [] (WE (W0 E)) (tCons (tVar 2) tNil))) (tSeq (tIfS (tOr (tNot (tTest (tChain rLeA rLeA (tC (.int 1)) (tCB (rLenA K) (tCons (tVar 1) tNil)) (tC (.int 4))))) (tTest (tOp rGtA (tCB (rLenA K) (tCons (tVar 2) tNil)) (tC (.int 4))))) (tRaise (tMkX0 (He.ga K "BadRule")) (W0 E)) tNext) (tSeq (sFld K (tVar 0) (tVar 1) "left") (sFld K (tVar 0) (tVar 2) "right")))))
def sp_Rule_init (K : Frg) : Sp := fun vs H Q E => vs.length = 3 ∧ t_Rule_init K E { nx := fun _ H' => Q .non H', rt := Q } (start N_Rule_init vs) H
theorem sc_Rule_init : FnScope N_Rule_init ["self", "left", "right"] (defScope s_Rule_init) := ⟨rfl, rfl, rfl, by decide +kernel, rfl, by decide +kernel, by decide +kernel⟩
theorem ok_Rule_init (T : Txt PROG K mg) : ∃ fd, FnOk PROG w K mg base (L2.CX PROG w) 2 (Rz.pM "Rule" "__init__" K) fd ["self", "left", "right"] (sp_Rule_init K) ∧ FunD K "__init__" "Rule.__init__" (defArgs s_Rule_init) (defBody s_Rule_init) (defScope s_Rule_init) [.str ""] [] (Rz.pM "Rule" "__init__" K) fd := by
  obtain ⟨fd_check_text, G_check_text, D_check_text⟩ := ok_check_text (w := w) (base := base) T
  have b_check_text_1 : Binds K fd_check_text _ [] := D_check_text.bindsN (ps := ["text"]) (fun _ _ _ _ _ _ us hl => match us, hl with | [_], _ => rfl)
  obtain ⟨fd, F⟩ := T.F_Rule_init
  refine ⟨fd, F.ok sc_Rule_init (fun vs H Q E h => h.1) (fun cdv A outer s H vs Q E hr h => ⟨t_Rule_init K E, ?_, h.2⟩), F⟩
  exact (pss_cons (ps_expr (pe_callSD G_check_text (hr.mono (by decide)) rfl T.g_check_text D_check_text.kp b_check_text_1 .nil (fun σ => passAt (takes_of rfl rfl rfl rfl) σ) (pa_cons (pv 1) pa_nil))) (pss_cons (ps_expr (pe_callSD G_check_text (hr.mono (by decide)) rfl T.g_check_text D_check_text.kp b_check_text_1 .nil (fun σ => passAt (takes_of rfl rfl rfl rfl) σ) (pa_cons (pv 2) pa_nil))) (pss_cons (ps_if (PW.pt (pw_or (pt_not (pt_chain op_leA op_leA pe_int (pe_callB c_len rfl T.f_len (by decide +kernel) (pa_cons (pv 1) pa_nil)) (pe_gint rfl T.k_MOST_SIGNS))) (pw_or1 (pt_cmpR op_gtA (pe_callB c_len rfl T.f_len (by decide +kernel) (pa_cons (pv 2) pa_nil)) (pe_gint rfl T.k_MOST_SIGNS) (nomark _))))) (pss_one (ps_raise rfl (takes_of rfl rfl rfl rfl) (pmk_sup0 T.x_BadRule T.f_super hr rfl T.g_BadRule))) pss_nil) (pss_cons (ps_fld (pv 0) (pv 1) rfl) (pss_one (ps_fld (pv 0) (pv 2) rfl))))))
/-! _law_try_make -/
abbrev N_law_try_make : List Str := ["_law_left", "_law_right", "e", "_law_rule"]
def t_law_try_make (K : Frg) (E : XK) : TS :=
  (tSeq (tTry K (W0 E) (fun W => (tAsg (tMakeS (He.ga K "Rule") (sp_Rule_init K) (List.drop 1 [.str ""]) (WE W) (tCons (tVar 0) (tCons (tVar 1) tNil))) (gName 3))) [⟨.ref (He.ga K "BadSign"), some 2, fun a cls d => (tRet (tTup (tCons (tC (.str "sign")) (tCons (tXf a cls d (He.ga K "BadSign") "at" (tVar 2)) tNil))))⟩, ⟨.ref (He.ga K "BadRule"), none, fun a cls d => (tRet (tTup (tCons (tC (.str "rule")) (tCons (tC (.int 0)) tNil))))⟩]) (tRet (tTup (tCons (tC (.str "good")) (tCons (tVar 3) tNil)))))
def sp_law_try_make (K : Frg) : Sp := fun vs H Q E => vs.length = 2 ∧ t_law_try_make K E { nx := fun _ H' => Q .non H', rt := Q } (start N_law_try_make vs) H
theorem sc_law_try_make : FnScope N_law_try_make ["_law_left", "_law_right"] (defScope s_law_try_make) := ⟨rfl, rfl, rfl, by decide +kernel, rfl, by decide +kernel, by decide +kernel⟩
theorem ok_law_try_make (T : Txt PROG K mg) : ∃ fd, FnOk PROG w K mg base (L2.CX PROG w) 4 (Rz.pG "_law_try_make" K) fd ["_law_left", "_law_right"] (sp_law_try_make K) ∧ FunD K "_law_try_make" "_law_try_make" (defArgs s_law_try_make) (defBody s_law_try_make) (defScope s_law_try_make) [] [] (Rz.pG "_law_try_make" K) fd := by
  obtain ⟨fd_Rule_init, G_Rule_init, D_Rule_init⟩ := ok_Rule_init (w := w) (base := base) T
  obtain ⟨ds_Rule_init_3, V_Rule_init_3, b_Rule_init_3⟩ := D_Rule_init.binds1 (ps := ["self", "left", "right"]) 3 1 (by simp) rfl (fun _ _ _ _ _ _ _ us its h1 h2 => match us, its, h1, h2 with | [_, _, _], [_], _, _ => ⟨_, rfl, rfl⟩)
  obtain ⟨fd, F⟩ := T.F_law_try_make
  refine ⟨fd, F.ok sc_law_try_make (fun vs H Q E h => h.1) (fun cdv A outer s H vs Q E hr h => ⟨t_law_try_make K E, ?_, h.2⟩), F⟩
  exact (pss_cons (ps_tryM rfl rfl sc_law_try_make.nd (takes_of rfl rfl rfl rfl) (fun W pn xe tk po => by exact (pss_one (ps_set (i := 3) sc_law_try_make.nd rfl (by first | exact Or.inl rfl | exact Or.inr rfl) (pe_makeS T.mk_Rule G_Rule_init (hr.mono (by decide)) rfl T.g_Rule b_Rule_init_3 V_Rule_init_3 (fun σ => passAt tk σ) (pa_cons (pv 0) (pa_cons (pv 1) pa_nil)))))) (HdsMix.consA (i := 2) rfl rfl ⟨rfl, by decide, Or.inl T.g_BadSign⟩ (fun a oe cls d pn hz hf => by exact (pss_one (ps_ret (pe_tup (pa_cons pe_str (pa_cons (pe_xf (T.xb_BadSign).2 T.n_BadSign_at hz hf (pv 2)) pa_nil)))))) (HdsMix.cons ⟨rfl, by decide, Or.inl T.g_BadRule⟩ (fun a oe cls d pn hz hf => by exact (pss_one (ps_ret (pe_tup (pa_cons pe_str (pa_cons pe_int pa_nil)))))) HdsMix.nil))) (pss_one (ps_ret (pe_tup (pa_cons pe_str (pa_cons (pv 3) pa_nil))))))
/-! _law_made_short -/
abbrev N_law_made_short : List Str := ["_law_left", "e", "_law_rule"]
def t_law_made_short (K : Frg) (E : XK) : TS :=
  (tSeq (tTry K (W0 E) (fun W => (tAsg (tMakeS (He.ga K "Rule") (sp_Rule_init K) (List.drop 0 [.str ""]) (WE W) (tCons (tVar 0) tNil)) (gName 2))) [⟨.ref (He.ga K "BadSign"), some 1, fun a cls d => (tRet (tTup (tCons (tC (.str "sign")) (tCons (tXf a cls d (He.ga K "BadSign") "at" (tVar 1)) tNil))))⟩, ⟨.ref (He.ga K "BadRule"), none, fun a cls d => (tRet (tTup (tCons (tC (.str "rule")) (tCons (tC (.int 0)) tNil))))⟩]) (tRet (tTup (tCons (tC (.str "good")) (tCons (tVar 2) tNil)))))
def sp_law_made_short (K : Frg) : Sp := fun vs H Q E => vs.length = 1 ∧ t_law_made_short K E { nx := fun _ H' => Q .non H', rt := Q } (start N_law_made_short vs) H
theorem sc_law_made_short : FnScope N_law_made_short ["_law_left"] (defScope s_law_made_short) := ⟨rfl, rfl, rfl, by decide +kernel, rfl, by decide +kernel, by decide +kernel⟩
theorem ok_law_made_short (T : Txt PROG K mg) : ∃ fd, FnOk PROG w K mg base (L2.CX PROG w) 4 (Rz.pG "_law_made_short" K) fd ["_law_left"] (sp_law_made_short K) ∧ FunD K "_law_made_short" "_law_made_short" (defArgs s_law_made_short) (defBody s_law_made_short) (defScope s_law_made_short) [] [] (Rz.pG "_law_made_short" K) fd := by
  obtain ⟨fd_Rule_init, G_Rule_init, D_Rule_init⟩ := ok_Rule_init (w := w) (base := base) T
  obtain ⟨ds_Rule_init_2, V_Rule_init_2, b_Rule_init_2⟩ := D_Rule_init.binds1 (ps := ["self", "left", "right"]) 2 0 (by simp) rfl (fun _ _ _ _ _ _ _ us its h1 h2 => match us, its, h1, h2 with | [_, _], [_], _, _ => ⟨_, rfl, rfl⟩)
  obtain ⟨fd, F⟩ := T.F_law_made_short
  refine ⟨fd, F.ok sc_law_made_short (fun vs H Q E h => h.1) (fun cdv A outer s H vs Q E hr h => ⟨t_law_made_short K E, ?_, h.2⟩), F⟩
  exact (pss_cons (ps_tryM rfl rfl sc_law_made_short.nd (takes_of rfl rfl rfl rfl) (fun W pn xe tk po => by exact (pss_one (ps_set (i := 2) sc_law_made_short.nd rfl (by first | exact Or.inl rfl | exact Or.inr rfl) (pe_makeS T.mk_Rule G_Rule_init (hr.mono (by decide)) rfl T.g_Rule b_Rule_init_2 V_Rule_init_2 (fun σ => passAt tk σ) (pa_cons (pv 0) pa_nil))))) (HdsMix.consA (i := 1) rfl rfl ⟨rfl, by decide, Or.inl T.g_BadSign⟩ (fun a oe cls d pn hz hf => by exact (pss_one (ps_ret (pe_tup (pa_cons pe_str (pa_cons (pe_xf (T.xb_BadSign).2 T.n_BadSign_at hz hf (pv 1)) pa_nil)))))) (HdsMix.cons ⟨rfl, by decide, Or.inl T.g_BadRule⟩ (fun a oe cls d pn hz hf => by exact (pss_one (ps_ret (pe_tup (pa_cons pe_str (pa_cons pe_int pa_nil)))))) HdsMix.nil))) (pss_one (ps_ret (pe_tup (pa_cons pe_str (pa_cons (pv 2) pa_nil))))))
/-! law -/
abbrev N_law : List Str := ["_law_script", "_law_draws", "_law_letters", "_law_left", "_law_right", "_law_kind"]
def t_law (K : Frg) (E : XK) : TS :=
  (tSeq (tAsg (tCallSD (sp_law_pool K) [] (WE (W0 E)) (tCons (tVar 0) tNil)) (gName 1)) (tSeq (tAsg (tC (.str "abcdefghijklmnopqrstuvwxyz")) (gName 2)) (tSeq (tAsg (tCallSD (sp_law_word_of K) [] (WE (W0 E)) (tCons (tVar 1) (tCons (tVar 2) (tCons (tC (.int 0)) (tCons (tC (.int 6)) tNil))))) (gName 3)) (tSeq (tAsg (tCallSD (sp_law_word_of K) [] (WE (W0 E)) (tCons (tVar 1) (tCons (tVar 2) (tCons (tC (.int 0)) (tCons (tC (.int 6)) tNil))))) (gName 4)) (tSeq (tAsg (tCallSD (sp_law_pick K) [] (WE (W0 E)) (tCons (tVar 1) (tCons (tC (.int 6)) tNil))) (gName 5)) (tSeq (tIfS (tTest (tOp (rInA K) (tVar 5) (tLst (tCons (tC (.int 1)) (tCons (tC (.int 3)) tNil))))) (tAsg (tCallSD (sp_law_spoilt K) [] (WE (W0 E)) (tCons (tVar 1) (tCons (tVar 3) tNil))) (gName 3)) tNext) (tSeq (tIfS (tTest (tOp (rInA K) (tVar 5) (tLst (tCons (tC (.int 2)) (tCons (tC (.int 3)) tNil))))) (tAsg (tCallSD (sp_law_spoilt K) [] (WE (W0 E)) (tCons (tVar 1) (tCons (tVar 4) tNil))) (gName 4)) tNext) (tSeq (tIfS (tOr (tNot (tB (tCallSD (sp_law_same K) [] (WE (W0 E)) (tCons (tCallSD (sp_law_try_make K) [] (WE (W0 E)) (tCons (tVar 3) (tCons (tVar 4) tNil))) (tCons (tVar 3) (tCons (tVar 4) tNil)))))) (tNot (tB (tCallSD (sp_law_same K) [] (WE (W0 E)) (tCons (tCallSD (sp_law_made_short K) [] (WE (W0 E)) (tCons (tVar 3) tNil)) (tCons (tVar 3) (tCons (tC (.str "")) tNil))))))) (tRet (tC (.bl false))) tNext) (tRet (tAndV (tCallSD (sp_law_same K) [] (WE (W0 E)) (tCons (tCallSD (sp_law_try_make K) [] (WE (W0 E)) (tCons (tVar 4) (tCons (tVar 3) tNil))) (tCons (tVar 4) (tCons (tVar 3) tNil)))) (tCallSD (sp_law_same K) [] (WE (W0 E)) (tCons (tCallSD (sp_law_try_make K) [] (WE (W0 E)) (tCons (tVar 3) (tCons (tVar 4) tNil))) (tCons (tVar 3) (tCons (tVar 4) tNil))))))))))))))
def sp_law (K : Frg) : Sp := fun vs H Q E => vs.length = 1 ∧ t_law K E { nx := fun _ H' => Q .non H', rt := Q } (start N_law vs) H
theorem sc_law : FnScope N_law ["_law_script"] (defScope s_law) := ⟨rfl, rfl, rfl, by decide +kernel, rfl, by decide +kernel, by decide +kernel⟩
theorem ok_law (T : Txt PROG K mg) : ∃ fd, FnOk PROG w K mg base (L2.CX PROG w) 5 (Rz.pG "law" K) fd ["_law_script"] (sp_law K) ∧ FunD K "law" "law" (defArgs s_law) (defBody s_law) (defScope s_law) [] [] (Rz.pG "law" K) fd := by
  obtain ⟨fd_law_pool, G_law_pool, D_law_pool⟩ := ok_law_pool (w := w) (base := base) T
  obtain ⟨fd_law_word_of, G_law_word_of, D_law_word_of⟩ := ok_law_word_of (w := w) (base := base) T
  obtain ⟨fd_law_pick, G_law_pick, D_law_pick⟩ := ok_law_pick (w := w) (base := base) T
  obtain ⟨fd_law_spoilt, G_law_spoilt, D_law_spoilt⟩ := ok_law_spoilt (w := w) (base := base) T
  obtain ⟨fd_law_same, G_law_same, D_law_same⟩ := ok_law_same (w := w) (base := base) T
  obtain ⟨fd_law_try_make, G_law_try_make, D_law_try_make⟩ := ok_law_try_make (w := w) (base := base) T
  obtain ⟨fd_law_made_short, G_law_made_short, D_law_made_short⟩ := ok_law_made_short (w := w) (base := base) T
  have b_law_pool_1 : Binds K fd_law_pool _ [] := D_law_pool.bindsN (ps := ["_law_script"]) (fun _ _ _ _ _ _ us hl => match us, hl with | [_], _ => rfl)
  have b_law_word_of_4 : Binds K fd_law_word_of _ [] := D_law_word_of.bindsN (ps := ["_law_draws", "_law_signs", "_law_least", "_law_greatest"]) (fun _ _ _ _ _ _ us hl => match us, hl with | [_, _, _, _], _ => rfl)
  have b_law_pick_2 : Binds K fd_law_pick _ [] := D_law_pick.bindsN (ps := ["_law_draws", "_law_many"]) (fun _ _ _ _ _ _ us hl => match us, hl with | [_, _], _ => rfl)
  have b_law_spoilt_2 : Binds K fd_law_spoilt _ [] := D_law_spoilt.bindsN (ps := ["_law_draws", "_law_text"]) (fun _ _ _ _ _ _ us hl => match us, hl with | [_, _], _ => rfl)
  have b_law_same_3 : Binds K fd_law_same _ [] := D_law_same.bindsN (ps := ["_law_told", "_law_left", "_law_right"]) (fun _ _ _ _ _ _ us hl => match us, hl with | [_, _, _], _ => rfl)
  have b_law_try_make_2 : Binds K fd_law_try_make _ [] := D_law_try_make.bindsN (ps := ["_law_left", "_law_right"]) (fun _ _ _ _ _ _ us hl => match us, hl with | [_, _], _ => rfl)
  have b_law_made_short_1 : Binds K fd_law_made_short _ [] := D_law_made_short.bindsN (ps := ["_law_left"]) (fun _ _ _ _ _ _ us hl => match us, hl with | [_], _ => rfl)
  obtain ⟨fd, F⟩ := T.F_law
  refine ⟨fd, F.ok sc_law (fun vs H Q E h => h.1) (fun cdv A outer s H vs Q E hr h => ⟨t_law K E, ?_, h.2⟩), F⟩
  exact (pss_cons (ps_set (i := 1) sc_law.nd rfl (by first | exact Or.inl rfl | exact Or.inr rfl) (pe_callSD G_law_pool (hr.mono (by decide)) rfl T.g__law_pool D_law_pool.kp b_law_pool_1 .nil (fun σ => passAt (takes_of rfl rfl rfl rfl) σ) (pa_cons (pv 0) pa_nil))) (pss_cons (ps_set (i := 2) sc_law.nd rfl (by first | exact Or.inl rfl | exact Or.inr rfl) pe_str) (pss_cons (ps_set (i := 3) sc_law.nd rfl (by first | exact Or.inl rfl | exact Or.inr rfl) (pe_callSD G_law_word_of (hr.mono (by decide)) rfl T.g__law_word_of D_law_word_of.kp b_law_word_of_4 .nil (fun σ => passAt (takes_of rfl rfl rfl rfl) σ) (pa_cons (pv 1) (pa_cons (pv 2) (pa_cons pe_int (pa_cons pe_int pa_nil)))))) (pss_cons (ps_set (i := 4) sc_law.nd rfl (by first | exact Or.inl rfl | exact Or.inr rfl) (pe_callSD G_law_word_of (hr.mono (by decide)) rfl T.g__law_word_of D_law_word_of.kp b_law_word_of_4 .nil (fun σ => passAt (takes_of rfl rfl rfl rfl) σ) (pa_cons (pv 1) (pa_cons (pv 2) (pa_cons pe_int (pa_cons pe_int pa_nil)))))) (pss_cons (ps_set (i := 5) sc_law.nd rfl (by first | exact Or.inl rfl | exact Or.inr rfl) (pe_callSD G_law_pick (hr.mono (by decide)) rfl T.g__law_pick D_law_pick.kp b_law_pick_2 .nil (fun σ => passAt (takes_of rfl rfl rfl rfl) σ) (pa_cons (pv 1) (pa_cons pe_int pa_nil)))) (pss_cons (ps_if (pt_cmpR op_inA (pv 5) (pe_lst (pa_cons pe_int (pa_cons pe_int pa_nil))) (by rfl)) (pss_one (ps_set (i := 3) sc_law.nd rfl (by first | exact Or.inl rfl | exact Or.inr rfl) (pe_callSD G_law_spoilt (hr.mono (by decide)) rfl T.g__law_spoilt D_law_spoilt.kp b_law_spoilt_2 .nil (fun σ => passAt (takes_of rfl rfl rfl rfl) σ) (pa_cons (pv 1) (pa_cons (pv 3) pa_nil))))) pss_nil) (pss_cons (ps_if (pt_cmpR op_inA (pv 5) (pe_lst (pa_cons pe_int (pa_cons pe_int pa_nil))) (by rfl)) (pss_one (ps_set (i := 4) sc_law.nd rfl (by first | exact Or.inl rfl | exact Or.inr rfl) (pe_callSD G_law_spoilt (hr.mono (by decide)) rfl T.g__law_spoilt D_law_spoilt.kp b_law_spoilt_2 .nil (fun σ => passAt (takes_of rfl rfl rfl rfl) σ) (pa_cons (pv 1) (pa_cons (pv 4) pa_nil))))) pss_nil) (pss_cons (ps_if (PW.pt (pw_or (pt_not (pt_val (pe_callSD G_law_same (hr.mono (by decide)) rfl T.g__law_same D_law_same.kp b_law_same_3 .nil (fun σ => passAt (takes_of rfl rfl rfl rfl) σ) (pa_cons (pe_callSD G_law_try_make (hr.mono (by decide)) rfl T.g__law_try_make D_law_try_make.kp b_law_try_make_2 .nil (fun σ => passAt (takes_of rfl rfl rfl rfl) σ) (pa_cons (pv 3) (pa_cons (pv 4) pa_nil))) (pa_cons (pv 3) (pa_cons (pv 4) pa_nil)))))) (pw_or1 (pt_not (pt_val (pe_callSD G_law_same (hr.mono (by decide)) rfl T.g__law_same D_law_same.kp b_law_same_3 .nil (fun σ => passAt (takes_of rfl rfl rfl rfl) σ) (pa_cons (pe_callSD G_law_made_short (hr.mono (by decide)) rfl T.g__law_made_short D_law_made_short.kp b_law_made_short_1 .nil (fun σ => passAt (takes_of rfl rfl rfl rfl) σ) (pa_cons (pv 3) pa_nil)) (pa_cons (pv 3) (pa_cons pe_str pa_nil))))))))) (pss_one (ps_ret pe_bl)) pss_nil) (pss_one (ps_ret (pe_and (pe_callSD G_law_same (hr.mono (by decide)) rfl T.g__law_same D_law_same.kp b_law_same_3 .nil (fun σ => passAt (takes_of rfl rfl rfl rfl) σ) (pa_cons (pe_callSD G_law_try_make (hr.mono (by decide)) rfl T.g__law_try_make D_law_try_make.kp b_law_try_make_2 .nil (fun σ => passAt (takes_of rfl rfl rfl rfl) σ) (pa_cons (pv 4) (pa_cons (pv 3) pa_nil))) (pa_cons (pv 4) (pa_cons (pv 3) pa_nil)))) (pe_one (pe_callSD G_law_same (hr.mono (by decide)) rfl T.g__law_same D_law_same.kp b_law_same_3 .nil (fun σ => passAt (takes_of rfl rfl rfl rfl) σ) (pa_cons (pe_callSD G_law_try_make (hr.mono (by decide)) rfl T.g__law_try_make D_law_try_make.kp b_law_try_make_2 .nil (fun σ => passAt (takes_of rfl rfl rfl rfl) σ) (pa_cons (pv 3) (pa_cons (pv 4) pa_nil))) (pa_cons (pv 3) (pa_cons (pv 4) pa_nil))))))))))))))))
end
def fa : List (Rz.Fg → Bool) := [
  fun K => (He.Fa.free "abs").ok K,
  fun K => (He.Fa.free "int").ok K,
  fun K => (He.Fa.free "range").ok K,
  fun K => (He.Fa.glo "_law_pool").ok K,
  fun K => (He.Fa.glo "_law_pick").ok K,
  fun K => (He.Fa.free "len").ok K,
  fun K => (He.Fa.glo "_law_word_of").ok K,
  fun K => (He.Fa.glo "_law_odd_sign").ok K,
  fun K => (He.Fa.glo "_law_spoilt").ok K,
  fun K => (He.Fa.glo "_law_first_odd").ok K,
  fun K => (He.Fa.glo "_law_due_of").ok K,
  fun K => (He.Fa.free "str").ok K,
  fun K => (He.Fa.cls "Rule").ok K,
  fun K => (He.Fa.noat "Rule" "left").ok K,
  fun K => (He.Fa.free "isinstance").ok K,
  fun K => (He.Fa.noat "Rule" "right").ok K,
  fun K => (He.Fa.meth "Rule" "__str__").ok K,
  fun K => (He.Fa.free "bool").ok K,
  fun K => (He.Fa.glo "_law_is_int").ok K,
  fun K => (He.Fa.free "enumerate").ok K,
  fun K => (He.Fa.str "SIGNS" "abcdefghijklmnopqrstuvwxyz").ok K,
  Rz.excB "BadSign",
  fun K => (He.Fa.noat "BadSign" "at").ok K,
  Rz.iniB PROG "BadSign",
  fun K => (He.Fa.free "super").ok K,
  fun K => (He.Fa.glo "BadSign").ok K,
  fun K => (He.Fa.glo "check_text").ok K,
  fun K => (He.Fa.int "MOST_SIGNS" 4).ok K,
  Rz.excB "BadRule",
  Rz.iniB PROG "BadRule",
  fun K => (He.Fa.glo "BadRule").ok K,
  fun K => (He.Fa.mkr "Rule").ok K,
  fun K => (He.Fa.glo "Rule").ok K,
  fun K => (He.Fa.glo "_law_try_make").ok K,
  fun K => (He.Fa.glo "_law_same").ok K,
  fun K => (He.Fa.glo "_law_made_short").ok K,
  fun K => (He.Fa.glo "law").ok K,
  fun K => (He.Fa.exm "BadSign" "BadSign" true).ok K,
  fun K => (He.Fa.exm "BadSign" "BadRule" false).ok K,
  fun K => (He.Fa.exm "BadRule" "BadSign" false).ok K,
  fun K => (He.Fa.exm "BadRule" "BadRule" true).ok K]
def d_law_pool : Rz.Dq := ⟨Rz.pG "_law_pool", "_law_pool", "_law_pool", defArgs s_law_pool, defBody s_law_pool, defScope s_law_pool, [], [], []⟩
def d_law_pick : Rz.Dq := ⟨Rz.pG "_law_pick", "_law_pick", "_law_pick", defArgs s_law_pick, defBody s_law_pick, defScope s_law_pick, [], [], []⟩
def d_law_word_of : Rz.Dq := ⟨Rz.pG "_law_word_of", "_law_word_of", "_law_word_of", defArgs s_law_word_of, defBody s_law_word_of, defScope s_law_word_of, [], [], []⟩
def d_law_odd_sign : Rz.Dq := ⟨Rz.pG "_law_odd_sign", "_law_odd_sign", "_law_odd_sign", defArgs s_law_odd_sign, defBody s_law_odd_sign, defScope s_law_odd_sign, [], [], []⟩
def d_law_spoilt : Rz.Dq := ⟨Rz.pG "_law_spoilt", "_law_spoilt", "_law_spoilt", defArgs s_law_spoilt, defBody s_law_spoilt, defScope s_law_spoilt, [], [], []⟩
def d_law_first_odd : Rz.Dq := ⟨Rz.pG "_law_first_odd", "_law_first_odd", "_law_first_odd", defArgs s_law_first_odd, defBody s_law_first_odd, defScope s_law_first_odd, [], [], []⟩
def d_law_due_of : Rz.Dq := ⟨Rz.pG "_law_due_of", "_law_due_of", "_law_due_of", defArgs s_law_due_of, defBody s_law_due_of, defScope s_law_due_of, [], [], []⟩
def d_Rule_str : Rz.Dq := ⟨Rz.pM "Rule" "__str__", "__str__", "Rule.__str__", defArgs s_Rule_str, defBody s_Rule_str, defScope s_Rule_str, [], [], []⟩
def d_law_is_int : Rz.Dq := ⟨Rz.pG "_law_is_int", "_law_is_int", "_law_is_int", defArgs s_law_is_int, defBody s_law_is_int, defScope s_law_is_int, [], [], []⟩
def d_law_same : Rz.Dq := ⟨Rz.pG "_law_same", "_law_same", "_law_same", defArgs s_law_same, defBody s_law_same, defScope s_law_same, [], [], []⟩
def d_check_text : Rz.Dq := ⟨Rz.pG "check_text", "check_text", "check_text", defArgs s_check_text, defBody s_check_text, defScope s_check_text, [], [], []⟩
def d_Rule_init : Rz.Dq := ⟨Rz.pM "Rule" "__init__", "__init__", "Rule.__init__", defArgs s_Rule_init, defBody s_Rule_init, defScope s_Rule_init, [], [.str ""], []⟩
def d_law_try_make : Rz.Dq := ⟨Rz.pG "_law_try_make", "_law_try_make", "_law_try_make", defArgs s_law_try_make, defBody s_law_try_make, defScope s_law_try_make, [], [], []⟩
def d_law_made_short : Rz.Dq := ⟨Rz.pG "_law_made_short", "_law_made_short", "_law_made_short", defArgs s_law_made_short, defBody s_law_made_short, defScope s_law_made_short, [], [], []⟩
def d_law : Rz.Dq := ⟨Rz.pG "law", "law", "law", defArgs s_law, defBody s_law, defScope s_law, [], [], []⟩
def d_BadSign_init : Rz.Dq := ⟨Rz.pM "BadSign" "__init__", "__init__", "BadSign.__init__", defArgs s_BadSign_init, defBody s_BadSign_init, defScope s_BadSign_init, ["__class__"], [], []⟩
def d_BadRule_init : Rz.Dq := ⟨Rz.pM "BadRule" "__init__", "__init__", "BadRule.__init__", defArgs s_BadRule_init, defBody s_BadRule_init, defScope s_BadRule_init, ["__class__"], [], []⟩
def fn : List Rz.Dq := [d_law_pool, d_law_pick, d_law_word_of, d_law_odd_sign, d_law_spoilt, d_law_first_odd, d_law_due_of, d_Rule_str, d_law_is_int, d_law_same, d_check_text, d_Rule_init, d_law_try_make, d_law_made_short, d_law, d_BadSign_init, d_BadRule_init]
theorem txt_of {K : Frg} {h : Heap} {mg : Str → Option Value} (KX : K.In h) (G : h.Ns mainGlobals mg) (c : Rz.SaysR fa fn K) : Txt PROG K mg where
  f_abs := He.free_ok KX G (c.fact 0)
  f_int := He.free_ok KX G (c.fact 1)
  f_range := He.free_ok KX G (c.fact 2)
  F_law_pool := c.fun_ 0
  g__law_pool := He.glo_ok KX G (c.fact 3)
  F_law_pick := c.fun_ 1
  g__law_pick := He.glo_ok KX G (c.fact 4)
  f_len := He.free_ok KX G (c.fact 5)
  F_law_word_of := c.fun_ 2
  g__law_word_of := He.glo_ok KX G (c.fact 6)
  F_law_odd_sign := c.fun_ 3
  g__law_odd_sign := He.glo_ok KX G (c.fact 7)
  F_law_spoilt := c.fun_ 4
  g__law_spoilt := He.glo_ok KX G (c.fact 8)
  F_law_first_odd := c.fun_ 5
  g__law_first_odd := He.glo_ok KX G (c.fact 9)
  F_law_due_of := c.fun_ 6
  g__law_due_of := He.glo_ok KX G (c.fact 10)
  f_str := He.free_ok KX G (c.fact 11)
  c_Rule := He.cls_ok (c.fact 12)
  n_Rule_left := He.noat_ok (c.fact 13)
  f_isinstance := He.free_ok KX G (c.fact 14)
  n_Rule_right := He.noat_ok (c.fact 15)
  F_Rule_str := c.fun_ 7
  m_Rule___str__ := He.meth_ok (c.fact 16)
  f_bool := He.free_ok KX G (c.fact 17)
  F_law_is_int := c.fun_ 8
  g__law_is_int := He.glo_ok KX G (c.fact 18)
  F_law_same := c.fun_ 9
  f_enumerate := He.free_ok KX G (c.fact 19)
  k_SIGNS := He.str_ok KX G (c.fact 20)
  xb_BadSign := Rz.excB_ok (c.fact 21)
  n_BadSign_at := He.noat_ok (c.fact 22)
  x_BadSign := ⟨(Rz.excB_ok (c.fact 21)).1, He.noat_ok (c.fact 22), _, _, _, _, _, ("at" : Str), _, _, _, _, _, _, _, _, _, _, _, _, (Rz.iniB_ok (c.fact 23) (by decide +kernel) rfl (c.def_ 15).1 (c.def_ 15).2 rfl rfl), ⟨⟨rfl, by decide +kernel, by decide +kernel, by decide +kernel, ⟨_, rfl, rfl⟩, by decide +kernel⟩, by decide +kernel, by decide +kernel, by decide +kernel⟩, fun _ _ => ⟨_, rfl, rfl⟩, rfl, rfl, fun _ _ _ _ _ _ _ _ _ _ => rfl⟩
  f_super := He.free_ok KX G (c.fact 24)
  g_BadSign := He.glo_ok KX G (c.fact 25)
  F_check_text := c.fun_ 10
  g_check_text := He.glo_ok KX G (c.fact 26)
  k_MOST_SIGNS := He.int_ok KX G (c.fact 27)
  xb_BadRule := Rz.excB_ok (c.fact 28)
  x_BadRule := ⟨(Rz.excB_ok (c.fact 28)).1, _, _, _, _, _, _, _, _, _, _, _, _, _, (Rz.iniB_ok (c.fact 29) (by decide +kernel) rfl (c.def_ 16).1 (c.def_ 16).2 rfl rfl), ⟨rfl, by decide +kernel, by decide +kernel, by decide +kernel, ⟨_, rfl, rfl⟩, by decide +kernel⟩, fun _ _ => ⟨_, rfl, rfl⟩, rfl, rfl, fun _ _ _ _ _ _ _ _ _ => rfl⟩
  g_BadRule := He.glo_ok KX G (c.fact 30)
  F_Rule_init := c.fun_ 11
  mk_Rule := He.mkr_ok (c.fact 31)
  g_Rule := He.glo_ok KX G (c.fact 32)
  F_law_try_make := c.fun_ 12
  g__law_try_make := He.glo_ok KX G (c.fact 33)
  g__law_same := He.glo_ok KX G (c.fact 34)
  F_law_made_short := c.fun_ 13
  g__law_made_short := He.glo_ok KX G (c.fact 35)
  F_law := c.fun_ 14
  g_law := He.glo_ok KX G (c.fact 36)
  e_BadSign_BadSign := He.exm_ok (c.fact 37)
  e_BadSign_BadRule := He.exm_ok (c.fact 38)
  e_BadRule_BadSign := He.exm_ok (c.fact 39)
  e_BadRule_BadRule := He.exm_ok (c.fact 40)
/- law: level 5, top 32 of 33 -/
end Lw

namespace Lw
open PySem PySem.Spec PyProof.Rows L2
/-! heaps -/
/-- all but what stands at d is as it was -/
def Keep (d : Addr) (H H' : Hp) : Prop := ∀ b o, b ≠ d → H b = some o → H' b = some o
theorem Keep.refl {d : Addr} {H : Hp} : Keep d H H := fun _ _ _ h => h
theorem Keep.trans {d : Addr} {H H1 H2 : Hp} (a : Keep d H H1) (b : Keep d H1 H2) : Keep d H H2 := fun c o n h => b c o n (a c o n h)
theorem Keep.new {d p : Addr} {H : Hp} {o : HO} (h : H p = none) : Keep d H (upd H p o) := fun b u _ e => by rw [upd_ne (ne_of_none e h)]; exact e
theorem Keep.at_ {d : Addr} {H : Hp} {o : HO} : Keep d H (upd H d o) := fun b u n e => by rw [upd_ne n]; exact e
theorem Keep.free {d p : Addr} {H H' : Hp} (k : Keep d H H') (hp : p ≠ d) (h : H' p = none) : H p = none := by
  cases e : H p with
  | none => rfl
  | some o => rw [k p o hp e] at h; cases h
theorem Keep.same {d : Addr} {H H' : Hp} (s : Same H H') : Keep d H H' := fun b o _ e => s b o e
theorem Keep.eq_ {d : Addr} {H H' : Hp} (k : Keep d H H') {b : Addr} {o : HO} (h : H b = some o) (n : b ≠ d) : H' b = some o := k b o n h
theorem Same.new {p : Addr} {H : Hp} {o : HO} (h : H p = none) : Same H (upd H p o) := fun b u e => by rw [upd_ne (ne_of_none e h)]; exact e
/-- the draws: a list of ints at d, at most 4000 -/
def DrL (H : Hp) (d : Addr) : Prop := ∃ ds : List Int, ds.length ≤ 4000 ∧ H d = some (.lst (ds.map V.int))
theorem DrL.same {H H' : Hp} {d : Addr} (h : DrL H d) (s : Same H H') : DrL H' d := let ⟨ds, a, b⟩ := h; ⟨ds, a, s _ _ b⟩
theorem small2 {n : Nat} (h : n ≤ 16777216) : n ≤ sizeLine := by rw [sizeLine_eq]; exact h
theorem nilData {K : Frg} {H : Hp} {p : Addr} (h : H p = some (.lst [])) : Dp K H (.ref p) (.list []) := .lst (SqL.of h) .nil
theorem intsData {K : Frg} {H : Hp} : ∀ ds : List Int, DpAll K H (ds.map V.int) (ds.map PyData.int)
  | [] => .nil
  | i :: r => .cons (.int i) (intsData r)
theorem canLay_ints : ∀ ds : List Int, PyData.canLayAll0 (ds.map PyData.int) = true
  | [] => by simp [PyData.canLayAll0]
  | i :: r => by simp [PyData.canLayAll0, PyData.canLay0, canLay_ints r]
theorem depth_ints : ∀ ds : List Int, PyData.depthAll (ds.map PyData.int) = 0
  | [] => by simp [PyData.depthAll]
  | i :: r => by simp [PyData.depthAll, PyData.depth, depth_ints r]
theorem shaped_ints (ds : List Int) : SeqAt.shaped (.list (ds.map PyData.int)) = true := by
  simp [SeqAt.shaped, PyData.canLay0, canLay_ints, PyData.depth, depth_ints]
theorem eqv_nil (ds : List Int) : PyData.eqv (.list (ds.map PyData.int)) (.list []) = ds.isEmpty := by
  cases ds <;> simp [PyData.eqv, PyData.eqvAll]
theorem rd_bm {K : Frg} {T : String} {r : V → List V → Hp → VK → Prop} {to : TE} {t : TA} {σ : L2.St} {H : Hp} {Q : VK} (h : to σ H fun x H1 => tyV K T x H1 ∧ t σ H1 fun xs H2 => r x xs H2 Q) : tBM K T r to t σ H Q := h
theorem tyL {K : Frg} {H : Hp} {a : Addr} {xs : List V} (h : H a = some (.lst xs)) : tyV K "list" (.ref a) H := Or.inl ⟨rfl, _, Or.inl (Or.inl h)⟩
theorem append_go {H : Hp} {l : Addr} {xs : List V} {y : V} {Q : VK} (h : H l = some (.lst xs)) (hz : xs.length < 16777216) (q : Q .non (upd H l (.lst (xs ++ [y])))) : rAppend (.ref l) [y] H Q := ⟨l, xs, y, rfl, rfl, h, by rw [sizeLine_eq]; exact hz, q⟩
theorem mapI_app (ds : List Int) (i : Int) : ds.map V.int ++ [V.int i] = (ds ++ [i]).map V.int := by simp
theorem getI {ns : List Int} {i : Nat} {x : V} (h : (ns.map V.int)[i]? = some x) : ∃ z, ns[i]? = some z ∧ x = .int z := by
  rw [List.getElem?_map] at h
  cases e : ns[i]? with
  | none => rw [e] at h; cases h
  | some z => rw [e] at h; exact ⟨z, rfl, (Option.some.inj h).symm⟩
theorem rd_for {wi : TI} {g : TG} {tb : TS} {D : Ends} {σ : L2.St} {H : Hp} (h : wi σ H fun J H1 => ∃ W : Nat → Nat → L2.St → Hp → Prop, (∃ m, W 0 m σ H1) ∧ ∀ i m σ H, W i m σ H →
  (J.stop i H ∧ D.nx σ H) ∨ (J.go i H ∧ ∃ N : L2.St → Hp → Prop, (∀ σ' H', N σ' H' → ∃ m', m' < m ∧ W (i + 1) m' σ' H') ∧ ∀ x H', J.yld i H x H' → g x σ H' fun σ2 H2 => tb { D with nx := N, ct := N, bk := D.nx } σ2 H2)) : tFor wi g tb D σ H := h
theorem rd_rng1 {ta : TA} {σ : L2.St} {H : Hp} {R : It → Hp → Prop} (h : ta σ H fun vs H1 => ∃ j : Int, vs = [.int j] ∧ -(2 ^ 62) ≤ j ∧ j < 2 ^ 62 ∧ R (Itr 0 j.toNat) H1) : iRng1 ta σ H R := h
theorem rd_iList {K : Frg} {tl : TE} {σ : L2.St} {H : Hp} {R : It → Hp → Prop} (h : tl σ H fun x H1 => ∃ a, x = .ref a ∧ (∃ xs, SqL K H1 a xs) ∧ R (Itl K a) H1) : iList K tl σ H R := h
theorem mulS {i j : Int} (h1 : -1000000 ≤ j) (h2 : j ≤ 1000000) : CMul i j := .inr ⟨by omega, by omega⟩
theorem mulS' {i j : Int} (h1 : -1000000 ≤ i) (h2 : i ≤ 1000000) : CMul i j := .inl ⟨by omega, by omega⟩
theorem rd_enumS {ta : TA} {σ : L2.St} {H : Hp} {R : It → Hp → Prop} (h : ta σ H fun vs H1 => ∃ x, vs = [.str x] ∧ R (Ites x) H1) : iEnumS ta σ H R := h
theorem rd_gtup {K : Frg} {n : Nat} {t : TGs} {a : Addr} {xs : List V} {σ : L2.St} {H : Hp} {Q : L2.St → Hp → Prop} (h : H a = some (.tup xs)) (hl : xs.length = n) (q : t xs σ H Q) : gTup K n t (.ref a) σ H Q := ⟨a, xs, rfl, SqT.of h, hl, q⟩
theorem rd_gcons {t : TG} {u : TGs} {v : V} {r : List V} {σ : L2.St} {H : Hp} {Q : L2.St → Hp → Prop} (h : t v σ H fun σ' H' => u r σ' H' Q) : gCons t u (v :: r) σ H Q := ⟨v, r, rfl, h⟩
theorem rd_gnil {σ : L2.St} {H : Hp} {Q : L2.St → Hp → Prop} (h : Q σ H) : gNil [] σ H Q := ⟨rfl, h⟩
theorem rd_sfld {K : Frg} {ta tv : TE} {f : Str} {D : Ends} {σ : L2.St} {H : Hp} (h : tv σ H fun y H1 => ta σ H1 fun x H2 => ∃ a C dx fs, x = .ref a ∧ H2 a = some (.ins C dx fs) ∧ Cls K C ∧ NoAttr K C f ∧ fs.length < 1000 ∧ D.nx σ (upd H2 a (.ins C dx (putF f y fs)))) : sFld K ta tv f D σ H := h
theorem rd_m1 {r : V → List V → Hp → VK → Prop} {to te : TE} {σ : L2.St} {H : Hp} {Q : VK} (h : to σ H fun x H1 => (∃ a, x = .str a) ∧ te σ H1 fun y H2 => r x [y] H2 Q) : tM1 r to te σ H Q := h
theorem rd_lc {wi : TI} {g : TG} {tt : TT} {te : TE} {vs : List Nat} {σ : L2.St} {H : Hp} {Q : VK} (h : wi σ H fun J H1 => ∀ D, H1 D = none → ∃ W : Nat → Nat → Hp → Prop, (∃ m, W 0 m (upd H1 D (.lst []))) ∧ ∀ i m H, W i m H →
  (J.stop i H ∧ Q (.ref D) H) ∨ (J.go i H ∧ ∃ Nx : Hp → Prop, (∀ H', Nx H' → ∃ m', m' < m ∧ W (i + 1) m' H') ∧ ∀ x H', J.yld i H x H' → g x (wipe σ vs) H' fun σ2 H2 => wipe σ2 vs = wipe σ vs ∧ tt σ2 H2 fun b H3 =>
    if b = true then te σ2 H3 fun y H4 => ∃ acc, H4 D = some (.lst acc) ∧ acc.length < sizeLine ∧ Nx (upd H4 D (.lst (acc ++ [y]))) else Nx H3)) : tLc wi g tt te vs σ H Q := h
theorem rd_make {C : Addr} {sp : Sp} {dvs : List V} {EE : L2.St → XK} {tl : TA} {σ : L2.St} {H : Hp} {Q : VK} (h : tl σ H fun vs H1 => ∀ y dx, H1 y = none → H1 dx = none → dx ≠ y → sp (.ref y :: (vs ++ dvs)) (upd (upd H1 dx (.own y)) y (.ins C dx [])) (fun v H2 => v = .non ∧ Q (.ref y) H2) (EE σ)) :
    tMakeS C sp dvs EE tl σ H Q := h
theorem rd_fld {K : Frg} {ta : TE} {f : Str} {σ : L2.St} {H : Hp} {Q : VK} (h : ta σ H fun x H1 => ∃ a C dx fs v, x = .ref a ∧ H1 a = some (.ins C dx fs) ∧ Cls K C ∧ NoAttr K C f ∧ fs.lookup f = some v ∧ Q v H1) : tFld K ta f σ H Q := h
theorem rd_strO {C : Addr} {sp : Sp} {EE : L2.St → XK} {tl : TA} {σ : L2.St} {H : Hp} {Q : VK} (h : tl σ H fun vs H1 => ∃ a dx fs, vs = [.ref a] ∧ H1 a = some (.ins C dx fs) ∧ sp [.ref a] H1 (fun v H' => ∃ z, v = .str z ∧ Q (.str z) H') (EE σ)) : tStrO C sp EE tl σ H Q := h
theorem rd_xf {a : Addr} {cls : Value} {d : Option Addr} {C : Addr} {f : Str} {te : TE} {σ : L2.St} {H : Hp} {Q : VK} (h : te σ H fun x H1 => x = .ref a ∧ cls = .ref C ∧ ∃ (dd : Addr) (fs : List (Str × V)) (v : V), d = some dd ∧ H1 dd = some (.xd fs) ∧ fs.lookup f = some v ∧ Q v H1) : tXf a cls d C f te σ H Q := h
theorem rd_fmt {te : TE} {σ : L2.St} {H : Hp} {Q : VK} (h : te σ H fun x H1 => (∃ y : Str, x = .str y ∧ y.length ≤ sizeLine ∧ Q (.str y) H1) ∨ ∃ i : Int, x = .int i ∧ i.natAbs.log2 < 1920 ∧ Q (.str (toString i)) H1) : tFmt te σ H Q := h
theorem rd_prop {C : Addr} {sp : Sp} {dvs : List V} {E : XK} {ta : TE} {σ : L2.St} {H : Hp} {Q : VK} (h : ta σ H fun x H1 => ∃ a dx fs, x = .ref a ∧ H1 a = some (.ins C dx fs) ∧ sp (.ref a :: dvs) H1 Q E) : tProp C sp dvs E ta σ H Q := h
theorem rd_meth {C : Addr} {m : Str} {sp : Sp} {dvs : List V} {EE : L2.St → XK} {ta : TE} {tl : TA} {σ : L2.St} {H : Hp} {Q : VK} (h : ta σ H fun y H1 => ∃ a dx fs, y = .ref a ∧ H1 a = some (.ins C dx fs) ∧ fs.lookup m = none ∧ tl σ H1 fun vs H2 => sp (y :: (vs ++ dvs)) H2 Q (EE σ)) : tMethS C m sp dvs EE ta tl σ H Q := h
/-- an exception at the clauses -/
theorem mix_hit {K : Frg} {W : WX} {D : Ends} {q : Clause} {r : List Clause} {cls : Value} {d : Option Addr} {σ : L2.St} {H : Hp} (e : PySem.W.exmOne K cls q.c = some true) (h : ∀ a, H a = none → q.does cls d D σ H a) : wMix K W D (q :: r) cls d σ H :=
  ⟨true, e, fun _ => h, fun z => Bool.noConfusion z⟩
theorem mix_miss {K : Frg} {W : WX} {D : Ends} {q : Clause} {r : List Clause} {cls : Value} {d : Option Addr} {σ : L2.St} {H : Hp} (e : PySem.W.exmOne K cls q.c = some false) (h : wMix K W D r cls d σ H) : wMix K W D (q :: r) cls d σ H :=
  ⟨false, e, fun z => Bool.noConfusion z, fun _ => h⟩
theorem rd_tjs {t : TE} {ts : List TE} {acc : Str} {σ : L2.St} {H : Hp} {R : Str → Hp → Prop} (h : t σ H fun x H1 => ∃ y : Str, x = .str y ∧ (acc ++ y).length ≤ sizeLine ∧ tJs ts (acc ++ y) σ H1 R) : tJs (t :: ts) acc σ H R := h
theorem rd_tjs0 {acc : Str} {σ : L2.St} {H : Hp} {R : Str → Hp → Prop} (h : R acc H) : tJs [] acc σ H R := h
theorem rd_iteB {b : Bool} {A B : Prop} (e : b = true) (h : A) : if b = true then A else B := by rw [e]; exact h
theorem rd_iteC {b : Bool} {A B : Prop} (e : b = false) (h : B) : if b = true then A else B := by rw [e]; exact h
theorem does_some {c : Value} {i : Nat} {ts : TSu} {cls : Value} {d : Option Addr} {D : Ends} {σ : L2.St} {H : Hp} {a : Addr} (h : ts a cls d (D.drop i) (σ.set i (some (.ref a))) H) : (Clause.mk c (some i) ts).does cls d D σ H a := h
theorem does_none {c : Value} {ts : TSu} {cls : Value} {d : Option Addr} {D : Ends} {σ : L2.St} {H : Hp} {a : Addr} (h : ts a cls d D σ H) : (Clause.mk c none ts).does cls d D σ H a := h
/-! texts as lists of codes -/
def tx (l : List Nat) : Str := ⟨l.toArray⟩
theorem tx_toList (l : List Nat) : (tx l).cps.toList = l := by simp [tx]
theorem tx_self (z : Str) : tx z.cps.toList = z := by obtain ⟨c⟩ := z; simp [tx]
theorem tx_len (l : List Nat) : (tx l).length = l.length := by simp [tx, Str.length]
theorem tx_one (c : Nat) : tx [c] = ⟨#[c]⟩ := rfl
theorem tx_inj {l m : List Nat} : tx l = tx m ↔ l = m := ⟨fun h => by have := congrArg (fun z : Str => z.cps.toList) h; simpa [tx] using this, fun h => by rw [h]⟩
theorem tx_app (l m : List Nat) : tx l ++ tx m = tx (l ++ m) := by
  show (⟨l.toArray ++ m.toArray⟩ : Str) = _
  simp [tx]
theorem joinL_nil : ∀ ps : List (List Nat), TL.joinL [] ps = ps.flatten
  | [] => rfl
  | [p] => by simp [TL.joinL]
  | p :: q :: r => by
    show p ++ ([] ++ TL.joinL [] (q :: r)) = _
    rw [joinL_nil (q :: r)]
    simp
theorem flat_one : ∀ cs : List Nat, (cs.map fun c => [c]).flatten = cs
  | [] => rfl
  | c :: r => by rw [List.map_cons, List.flatten_cons, flat_one r]; rfl
theorem join_tx (ps : List (List Nat)) : Txt.join (Str.ofString "") (ps.map tx) = tx ps.flatten := by
  rw [TL.join_eq]
  have h := TL.tl_join (Str.ofString "") (ps.map tx)
  have e : (ps.map tx).map TL.tl = ps := by
    rw [List.map_map]
    conv => rhs; rw [← List.map_id ps]
    apply List.map_congr_left
    intro l _
    exact tx_toList l
  rw [e, show TL.tl (Str.ofString "") = [] from rfl, joinL_nil] at h
  rw [← h]
  exact (tx_self _).symm
theorem sIx_none (n d : Nat) : HT.sIx n d none = d := rfl
theorem sIx_nat (n d k : Nat) (h : k ≤ n) : HT.sIx n d (some (k : Int)) = k := by
  rw [HT.sIx_nat]
  omega
theorem cut_to (l : List Nat) (k : Nat) (h : k ≤ l.length) : cutS (tx l) none (some (k : Int)) = tx (l.take k) := by
  unfold cutS
  rw [tx_toList, tx_len, sIx_none, sIx_nat _ _ _ h]
  rfl
theorem cut_from (l : List Nat) (k : Nat) (h : k ≤ l.length) : cutS (tx l) (some (k : Int)) none = tx (l.drop k) := by
  unfold cutS
  rw [tx_toList, tx_len, sIx_none, sIx_nat _ _ _ h]
  rw [List.take_of_length_le (by rw [List.length_drop]; exact Nat.le_refl _)]
  rfl
theorem cut_mid (l : List Nat) (i j : Nat) (hi : i ≤ l.length) (hj : j ≤ l.length) : cutS (tx l) (some (i : Int)) (some (j : Int)) = tx ((l.drop i).take (j - i)) := by
  unfold cutS
  rw [tx_toList, tx_len, sIx_nat _ _ _ hi, sIx_nat _ _ _ hj]
  rfl
/-- the 26 letters -/
def letters : List Nat := (Str.ofString "abcdefghijklmnopqrstuvwxyz").cps.toList
/-- the first place that is no letter; -1 if there is none -/
def fo : List Nat → Int
  | [] => -1
  | c :: r => if c ∈ letters then (if fo r < 0 then -1 else fo r + 1) else 0
theorem fo_ge : ∀ l, -1 ≤ fo l
  | [] => Int.le_refl _
  | c :: r => by
    have := fo_ge r
    unfold fo
    split
    · split <;> omega
    · omega
theorem fo_lt : ∀ l, fo l < l.length ∨ fo l = -1
  | [] => .inr rfl
  | c :: r => by
    have := fo_lt r
    have := fo_ge r
    unfold fo
    simp only [List.length_cons]
    split
    · split <;> omega
    · omega
/-- the first i are letters, and the next is none -/
theorem fo_at : ∀ (l : List Nat) (i : Nat) (c : Nat), (∀ (j x : Nat), j < i → l[j]? = some x → x ∈ letters) → l[i]? = some c → c ∉ letters → fo l = i
  | [], i, c, _, h, _ => by simp at h
  | x :: r, 0, c, _, h, hc => by
    have e : x = c := Option.some.inj h
    unfold fo
    rw [e, if_neg hc]
    rfl
  | x :: r, i + 1, c, hp, h, hc => by
    have hx : x ∈ letters := hp 0 x (Nat.succ_pos _) rfl
    have := fo_at r i c (fun j y hj e => hp (j + 1) y (Nat.succ_lt_succ hj) e) h hc
    unfold fo
    rw [if_pos hx, this, if_neg (by omega)]
    omega
theorem fo_none : ∀ (l : List Nat), (∀ (j x : Nat), l[j]? = some x → x ∈ letters) → fo l = -1
  | [], _ => rfl
  | x :: r, hp => by
    have hx : x ∈ letters := hp 0 x rfl
    have := fo_none r (fun j y e => hp (j + 1) y e)
    unfold fo
    rw [if_pos hx, this]
    rfl
theorem tx_get (l : List Nat) (i : Nat) : (tx l).cps[i]? = l[i]? := by simp [tx]
theorem rd_iteG {b : Bool} {A B : Prop} (h1 : b = true → A) (h2 : b = false → B) : if b = true then A else B := by cases b with | true => exact h1 rfl | false => exact h2 rfl
local macro_rules | `(tactic| walk_at "rd") => `(tactic| first
  | (with_reducible refine rd_seq ?_) | (with_reducible refine rd_asg ?_) | (with_reducible refine rd_name ?_) | (with_reducible refine rd_drop ?_) | (with_reducible refine rd_ret ?_) | (with_reducible refine rd_retN ?_) | (with_reducible refine rd_next ?_)
  | (with_reducible refine rd_ifS ?_)
  | ((with_reducible show tVar _ _ _ _); refine rd_var rfl ?_)
  | (with_reducible refine rd_c ?_) | (with_reducible refine rd_op ?_) | (with_reducible refine rd_un ?_) | (with_reducible refine rd_neg ?_) | (with_reducible refine rd_cb ?_) | (with_reducible refine rd_nil ?_) | (with_reducible refine rd_cons ?_)
  | (with_reducible refine rd_test ?_) | (with_reducible refine rd_tb ?_) | ((with_reducible show ∃ k, V.bl _ = V.bl k ∧ _); refine ⟨_, rfl, ?_⟩) | (with_reducible refine rd_and ?_) | (with_reducible refine rd_or ?_) | (with_reducible refine rd_not ?_)
  | (with_reducible refine rd_andV ?_) | (with_reducible refine rd_orV ?_) | (with_reducible refine rd_notV ?_) | (with_reducible refine rd_ifE ?_)
  | (with_reducible refine rd_tup ?_) | (with_reducible refine rd_lst ?_) | (with_reducible refine rd_call ?_) | (with_reducible refine rd_joined ?_)
  | (with_reducible refine rd_raise ?_) | (with_reducible refine rd_mkx ?_) | (with_reducible refine rd_mkx0 ?_) | (with_reducible refine rd_try ?_)
  | (with_reducible refine rd_sl ?_) | (with_reducible refine rd_nopart ?_) | (with_reducible refine rd_part ?_) | ((with_reducible show ∃ k, V.int _ = V.int k ∧ _); refine ⟨_, rfl, ?_⟩) | (with_reducible refine rd_chain ?_) | (with_reducible refine rd_yes ?_)
  | (with_reducible refine rd_iteT ?_) | (with_reducible refine rd_iteF ?_)
  | (with_reducible refine addA_int ?_) | (with_reducible refine i0_go ?_) | (with_reducible refine ltA_int ?_) | (with_reducible refine eqA_int ?_) | (with_reducible refine neA_int ?_) | (with_reducible refine eqA_str ?_) | (with_reducible refine neA_str ?_)
  | ((with_reducible refine mulA_int ?c ?_); case c => first | exact mulS (by omega) (by omega) | exact mulS' (by omega) (by omega))
  | ((with_reducible refine i_go ?c ?_); case c => first | ((with_reducible show (0 : Int) < _); omega) | exact ⟨by decide, by decide⟩ | exact ⟨by decide, by decide, by decide⟩)
  | (with_reducible refine intA_int ?_) | (with_reducible refine rd_bm ?_) | (with_reducible refine rd_for ?_) | (with_reducible refine rd_rng1 ?_) | (with_reducible refine rd_iList ?_) | (with_reducible refine rd_enumS ?_) | (with_reducible refine rd_gcons ?_) | (with_reducible refine rd_gnil ?_) | (with_reducible refine rd_sfld ?_) | (with_reducible refine rd_m1 ?_) | (with_reducible refine rd_lc ?_) | (with_reducible refine rd_make ?_) | (with_reducible refine rd_fld ?_)
  | (with_reducible refine rd_strO ?_) | (with_reducible refine rd_xf ?_) | (with_reducible refine rd_fmt ?_) | (with_reducible refine rd_prop ?_) | (with_reducible refine rd_meth ?_) | (with_reducible refine does_some ?_) | (with_reducible refine does_none ?_) | ((with_reducible show List.length _ ≤ sizeLine ∧ _); refine ⟨small2 (by simp), ?_⟩)
  | (with_reducible refine rd_tjs ?_) | (with_reducible refine rd_tjs0 ?_))
local macro_rules | `(tactic| walk_at "go") => `(tactic| repeat walk_at "rd")
local macro_rules | `(tactic| walk_at "all") => `(tactic| repeat' (first
  | walk_at "rd"
  | ((with_reducible show if _ = true then _ else _); first | refine rd_iteB rfl ?_ | refine rd_iteC rfl ?_ | refine rd_ite (fun _ => ?_) (fun _ => ?_) | refine rd_iteN (fun _ => ?_) (fun _ => ?_) | refine rd_iteG (fun _ => ?_) (fun _ => ?_))))
variable {K : Frg}
/-! the draws -/
theorem pick_ok {d : Addr} {m : Int} {H : Hp} {Q : VK} {E : XK} (hm : 0 < m) (hd : DrL H d) (h : ∀ r H', 0 ≤ r → r < m → Keep d H H' → DrL H' d → Q (.int r) H') : sp_law_pick K [.ref d, .int m] H Q E := by
  obtain ⟨ds, hl, hd⟩ := hd
  refine ⟨rfl, ?_⟩
  unfold t_law_pick
  walk_at "go"
  intro p hp
  have hdp : (upd H p (.lst [])) d = some (.lst (ds.map V.int)) := by rw [upd_ne (ne_of_none hd hp)]; exact hd
  refine eqA_data (.lst (SqL.of hdp) (intsData ds)) (nilData upd_same) (shaped_ints ds) (shaped_ints []) (eqv_nil ds) ⟨_, rfl, ?_⟩
  cases ds with
  | nil =>
    refine rd_iteT ?_
    walk_at "go"
    exact h 0 _ (by omega) hm (Keep.new hp) ⟨[], Nat.zero_le _, hdp⟩
  | cons i r =>
    refine rd_iteF ?_
    walk_at "go"
    refine ⟨tyL hdp, ?_⟩
    walk_at "go"
    refine ⟨d, _, 0, 0, .int i, rfl, rfl, hdp, by decide, by decide, ?_, rfl, ?_⟩
    · show seqIndex? 0 (List.length ((i :: r).map V.int)) = some 0
      simp [seqIndex?]
    · walk_at "go"
      refine h _ _ (Int.emod_nonneg _ (by omega)) (Int.emod_lt_of_pos _ hm) ((Keep.new hp).trans Keep.at_) ⟨r, Nat.le_of_succ_le hl, ?_⟩
      rw [upd_same]
      rfl

theorem pool_ok {a : Addr} {ns : List Int} {H : Hp} {Q : VK} {E : XK} (hS : SqL K H a (ns.map V.int)) (hn : ns.length ≤ 63) (h : ∀ d H', Same H H' → H d = none → DrL H' d → Q (.ref d) H') : sp_law_pool K [.ref a] H Q E := by
  refine ⟨rfl, ?_⟩
  unfold t_law_pool
  walk_at "go"
  intro d hd
  walk_at "go"
  refine ⟨a, rfl, ⟨_, (Same.new hd).seq hS⟩, ?_⟩
  refine for_list (K := K) (a := a) (xs := ns.map V.int) (fun i σ H2 => ∃ (seed : Int) (v3 v4 v5 v6 : Option V) (ds : List Int), σ = [some (.ref a), some (.ref d), some (.int seed), v3, v4, v5, v6] ∧ 0 ≤ seed ∧ seed < 1009 ∧ ds.length ≤ 60 * i ∧
    Same H H2 ∧ H2 d = some (.lst (ds.map V.int))) ⟨0, none, none, none, none, [], rfl, by omega, by omega, Nat.le_refl _, Same.new hd, upd_same⟩ (fun i σ H2 _ ⟨_, _, _, _, _, _, _, _, _, _, s2, _⟩ => s2.seq hS) ?_ ?_
  · rintro i x σ H2 hi ⟨seed, v3, v4, v5, v6, ds, rfl, h0, h1, hl, s2, e2⟩
    obtain ⟨z, hz, rfl⟩ := getI hi
    have hi63 : i < 63 := by have := (List.getElem?_eq_some_iff.mp hz).1; omega
    have free : ∀ {H3 : Hp}, H3 = upd H2 d (.lst (ds.map V.int)) → H3 = H2 := fun {H3} e => by
      rw [e]; funext b; by_cases hb : b = d
      · rw [hb, upd_same, e2]
      · rw [upd_ne hb]
    walk_at "go"
    refine ⟨z, rfl, ?_⟩
    walk_at "go"
    have n0 := Int.emod_nonneg (seed * 31 + (if z < 0 then -z else z)) (by decide : (1009 : Int) ≠ 0)
    have n1 := Int.emod_lt_of_pos (seed * 31 + (if z < 0 then -z else z)) (by decide : (0 : Int) < 1009)
    generalize (seed * 31 + (if z < 0 then -z else z)) % 1009 = seed' at n0 n1 ⊢
    generalize (if z < 0 then -z else z) = rest
    walk_at "go"
    refine rd_ite (fun hlt => ?_) (fun hge => ?_)
    · walk_at "go"
      refine ⟨tyL e2, ?_⟩
      walk_at "go"
      refine append_go e2 (by rw [List.length_map]; omega) ?_
      refine ⟨seed', _, _, _, _, ds ++ [rest], rfl, n0, n1, by rw [List.length_append, List.length_singleton]; omega, fun b o e => ?_, by rw [upd_same, mapI_app]⟩
      rw [upd_ne (ne_of_none e hd)]
      exact s2 b o e
    · walk_at "go"
      refine ⟨60, rfl, by decide, by decide, ?_⟩
      refine forR (n := 60) (fun k σ H3 => ∃ (v4 v5 : Option V) (r : Int) (es : List Int), σ = [some (.ref a), some (.ref d), some (.int seed'), some (.int z), v4, some (.int r), v6] ∧ es.length ≤ 60 * i + k ∧ Same H H3 ∧ H3 d = some (.lst (es.map V.int)))
        ⟨_, none, rest, ds, rfl, hl, s2, e2⟩ ?_ ?_
      · rintro k σ H3 hk ⟨v4', v5', r, es, rfl, hl3, s3, e3⟩
        walk_at "go"
        refine rd_ite (fun hlt => ?_) (fun hge => ?_)
        · walk_at "go"
          refine ⟨tyL e3, ?_⟩
          walk_at "go"
          refine append_go e3 (by rw [List.length_map]; omega) ?_
          walk_at "go"
          refine ⟨_, none, _, es ++ [r % 1000], rfl, by rw [List.length_append, List.length_singleton]; omega, fun b o e => ?_, by rw [upd_same, mapI_app]⟩
          rw [upd_ne (ne_of_none e hd)]
          exact s3 b o e
        · walk_at "go"
          exact ⟨_, none, r, es, rfl, by omega, s3, e3⟩
      · rintro σ H3 ⟨v4', v5', r, es, rfl, hl3, s3, e3⟩
        refine ⟨seed', _, _, _, _, es, rfl, n0, n1, ?_, s3, e3⟩
        have : (60 : Int).toNat = 60 := rfl
        omega
  · rintro σ H2 ⟨seed, v3, v4, v5, v6, ds, rfl, h0, h1, hl, s2, e2⟩
    rw [List.length_map] at hl
    walk_at "go"
    refine ⟨90, rfl, by decide, by decide, ?_⟩
    refine forR (n := 90) (fun k σ H3 => ∃ (v4 v6 : Option V) (es : List Int), σ = [some (.ref a), some (.ref d), some (.int seed), v3, v4, v5, v6] ∧ es.length ≤ 60 * ns.length + k ∧ Same H H3 ∧ H3 d = some (.lst (es.map V.int)))
      ⟨_, _, ds, rfl, hl, s2, e2⟩ ?_ ?_
    · rintro k σ H3 hk ⟨v4', v6', es, rfl, hl3, s3, e3⟩
      walk_at "go"
      generalize hw : ((seed + 1) * ((3 * (k : Int) * k + 5 * k) / 2 + 7)) % 1009 = w'
      have w0 : 0 ≤ w' := by rw [← hw]; exact Int.emod_nonneg _ (by decide)
      have w1 : w' < 1009 := by rw [← hw]; exact Int.emod_lt_of_pos _ (by decide)
      walk_at "go"
      refine ⟨tyL e3, ?_⟩
      walk_at "go"
      refine append_go e3 (by rw [List.length_map]; omega) ?_
      refine ⟨_, _, es ++ [(w' * w' + (k : Int)) % 1013], rfl, by rw [List.length_append, List.length_singleton]; omega, fun b o e => ?_, by rw [upd_same, mapI_app]⟩
      rw [upd_ne (ne_of_none e hd)]
      exact s3 b o e
    · rintro σ H3 ⟨v4', v6', es, rfl, hl3, s3, e3⟩
      walk_at "go"
      refine h d H3 s3 hd ⟨es, ?_, e3⟩
      have : (90 : Int).toNat = 90 := rfl
      omega
theorem word_ok {d : Addr} {z : Str} {lo hi : Int} {H : Hp} {Q : VK} {E : XK} (hz : 0 < z.length) (hz2 : z.length ≤ 1000) (h0 : 0 ≤ lo) (h1 : lo ≤ hi) (h2 : hi ≤ 1000) (hd : DrL H d)
    (h : ∀ (l : List Nat) H', (∀ c ∈ l, c ∈ z.cps.toList) → lo ≤ l.length → l.length ≤ hi → Keep d H H' → DrL H' d → Q (.str (tx l)) H') : sp_law_word_of K [.ref d, .str z, .int lo, .int hi] H Q E := by
  refine ⟨rfl, ?_⟩
  unfold t_law_word_of
  walk_at "go"
  refine pick_ok (by omega) hd fun r H1 r0 r1 k1 d1 => ?_
  walk_at "go"
  refine ⟨⟨_, rfl⟩, ?_⟩
  walk_at "go"
  refine ⟨lo + r, rfl, by omega, by omega, fun L hL => ?_⟩
  refine lcR (n := lo + r) (fun i H2 => ∃ cs : List Nat, H2 L = some (.lst (cs.map fun c => V.str (tx [c]))) ∧ cs.length = i ∧ (∀ c ∈ cs, c ∈ z.cps.toList) ∧ Keep d H1 H2 ∧ DrL H2 d) ⟨[], upd_same, rfl, by simp, Keep.new hL, d1.same (Same.new hL)⟩ ?_ ?_
  · rintro i H2 hi ⟨cs, eL, hl, hc, k2, d2⟩
    walk_at "go"
    refine ⟨rfl, ?_⟩
    walk_at "go"
    refine lenA_str (small2 (by omega)) ?_
    walk_at "go"
    refine pick_ok (by omega) d2 fun q H3 q0 q1 k3 d3 => ?_
    obtain ⟨n, rfl⟩ : ∃ n : Nat, q = n := ⟨q.toNat, by omega⟩
    have hn : n < z.cps.toList.length := by
      have : z.cps.toList.length = z.length := by simp [Str.length]
      omega
    have hLd : L ≠ d := fun e => by
      obtain ⟨ds, _, e2⟩ := d1
      rw [e] at hL
      rw [hL] at e2
      cases e2
    refine ixA_str (small2 (by omega)) (atI_nat (List.getElem?_eq_getElem hn)) ?_
    refine ⟨_, k3 _ _ hLd eL, by rw [List.length_map, sizeLine_eq]; omega, cs ++ [z.cps.toList[n]], by rw [upd_same]; simp [tx], by simp [hl], ?_, ?_, ?_⟩
    · intro c hc'
      rcases List.mem_append.mp hc' with m | m
      · exact hc c m
      · rw [List.mem_singleton.mp m]
        exact List.getElem_mem hn
    · intro b o n e
      have hbL : b ≠ L := fun e2 => by rw [e2, hL] at e; cases e
      rw [upd_ne hbL]
      exact k3 b o n (k2 b o n e)
    · obtain ⟨ds, a, b⟩ := d3
      exact ⟨ds, a, by rw [upd_ne (Ne.symm hLd)]; exact b⟩
  · rintro H2 ⟨cs, eL, hl, hc, k2, d2⟩
    have e1 : (cs.map fun c => V.str (tx [c])) = ((cs.map fun c => [c]).map tx).map V.str := by simp
    refine ⟨_, L, (cs.map fun c => [c]).map tx, rfl, rfl, .inl (SqL.of (by rw [eL, e1])), ?_, ?_⟩
    · have hs : (((cs.map fun c => [c]).map tx).map fun x => x.length) = List.replicate cs.length 1 := by
        rw [List.map_map, List.map_map]
        apply List.eq_replicate_iff.mpr
        refine ⟨by simp, fun b hb => ?_⟩
        obtain ⟨c, _, rfl⟩ := List.mem_map.mp hb
        rfl
      rw [hs]
      simp
      show cs.length + cs.length * 0 ≤ 16777216
      omega
    · rw [join_tx, flat_one]
      exact h cs H2 hc (by omega) (by omega) (k1.trans k2) d2
theorem odd_ok {d : Addr} {H : Hp} {Q : VK} {E : XK} (hd : DrL H d) (h : ∀ (c : Nat) H', Keep d H H' → DrL H' d → Q (.str (tx [c])) H') : sp_law_odd_sign K [.ref d] H Q E := by
  refine ⟨rfl, ?_⟩
  unfold t_law_odd_sign
  walk_at "go"
  refine lenA_str (small2 (by decide)) ?_
  walk_at "go"
  refine pick_ok (by decide) hd fun r H1 r0 r1 k1 d1 => ?_
  obtain ⟨n, rfl⟩ : ∃ n : Nat, r = n := ⟨r.toNat, by omega⟩
  generalize hz : (Str.ofString " !\"#$&'()*+,-./0123456789:;<=>?@ABCDEFGHIJKLMNOPQRSTUVWXYZ[\\]^_`{|}~\n\t") = z at r1 ⊢
  have hn : n < z.cps.toList.length := by
    have : z.cps.toList.length = z.length := by simp [Str.length]
    omega
  exact ixA_str (by rw [← hz]; exact small2 (by decide)) (atI_nat (List.getElem?_eq_getElem hn)) (h _ H1 k1 d1)
theorem spoilt_ok {d : Addr} {l : List Nat} {H : Hp} {Q : VK} {E : XK} (hl : l.length ≤ 1000) (hd : DrL H d) (h : ∀ (m : List Nat) H', m.length = l.length + 1 → Keep d H H' → DrL H' d → Q (.str (tx m)) H') : sp_law_spoilt K [.ref d, .str (tx l)] H Q E := by
  refine ⟨rfl, ?_⟩
  unfold t_law_spoilt
  walk_at "go"
  refine lenA_str (by rw [tx_len]; exact small2 (by omega)) ?_
  walk_at "go"
  rw [tx_len]
  refine pick_ok (by omega) hd fun r H1 r0 r1 k1 d1 => ?_
  obtain ⟨n, rfl⟩ : ∃ n : Nat, r = n := ⟨r.toNat, by omega⟩
  walk_at "go"
  refine slA_str (by rw [tx_len]; exact small2 (by omega)) ?_
  rw [cut_to l n (by omega)]
  walk_at "go"
  refine odd_ok d1 fun c H2 k2 d2 => ?_
  refine addA_str (by rw [tx_len, tx_len, List.length_take]; exact small2 (by simp; omega)) ?_
  rw [tx_app]
  walk_at "go"
  refine slA_str (by rw [tx_len]; exact small2 (by omega)) ?_
  rw [cut_from l n (by omega)]
  refine addA_str (by rw [tx_len, tx_len]; exact small2 (by simp; omega)) ?_
  rw [tx_app]
  exact h _ H2 (by simp; omega) (k1.trans k2) d2
theorem first_odd_ok {l : List Nat} {H : Hp} {Q : VK} {E : XK} (hl : l.length ≤ 10000) (h : Q (.int (fo l)) H) : sp_law_first_odd K [.str (tx l)] H Q E := by
  refine ⟨rfl, ?_⟩
  unfold t_law_first_odd
  walk_at "go"
  refine lenA_str (by rw [tx_len]; exact small2 (by omega)) ?_
  walk_at "go"
  rw [tx_len]
  refine ⟨l.length, rfl, by omega, by omega, ?_⟩
  refine forR (n := l.length) (fun i σ H2 => H2 = H ∧ (∃ v, σ = [some (.str (tx l)), v]) ∧ ∀ (j x : Nat), j < i → l[j]? = some x → x ∈ letters) ⟨rfl, ⟨none, rfl⟩, fun j x hj _ => absurd hj (Nat.not_lt_zero _)⟩ ?_ ?_
  · rintro i σ H2 hi ⟨rfl, ⟨v, rfl⟩, hp⟩
    have hi' : i < l.length := by omega
    walk_at "go"
    refine ixA_str (by rw [tx_len]; exact small2 (by omega)) (atI_nat (j := i) (v := l[i]) (by rw [tx_toList]; exact List.getElem?_eq_getElem hi')) ?_
    walk_at "go"
    refine notInA_sign ?_
    walk_at "go"
    refine rd_iteN (fun hc => ?_) (fun hc => ?_)
    · walk_at "go"
      rw [fo_at l i l[i] hp (List.getElem?_eq_getElem hi') hc] at h
      exact h
    · walk_at "go"
      refine ⟨rfl, ⟨_, rfl⟩, fun j x hj e => ?_⟩
      by_cases hji : j = i
      · subst hji
        rw [List.getElem?_eq_getElem hi'] at e
        rw [← Option.some.inj e]
        exact hc
      · exact hp j x (by omega) e
  · rintro σ H2 ⟨rfl, ⟨v, rfl⟩, hp⟩
    walk_at "go"
    rw [fo_none l (fun j x e => hp j x (by have := (List.getElem?_eq_some_iff.mp e).1; omega) e)] at h
    exact h
/-- check_text -/
theorem check_ok {l : List Nat} {H : Hp} {Q : VK} {E : XK} (h : fo l = -1 → ∀ H', Same H H' → Q .non H')
    (hE : 0 ≤ fo l → ∀ H' d, Same H H' → H' d = none → E (.ref (He.ga K "BadSign")) (some d) (upd H' d (.xd [("at", .int (fo l))]))) : sp_check_text K [.str (tx l)] H Q E := by
  refine ⟨rfl, ?_⟩
  unfold t_check_text
  walk_at "go"
  refine ⟨_, rfl, for_it walk_enumS (fun i σ H2 => Same H H2 ∧ (∃ v v', σ = [some (.str (tx l)), v, v']) ∧ ∀ (j x : Nat), j < i → l[j]? = some x → x ∈ letters) ⟨Same.refl _, ⟨none, none, rfl⟩, fun j x hj _ => absurd hj (Nat.not_lt_zero _)⟩ (fun _ _ _ _ _ => trivial) ?_ ?_⟩
  · rintro i x σ H2 H3 hi ⟨s2, ⟨v, v', rfl⟩, hp⟩ ⟨T, c, rfl, hT, hc, rfl⟩
    rw [tx_get] at hc
    refine rd_gtup upd_same rfl ?_
    walk_at "go"
    refine notInA_sign ?_
    walk_at "go"
    have s3 : Same H (upd H2 T (.tup [.int (i : Nat), .str ⟨#[c]⟩])) := s2.trans (Same.new hT)
    refine rd_iteN (fun hc' => ?_) (fun hc' => ?_)
    · have e := fo_at l i c hp hc hc'
      rw [e] at hE
      walk_at "go"
      exact ⟨_, rfl, fun d hd => hE (by omega) _ d s3 hd⟩
    · walk_at "go"
      refine ⟨s3, ⟨_, _, rfl⟩, fun j x hj e => ?_⟩
      by_cases hji : j = i
      · subst hji
        rw [hc] at e
        rw [← Option.some.inj e]
        exact hc'
      · exact hp j x (by omega) e
  · rintro σ H2 ⟨s2, _, hp⟩
    refine h (fo_none l fun j x e => hp j x ?_ e) H2 s2
    have := (List.getElem?_eq_some_iff.mp e).1
    show j < (tx l).cps.size
    simpa [tx] using this
/-! Rule -/
def ruleF (l r : List Nat) : List (Str × V) := [("left", .str (tx l)), ("right", .str (tx r))]
theorem ruleF_left (l r : List Nat) : (ruleF l r).lookup ("left" : Str) = some (.str (tx l)) := by simp [ruleF, List.lookup]
theorem ruleF_right (l r : List Nat) : (ruleF l r).lookup ("right" : Str) = some (.str (tx r)) := by
  have e : (("right" : Str) == "left") = false := by decide +kernel
  simp [ruleF, List.lookup, e]
theorem ruleF_put (l r : List Nat) : putF "right" (.str (tx r)) (putF "left" (.str (tx l)) []) = ruleF l r := by
  have e : ¬ (("left" : Str) = "right") := by decide +kernel
  show (if ("left" : Str) = "right" then _ else _ :: putF "right" _ []) = _
  rw [if_neg e]
  rfl
/-- whether the sides are those of a rule -/
def okSides (l r : List Nat) : Prop := 1 ≤ l.length ∧ l.length ≤ 4 ∧ r.length ≤ 4
instance (l r : List Nat) : Decidable (okSides l r) := inferInstanceAs (Decidable (_ ∧ _ ∧ _))
def RuleAt (K : Frg) (H : Hp) (y : Addr) (l r : List Nat) : Prop := ∃ dx, H y = some (.ins (He.ga K "Rule") dx (ruleF l r))
theorem rule_init_ok {P : Program} {mg : Str → Option Value} (T : Txt P K mg) {y dx : Addr} {l r : List Nat} {H : Hp} {Q : VK} {E : XK} (hl : l.length ≤ 1000) (hr : r.length ≤ 1000) (hy : H y = some (.ins (He.ga K "Rule") dx []))
    (h : fo l = -1 → fo r = -1 → okSides l r → ∀ H', Keep y H H' → H' y = some (.ins (He.ga K "Rule") dx (ruleF l r)) → Q .non H')
    (hE1 : 0 ≤ fo l → ∀ H' d, Same H H' → H' d = none → E (.ref (He.ga K "BadSign")) (some d) (upd H' d (.xd [("at", .int (fo l))])))
    (hE2 : fo l = -1 → 0 ≤ fo r → ∀ H' d, Same H H' → H' d = none → E (.ref (He.ga K "BadSign")) (some d) (upd H' d (.xd [("at", .int (fo r))])))
    (hE3 : fo l = -1 → fo r = -1 → ¬ okSides l r → ∀ H', Same H H' → E (.ref (He.ga K "BadRule")) none H') : sp_Rule_init K [.ref y, .str (tx l), .str (tx r)] H Q E := by
  refine ⟨rfl, ?_⟩
  unfold t_Rule_init
  walk_at "go"
  refine check_ok (fun e1 H1 s1 => ?_) hE1
  walk_at "go"
  refine check_ok (fun e2 H2 s2 => ?_) (fun e2 H2 d s2 => hE2 e1 e2 H2 d (s1.trans s2))
  have s := s1.trans s2
  walk_at "go"
  refine lenA_str (by rw [tx_len]; exact small2 (by omega)) ?_
  rw [tx_len]
  walk_at "go"
  walk_at "all"
  all_goals first
    | exact hE3 e1 e2 (by unfold okSides; omega) H2 s
    | refine lenA_str (by rw [tx_len]; exact small2 (by omega)) ?_
  · rw [tx_len]
    walk_at "all"
    · exact hE3 e1 e2 (by unfold okSides; omega) H2 s
    · refine ⟨y, _, dx, [], rfl, s _ _ hy, T.c_Rule, T.n_Rule_left, by decide, ?_⟩
      walk_at "go"
      refine ⟨y, _, dx, _, rfl, upd_same, T.c_Rule, T.n_Rule_right, by show 1 < 1000; decide, ?_⟩
      rw [upd_upd, ruleF_put]
      exact h e1 e2 (by unfold okSides; omega) _ ((Keep.same s).trans Keep.at_) upd_same
theorem rule_str_ok {P : Program} {mg : Str → Option Value} (T : Txt P K mg) {y : Addr} {l r : List Nat} {H : Hp} {Q : VK} {E : XK} (hl : l.length ≤ 1000) (hr : r.length ≤ 1000) (hy : RuleAt K H y l r)
    (h : Q (.str (tx (l ++ (Str.ofString ":").cps.toList ++ r))) H) : sp_Rule_str K [.ref y] H Q E := by
  obtain ⟨dx, hy⟩ := hy
  have e0 : (Str.empty ++ tx l : Str) = tx l := by
    show (⟨#[] ++ (tx l).cps⟩ : Str) = _
    simp
  have e1 : (Str.ofString ":" : Str) = tx (Str.ofString ":").cps.toList := (tx_self _).symm
  have e2 : (Str.ofString ":").cps.toList.length = 1 := by decide
  refine ⟨rfl, ?_⟩
  unfold t_Rule_str
  walk_at "go"
  refine ⟨y, _, dx, _, _, rfl, hy, T.c_Rule, T.n_Rule_left, ruleF_left l r, .inl ⟨_, rfl, by rw [tx_len]; exact small2 (by omega), _, rfl, ?_, ?_⟩⟩
  · rw [e0, tx_len]; exact small2 (by omega)
  rw [e0]
  walk_at "go"
  refine ⟨_, rfl, ?_, ?_⟩
  · rw [e1, tx_app, tx_len, List.length_append, e2]; exact small2 (by omega)
  rw [e1, tx_app]
  walk_at "go"
  refine ⟨y, _, dx, _, _, rfl, hy, T.c_Rule, T.n_Rule_right, ruleF_right l r, .inl ⟨_, rfl, by rw [tx_len]; exact small2 (by omega), _, rfl, ?_, ?_⟩⟩
  · rw [tx_app, tx_len, List.length_append, List.length_append, e2]; exact small2 (by omega)
  rw [tx_app]
  walk_at "go"
  exact h
/-! the law -/
def due (l r : List Nat) : Str × Int := if 0 ≤ fo l then ("sign", fo l) else if 0 ≤ fo r then ("sign", fo r) else if okSides l r then ("good", 0) else ("rule", 0)
theorem fo_cases (l : List Nat) : 0 ≤ fo l ∨ fo l = -1 := by have := fo_ge l; omega
theorem due_ok {l r : List Nat} {H : Hp} {Q : VK} {E : XK} (hl : l.length ≤ 1000) (hr : r.length ≤ 1000) (h : ∀ p H', Same H H' → H' p = some (.tup [.str (due l r).1, .int (due l r).2]) → Q (.ref p) H') : sp_law_due_of K [.str (tx l), .str (tx r)] H Q E := by
  refine ⟨rfl, ?_⟩
  unfold t_law_due_of
  walk_at "go"
  refine first_odd_ok (by omega) ?_
  walk_at "all"
  · rename_i c1
    refine first_odd_ok (by omega) ?_
    walk_at "go"
    refine fun p hp => h p _ (Same.new hp) ?_
    unfold due
    rw [if_pos c1, upd_same]
  · rename_i c1
    refine first_odd_ok (by omega) ?_
    walk_at "all"
    · rename_i c2
      refine first_odd_ok (by omega) ?_
      walk_at "go"
      refine fun p hp => h p _ (Same.new hp) ?_
      unfold due
      rw [if_neg c1, if_pos c2, upd_same]
    · rename_i c2
      have fin : ∀ p H2, H p = none → H2 = upd H p (.tup [.str (if okSides l r then "good" else "rule"), .int 0]) → Q (.ref p) H2 := fun p H2 hp e => by
        rw [e]
        refine h p _ (Same.new hp) ?_
        unfold due
        rw [if_neg c1, if_neg c2, upd_same]
        split <;> rfl
      have e4 : (tx l).length = l.length := tx_len l
      have e5 : (tx r).length = r.length := tx_len r
      refine lenA_str (by rw [e4]; exact small2 (by omega)) ?_
      rw [e4]
      walk_at "all"
      · intro p hp
        walk_at "go"
        exact fin p _ hp (by rw [if_neg (by unfold okSides; omega)])
      · refine lenA_str (by rw [e4]; exact small2 (by omega)) ?_
        rw [e4]
        walk_at "all"
        · intro p hp
          walk_at "go"
          exact fin p _ hp (by rw [if_neg (by unfold okSides; omega)])
        · refine lenA_str (by rw [e5]; exact small2 (by omega)) ?_
          rw [e5]
          walk_at "all"
          · intro p hp
            walk_at "go"
            exact fin p _ hp (by rw [if_neg (by unfold okSides; omega)])
          · intro p hp
            walk_at "go"
            exact fin p _ hp (by rw [if_pos (by unfold okSides; omega)])
/-- what the try tells -/
def Told (K : Frg) (H : Hp) (p : Addr) (l r : List Nat) : Prop := (due l r).1 ≠ "good" ∧ H p = some (.tup [.str (due l r).1, .int (due l r).2]) ∨ (due l r).1 = "good" ∧ ∃ y, H p = some (.tup [.str "good", .ref y]) ∧ RuleAt K H y l r
theorem due_sign1 {l r : List Nat} (h : 0 ≤ fo l) : due l r = (("sign" : Str), fo l) := by unfold due; rw [if_pos h]
theorem due_sign2 {l r : List Nat} (h : fo l = -1) (h2 : 0 ≤ fo r) : due l r = (("sign" : Str), fo r) := by unfold due; rw [if_neg (by omega), if_pos h2]
theorem due_good {l r : List Nat} (h : fo l = -1) (h2 : fo r = -1) (h3 : okSides l r) : due l r = (("good" : Str), 0) := by unfold due; rw [if_neg (by omega), if_neg (by omega), if_pos h3]
theorem due_rule {l r : List Nat} (h : fo l = -1) (h2 : fo r = -1) (h3 : ¬ okSides l r) : due l r = (("rule" : Str), 0) := by unfold due; rw [if_neg (by omega), if_neg (by omega), if_neg h3]
theorem atL (v : V) : List.lookup ("at" : Str) [(("at" : Str), v)] = some v := by simp [List.lookup]
theorem ne_sg : ¬ (("sign" : Str) = "good") := by decide +kernel
theorem ne_rg : ¬ (("rule" : Str) = "good") := by decide +kernel
theorem keep_same {y dx : Addr} {C : Addr} {H H' : Hp} (hy : H y = none) (hdx : H dx = none) (k : Keep y (upd (upd H dx (.own y)) y (.ins C dx [])) H') : Same H H' := fun b o e => k b o (ne_of_none e hy) (by rw [upd_ne (ne_of_none e hy), upd_ne (ne_of_none e hdx)]; exact e)
theorem made_same {y dx : Addr} {C : Addr} {H : Hp} (hy : H y = none) (hdx : H dx = none) : Same H (upd (upd H dx (.own y)) y (.ins C dx [])) := fun b o e => by rw [upd_ne (ne_of_none e hy), upd_ne (ne_of_none e hdx)]; exact e
theorem try_make_ok {P : Program} {mg : Str → Option Value} (T : Txt P K mg) {l r : List Nat} {H : Hp} {Q : VK} {E : XK} (hl : l.length ≤ 1000) (hr : r.length ≤ 1000) (h : ∀ p H', Same H H' → Told K H' p l r → Q (.ref p) H') : sp_law_try_make K [.str (tx l), .str (tx r)] H Q E := by
  refine ⟨rfl, ?_⟩
  unfold t_law_try_make
  walk_at "go"
  intro y dx hy hdx hne
  have s0 : Same H (upd (upd H dx (.own y)) y (.ins (He.ga K "Rule") dx [])) := made_same hy hdx
  refine rule_init_ok T hl hr upd_same ?_ ?_ ?_ ?_
  · intro e1 e2 ok H1 k1 hy1
    refine ⟨rfl, ?_⟩
    walk_at "go"
    refine fun p hp => h p _ ((keep_same hy hdx k1).trans (Same.new hp)) ?_
    refine .inr ⟨by rw [due_good e1 e2 ok], y, upd_same, dx, ?_⟩
    rw [upd_ne (ne_of_none hy1 hp)]
    exact hy1
  · intro e1 H1 d s1 hd
    refine mix_hit T.e_BadSign_BadSign fun a ha => ?_
    walk_at "go"
    refine ⟨rfl, rfl, d, _, _, rfl, upd_same, atL _, ?_⟩
    walk_at "go"
    refine fun p hp => h p _ ((s0.trans (s1.trans (Same.new hd))).trans (Same.new hp)) ?_
    exact .inl ⟨by rw [due_sign1 e1]; exact ne_sg, by rw [due_sign1 e1]; exact upd_same⟩
  · intro e1 e2 H1 d s1 hd
    refine mix_hit T.e_BadSign_BadSign fun a ha => ?_
    walk_at "go"
    refine ⟨rfl, rfl, d, _, _, rfl, upd_same, atL _, ?_⟩
    walk_at "go"
    refine fun p hp => h p _ ((s0.trans (s1.trans (Same.new hd))).trans (Same.new hp)) ?_
    exact .inl ⟨by rw [due_sign2 e1 e2]; exact ne_sg, by rw [due_sign2 e1 e2]; exact upd_same⟩
  · intro e1 e2 no H1 s1
    refine mix_miss T.e_BadRule_BadSign (mix_hit T.e_BadRule_BadRule fun a ha => ?_)
    walk_at "go"
    refine fun p hp => h p _ ((s0.trans s1).trans (Same.new hp)) ?_
    exact .inl ⟨by rw [due_rule e1 e2 no]; exact ne_rg, by rw [due_rule e1 e2 no]; exact upd_same⟩
theorem made_short_ok {P : Program} {mg : Str → Option Value} (T : Txt P K mg) {l : List Nat} {H : Hp} {Q : VK} {E : XK} (hl : l.length ≤ 1000) (h : ∀ p H', Same H H' → Told K H' p l [] → Q (.ref p) H') : sp_law_made_short K [.str (tx l)] H Q E := by
  refine ⟨rfl, ?_⟩
  unfold t_law_made_short
  walk_at "go"
  intro y dx hy hdx hne
  have s0 : Same H (upd (upd H dx (.own y)) y (.ins (He.ga K "Rule") dx [])) := made_same hy hdx
  show sp_Rule_init K [.ref y, .str (tx l), .str (tx [])] _ _ _
  refine rule_init_ok T hl (Nat.zero_le _) upd_same ?_ ?_ ?_ ?_
  · intro e1 e2 ok H1 k1 hy1
    refine ⟨rfl, ?_⟩
    walk_at "go"
    refine fun p hp => h p _ ((keep_same hy hdx k1).trans (Same.new hp)) ?_
    refine .inr ⟨by rw [due_good e1 e2 ok], y, upd_same, dx, ?_⟩
    rw [upd_ne (ne_of_none hy1 hp)]
    exact hy1
  · intro e1 H1 d s1 hd
    refine mix_hit T.e_BadSign_BadSign fun a ha => ?_
    walk_at "go"
    refine ⟨rfl, rfl, d, _, _, rfl, upd_same, atL _, ?_⟩
    walk_at "go"
    refine fun p hp => h p _ ((s0.trans (s1.trans (Same.new hd))).trans (Same.new hp)) ?_
    exact .inl ⟨by rw [due_sign1 e1]; exact ne_sg, by rw [due_sign1 e1]; exact upd_same⟩
  · intro e1 e2 H1 d s1 hd
    exact absurd e2 (by decide)
  · intro e1 e2 no H1 s1
    refine mix_miss T.e_BadRule_BadSign (mix_hit T.e_BadRule_BadRule fun a ha => ?_)
    walk_at "go"
    refine fun p hp => h p _ ((s0.trans s1).trans (Same.new hp)) ?_
    exact .inl ⟨by rw [due_rule e1 e2 no]; exact ne_rg, by rw [due_rule e1 e2 no]; exact upd_same⟩
/-! the answers -/
theorem is_int_ok {i : Int} {H : Hp} {Q : VK} {E : XK} (h : Q (.bl true) H) : sp_law_is_int K [.int i] H Q E := by
  refine ⟨rfl, ?_⟩
  unfold t_law_is_int
  walk_at "go"
  refine isi_go (.ty _) (.base (.int i)) (kit_ty (r := true) (by decide +kernel)) ?_
  walk_at "all"
  refine isi_go (.ty _) (.base (.int i)) (kit_ty (r := false) (by decide +kernel)) ?_
  walk_at "go"
  exact h
theorem ne_good_due {l r : List Nat} (h : (due l r).1 ≠ "good") : decide ((due l r).1 = ("good" : Str)) = false := decide_eq_false h
theorem same_ok {P : Program} {mg : Str → Option Value} (T : Txt P K mg) {p : Addr} {l r : List Nat} {H : Hp} {Q : VK} {E : XK} (hl : l.length ≤ 1000) (hr : r.length ≤ 1000) (ht : Told K H p l r) (h : ∀ H', Same H H' → Q (.bl true) H') : sp_law_same K [.ref p, .str (tx l), .str (tx r)] H Q E := by
  refine ⟨rfl, ?_⟩
  unfold t_law_same
  walk_at "go"
  refine due_ok hl hr fun q H1 s1 hq => ?_
  walk_at "go"
  have colon : (Str.ofString ":" : Str) = tx (Str.ofString ":").cps.toList := (tx_self _).symm
  have cl : (Str.ofString ":").cps.toList.length = 1 := by decide
  rcases ht with ⟨hne, hp⟩ | ⟨heq, y, hp, hy⟩
  · have hp1 := s1 _ _ hp
    refine ixA_tup (SqT.of hp1) (v := .str (due l r).1) rfl ?_
    walk_at "go"
    refine ixA_tup (SqT.of hq) (v := .str (due l r).1) rfl ?_
    walk_at "go"
    rw [decide_eq_true (rfl : (due l r).1 = (due l r).1)]
    walk_at "all"
    refine ixA_tup (SqT.of hq) (v := .str (due l r).1) rfl ?_
    walk_at "go"
    rw [ne_good_due hne]
    walk_at "all"
    refine ixA_tup (SqT.of hp1) (v := .int (due l r).2) rfl ?_
    walk_at "go"
    refine is_int_ok ?_
    walk_at "all"
    refine ixA_tup (SqT.of hp1) (v := .int (due l r).2) rfl ?_
    walk_at "go"
    refine ixA_tup (SqT.of hq) (v := .int (due l r).2) rfl ?_
    walk_at "go"
    rw [decide_eq_true (rfl : (due l r).2 = (due l r).2)]
    exact h _ s1
  · have hp1 := s1 _ _ hp
    have hy1 : RuleAt K H1 y l r := let ⟨dx, e⟩ := hy; ⟨dx, s1 _ _ e⟩
    rw [heq] at hq
    refine ixA_tup (SqT.of hp1) (v := .str "good") rfl ?_
    walk_at "go"
    refine ixA_tup (SqT.of hq) (v := .str "good") rfl ?_
    walk_at "go"
    walk_at "all"
    refine ixA_tup (SqT.of hq) (v := .str "good") rfl ?_
    walk_at "go"
    walk_at "all"
    refine ixA_tup (SqT.of hp1) (v := .ref y) rfl ?_
    walk_at "go"
    obtain ⟨dx, ey⟩ := hy1
    refine ⟨y, _, dx, _, _, rfl, ey, T.c_Rule, T.n_Rule_left, ruleF_left l r, ?_⟩
    walk_at "go"
    refine isi_go (.ty _) (.base (.str _)) (kit_ty (r := true) (by decide +kernel)) ?_
    walk_at "all"
    refine ⟨y, _, dx, _, _, rfl, ey, T.c_Rule, T.n_Rule_left, ruleF_left l r, ?_⟩
    walk_at "go"
    rw [decide_eq_true (rfl : tx l = tx l)]
    walk_at "all"
    refine ⟨y, _, dx, _, _, rfl, ey, T.c_Rule, T.n_Rule_right, ruleF_right l r, ?_⟩
    walk_at "go"
    rw [decide_eq_true (rfl : tx r = tx r)]
    walk_at "all"
    refine ⟨y, dx, _, rfl, ey, rule_str_ok T hl hr ⟨dx, ey⟩ ⟨_, rfl, ?_⟩⟩
    walk_at "go"
    rw [colon]
    refine addA_str (by rw [tx_len, tx_len, cl]; exact small2 (by omega)) ?_
    rw [tx_app]
    walk_at "go"
    refine addA_str (by rw [tx_len, tx_len, List.length_append, cl]; exact small2 (by omega)) ?_
    rw [tx_app]
    walk_at "go"
    rw [tx_toList]
    rw [decide_eq_true rfl]
    exact h _ s1
theorem law_ok {P : Program} {mg : Str → Option Value} (T : Txt P K mg) {a : Addr} {ns : List Int} {H : Hp} {Q : VK} {E : XK} (hS : SqL K H a (ns.map V.int)) (hn : ns.length ≤ 63) (h : ∀ H', Q (.bl true) H') : sp_law K [.ref a] H Q E := by
  refine ⟨rfl, ?_⟩
  unfold t_law
  walk_at "go"
  refine pool_ok hS hn fun d H1 _ _ d1 => ?_
  walk_at "go"
  refine word_ok (by decide) (by decide) (by decide) (by decide) (by decide) d1 fun l H2 _ _ hl _ d2 => ?_
  walk_at "go"
  refine word_ok (by decide) (by decide) (by decide) (by decide) (by decide) d2 fun r H3 _ _ hr _ d3 => ?_
  walk_at "go"
  refine pick_ok (by decide) d3 fun k H4 _ _ _ d4 => ?_
  walk_at "go"
  intro p hp
  refine inA_seq (.inl (SqL.of upd_same)) rfl rfl ?_
  have d5 := d4.same (Same.new (o := .lst [.int 1, .int 3]) hp)
  generalize upd H4 p (.lst [.int 1, .int 3]) = H5 at d5
  walk_at "all"
  · refine spoilt_ok (by omega) d5 fun l2 H6 hl2 _ d6 => ?_
    walk_at "go"
    intro q hq
    refine inA_seq (.inl (SqL.of upd_same)) rfl rfl ?_
    have d7 := d6.same (Same.new (o := .lst [.int 2, .int 3]) hq)
    generalize upd H6 q (.lst [.int 2, .int 3]) = H7 at d7
    walk_at "all"
    · refine spoilt_ok (by omega) d7 fun r2 H8 hr2 _ d8 => ?_
      walk_at "go"
      refine try_make_ok T (by omega) (by omega) fun p1 Ha _ ta => ?_
      walk_at "go"
      refine same_ok T (by omega) (by omega) ta fun Hb _ => ?_
      walk_at "all"
      refine made_short_ok T (by omega) fun p2 Hc _ tb => ?_
      walk_at "go"
      refine same_ok T (r := []) (by omega) (by decide) tb fun Hd _ => ?_
      walk_at "all"
      refine try_make_ok T (by omega) (by omega) fun p3 He _ tc => ?_
      walk_at "go"
      refine same_ok T (by omega) (by omega) tc fun Hf _ => ?_
      walk_at "all"
      refine try_make_ok T (by omega) (by omega) fun p4 Hg _ td => ?_
      walk_at "go"
      refine same_ok T (by omega) (by omega) td fun Hh _ => ?_
      walk_at "go"
      exact h Hh
    · refine try_make_ok T (by omega) (by omega) fun p1 Ha _ ta => ?_
      walk_at "go"
      refine same_ok T (by omega) (by omega) ta fun Hb _ => ?_
      walk_at "all"
      refine made_short_ok T (by omega) fun p2 Hc _ tb => ?_
      walk_at "go"
      refine same_ok T (r := []) (by omega) (by decide) tb fun Hd _ => ?_
      walk_at "all"
      refine try_make_ok T (by omega) (by omega) fun p3 He _ tc => ?_
      walk_at "go"
      refine same_ok T (by omega) (by omega) tc fun Hf _ => ?_
      walk_at "all"
      refine try_make_ok T (by omega) (by omega) fun p4 Hg _ td => ?_
      walk_at "go"
      refine same_ok T (by omega) (by omega) td fun Hh _ => ?_
      walk_at "go"
      exact h Hh
  · intro q hq
    refine inA_seq (.inl (SqL.of upd_same)) rfl rfl ?_
    have d7 := d5.same (Same.new (o := .lst [.int 2, .int 3]) hq)
    generalize upd H5 q (.lst [.int 2, .int 3]) = H7 at d7
    walk_at "all"
    · refine spoilt_ok (by omega) d7 fun r2 H8 hr2 _ d8 => ?_
      walk_at "go"
      refine try_make_ok T (by omega) (by omega) fun p1 Ha _ ta => ?_
      walk_at "go"
      refine same_ok T (by omega) (by omega) ta fun Hb _ => ?_
      walk_at "all"
      refine made_short_ok T (by omega) fun p2 Hc _ tb => ?_
      walk_at "go"
      refine same_ok T (r := []) (by omega) (by decide) tb fun Hd _ => ?_
      walk_at "all"
      refine try_make_ok T (by omega) (by omega) fun p3 He _ tc => ?_
      walk_at "go"
      refine same_ok T (by omega) (by omega) tc fun Hf _ => ?_
      walk_at "all"
      refine try_make_ok T (by omega) (by omega) fun p4 Hg _ td => ?_
      walk_at "go"
      refine same_ok T (by omega) (by omega) td fun Hh _ => ?_
      walk_at "go"
      exact h Hh
    · refine try_make_ok T (by omega) (by omega) fun p1 Ha _ ta => ?_
      walk_at "go"
      refine same_ok T (by omega) (by omega) ta fun Hb _ => ?_
      walk_at "all"
      refine made_short_ok T (by omega) fun p2 Hc _ tb => ?_
      walk_at "go"
      refine same_ok T (r := []) (by omega) (by decide) tb fun Hd _ => ?_
      walk_at "all"
      refine try_make_ok T (by omega) (by omega) fun p3 He _ tc => ?_
      walk_at "go"
      refine same_ok T (by omega) (by omega) tc fun Hf _ => ?_
      walk_at "all"
      refine try_make_ok T (by omega) (by omega) fun p4 Hg _ td => ?_
      walk_at "go"
      refine same_ok T (by omega) (by omega) td fun Hh _ => ?_
      walk_at "go"
      exact h Hh
end Lw
namespace Lw
open PySem PySem.Spec PyProof.Rows L2
abbrev R : PySem.W.OpenRow := PySem.W.OpenLaw.row PySem.Challenge.rw_risensigns_k08_rule_refused
abbrev hk : PySem.W.Hook := Rz.hookR 6 fa fn
def ob (s : PySem.W.SharedT) : Rz.AlR := Rz.obsRG 6 fa fn (HandSHeadRun.getT s)
theorem ob_eq (s : PySem.W.SharedT) : ob s = hk.obs s.abs := Rz.obsRG_eq (HandSHeadRun.getT_eq s)
def loose0 : List PySem.Str := ["_wall", "RiseError", "BadSign", "Uneven", "BadHeight", "NoPlace", "BadRule", "Mismatch", "Beyond", "TOP", "SIGNS", "as_string", "check_text", "is_sign", "Row", "MOST_SIGNS", "Rule", "_law_pool", "_law_pick", "_law_word_of", "_law_is_int", "_law_odd_sign", "_law_first_odd", "_law_due_of", "_law_same", "_law_try_make", "_law_made_short", "_law_spoilt"]
def loose : List PySem.Str := loose0
theorem run (w : World) : HandSHeadRun.RunEq R (PySem.W.view R.prog [32]) hk ob 6000 loose w := by
  intro os
  kernel_rfl
theorem law_binds {K : Frg} {f : Addr} {fd : FuncData} (F : FunD K "law" "law" (defArgs s_law) (defBody s_law) (defScope s_law) [] [] f fd) (s : Shared) (v : Value) : BindsTo s fd ⟨[v], []⟩ [("_law_script", v)] :=
  FunD.bindsA (ps := ["_law_script"]) F (fun _ _ _ _ _ _ us hl => match us, hl with | [_], _ => rfl) s [v] rfl
theorem given (w : World) (mg : PySem.Str → Option Value) (f : Addr) (h : Heap) (Y : ∃ K : Frg, K.In h ∧ Rz.SaysR fa fn K) (G : h.Ns mainGlobals mg) (e : mg "law" = some (.ref f)) : Rz.Given PySem.Challenge.rw_risensigns_k08_rule_refused 63 5 "_law_script" w mg f h := by
  obtain ⟨K, KX, c⟩ := Y
  have T : Txt PROG K mg := txt_of KX G c
  have e2 := e.symm.trans T.g_law
  cases e2
  obtain ⟨fd, _, F⟩ := ok_law (w := w) (base := h) T
  refine ⟨K, fd, sp_law K, KX, law_binds F, fun H a ns hl hS => law_ok T hS hl fun _ => rfl, fun base _ _ => ?_⟩
  obtain ⟨fd2, G2, F2⟩ := ok_law (w := w) (base := base) T
  cases Rz.fd_one F F2
  exact G2
end Lw
open PySem PySem.W PySem.Calls PyProof.Rows
theorem PySem.Challenge.cw_risensigns_k08_rule_refused_holds : PySem.Challenge.rw_risensigns_k08_rule_refused.Holds := by
  w_on; o_law
  refine HandSHeadRun.head_any (r := OpenLaw.row PySem.Challenge.rw_risensigns_k08_rule_refused) (q := view (OpenLaw.row PySem.Challenge.rw_risensigns_k08_rule_refused).prog [32]) (H := Lw.hk) (ob := Lw.ob) (M := 6000) (loose := Lw.loose) (d := HandSHeadRun.topDef (OpenLaw.row PySem.Challenge.rw_risensigns_k08_rule_refused).prog 32) (kwd := []) Lw.ob_eq
    (by kernel_rfl) (fun s => by kernel_rfl) Lw.run (by kernel_rfl) (by kernel_rfl) (by kernel_rfl) (by rfl) (by first | assumption | decide +kernel) (by decide +kernel) ⟨rfl, rfl, rfl, rfl, rfl, by decide +kernel⟩ ?hw ?hc
  case hw => w_witness2
  case hc =>
    refine Rz.endX (l := PySem.Challenge.rw_risensigns_k08_rule_refused) (n := 63) (k := 5) (x := "_law_script") rfl (by decide) (by kernel_rfl) ⟨rfl, by decide, by decide⟩ ?F
    intro w mg fa h Y G hmg0
    refine Lw.given w mg fa h Y G ?_
    have e : (HandSHeadRun.topDef (OpenLaw.row PySem.Challenge.rw_risensigns_k08_rule_refused).prog 32).name = ("law" : PySem.Str) := by kernel_rfl
    rw [← e]
    exact hmg0
