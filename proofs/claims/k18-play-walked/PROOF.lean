import PyProof.Rows.All
import Wide.All
import OpenK.AllK
import Wide.FinOn
import KE.KStateDown
import KE.KExcSuper
import HandS.ForMost
import HandS.ForExc
import HandS.ExcInit
import HandS.ExcSuper
import KE.GoesEnum
import KE.GoesMore
import HandS.CallSlots
import HandS.Defaults
import HandS.IsInst
import HandS.Wide
import HandS.Walk
import HandS.Flow
import KE.KCallOwn
import HandS.Property
import HandS.ExcField
import HandS.HeadHook2
import HandS.Head0
import HandS.Head1
import HandS.Head2
import HandS.HeadEnd
import HandS.FStr
import KE.GoesZip
import KE.KDictZip
import KE.KItemsList
import HandS.ListItems
import KE.KOpsOwn
import KE.KOwnIter
import HandS.IterNext
import HandS.OwnEq
import HandS.Codes
import HandS.More
import KE.KIsAll
import HandS.Base
import HandS.Call
import HandS.Ends
import HandS.ExcCtx
import KE.KStar
import HandS.Star
import HandS.ClsMeth
import HandS.OwnIter
import HandS.Text
import PyProof.ToksMono
import HandS.List
import HandS.Replace
import HandS.ReplaceList
import PyProof.GenRules
import HandS.GenBody
import HandS.GenYield
import HandS.GenCall
import HandS.GenList
import HandS.Hot
import HandS.SuiteRaise
import HandS.RaiseFrom
import HandS.Dict
import HandS.SetKeys
import HandS.Iter
import HandS.DictComp
import HandS.Comp
import HandS.Deep
import HandS.GenOver
import PyProof.GenQ
import PySem.Challenge.RW_risensigns_k18_play_walked
set_option Elab.async false
set_option linter.all false
set_option maxRecDepth 100000
set_option maxHeartbeats 0
/-! Exceptions of the program: class X(..own.., ValueError) whose __init__ says super().__init__(text) and then stores at most one field. -/
namespace Rz
open PySem PySem.W PySem.Calls PyProof.Rows PySem.HandSPX

/-- the text of an __init__: super().__init__('..'); self.f = g -/
def exBody1 (msg f g : Str) (j : Nat) (p0 p1 p2 p3 p4 p5 q0 q1 q2 q3 : Pos) : List Stmt :=
  [.Expr (.Call (.Attribute (.Call (.Name "super" p0) [] [] p1) "__init__" p2) [.Constant (.str msg) j p3] [] p4) p5,
   .Assign [.Attribute (.Name "self" q0) f q1] (.Name g q2) q3]
def exBody0 (msg : Str) (j : Nat) (p0 p1 p2 p3 p4 p5 : Pos) : List Stmt :=
  [.Expr (.Call (.Attribute (.Call (.Name "super" p0) [] [] p1) "__init__" p2) [.Constant (.str msg) j p3] [] p4) p5]

/-- what the written part says of an exception class at C (whatever its __init__ is) -/
structure ExC (K : Frag) (C : Addr) : Prop where
  cls : ∃ nm q N bs bm sn sub ab col dd k0 k1 k2 k3 k5, K.lookup C = some (excClassObj nm q C N bs bm true sn sub ab col dd k0 k1 k2 k3 k5 "ValueError.__new__") ∧ refsVE bm = true
  sa : findIn K (.ref C) "__setattr__" = some (some (.builtin "object.__setattr__"))
  kC : keepIn K (.ref C) = true
  exC : subIn K (.ref C) (.type "BaseException") = some true
  veC : subIn K (.ref C) (.type "ValueError") = some true
  tyC : typeIn K (.ref C) = some (.type "type")
  op : nsIn K cStatics "thirdparty.any" = some none

/-- its own __init__ at fI, with the cell cc of __class__ and the code object cda -/
structure ExF (P : Program) (K : Frag) (C fI cc cda : Addr) (params : Arguments) (body : List Stmt) (scope : Scope) : Prop where
  iC : findIn K (.ref C) "__init__" = some (some (.ref fI))
  tI : typeIn K (.ref fI) = some (.type "function")
  fn : ∃ (oc : Value) (od : Option Addr) (name qual : Str) (kV doc pm ct : Value) (an : Option Addr) (osl : Array (Option Value)),
    K.lookup fI = some ⟨oc, od, .func (fnX name qual params body scope [("__class__", cc)] .none kV doc pm an (.ref cda) ct), osl⟩ ∧ codeIn K (.ref cda) qual = true
  code : ∃ (ccl : Value) (cdd : Option Addr) (vs : Array Value) (ccs : Array (Option Value)) (file : Str) (tf : Tok),
    K.lookup cda = some ⟨ccl, cdd, .fields vs, ccs⟩ ∧ vs[2]? = some (.str file tf) ∧ ((P.main.file : Str) == file) = true
  cell : ∃ (cl : Value) (cld : Option Addr) (csl : Array (Option Value)), K.lookup cc = some ⟨cl, cld, .cell (some (.ref C)), csl⟩
  sup : ks_superIn K C C "__init__" = some (some (.builtin "ValueError.__init__"))
  top : (P.main.scope.names.lookup ("super" : Str)).isSome = false

def SupOk (scope : Scope) (cc cda fI : Addr) (msg : Str) (j : Nat) (p0 p1 p2 p3 p4 p5 : Pos) : Prop := ∀ (qual : Str) (L : Addr), ∃ pl : Sem Bool,
  swapsWith (.Call (.Attribute (.Call (.Name "super" p0) [] [] p1) "__init__" p2) [.Constant (.str msg) j p3] [] p4) none p5.line (envX qual scope L fI (.ref cda) [("__class__", cc)]) = pure false ∧
  eval (.Call (.Attribute (.Call (.Name "super" p0) [] [] p1) "__init__" p2) [.Constant (.str msg) j p3] [] p4) (envX qual scope L fI (.ref cda) [("__class__", cc)]) = (do
      let ov ← attributeBase (.Call (.Name "super" p0) [] [] p1) "__init__" (envX qual scope L fI (.ref cda) [("__class__", cc)]) (eval (.Call (.Name "super" p0) [] [] p1) (envX qual scope L fI (.ref cda) [("__class__", cc)]))
      standAt p2.atName
      let (f, first) ← holding [ov] (getMethod ov "__init__" pl)
      callWith p4 f first (backTo p4 (starEach [.Constant (.str msg) j p3] (envX qual scope L fI (.ref cda) [("__class__", cc)]))) [])

theorem kept_but {K : Frag} {h h' : Heap} {x : Addr} (X : K.In h) (hx : K.lookup x = none) (k : ∀ b o, b ≠ x → h.get? b = some o → h'.get? b = some o) : K.In h' := fun a o e =>
  k a o (fun z => by rw [z, hx] at e; cases e) (X a o e)

section
variable {prog : Program} {w : World} {A : Around} {E : Value → Shared → Prop} {R : Result → Shared → Prop} {h : Heap} {g : Array GenState} {d : Drawn} {t : Nat} {os : OsState}
variable {nm q : Str} {C N : Addr} {bs bm : List Value} {hdct : Bool} {sn : List Str} {sub : List Value} {ab : Bool} {col : Option Bool} {dd : Option Addr} {k0 k1 k2 k3 k5 : Option Value}
/-- the bound ValueError.__init__ is called -/
theorem call_mw {u e t0 : Addr} {rest : List Value} {Q : Value → Shared → Prop}
    (hC : h.get? C = some (excClassObj nm q C N bs bm hdct sn sub ab col dd k0 k1 k2 k3 k5 "ValueError.__new__")) (he : h.get? e = some (excO C t0)) (hu : h.get? u = some (kxs_mw "ValueError.__init__" e)) (hrest : rest.length ≤ sizeLine)
    (hq : ∀ h' t1, (∀ b o, b ≠ e → h.get? b = some o → h'.get? b = some o) → h'.get? e = some (excO C t1) → Q .none ⟨h', g, d, t, os⟩) :
    wpAny (model prog w) A (call (.ref u) rest) Q E ⟨h, g, d, t, os⟩ := by
  refine wpAny_call (codeAny_of_tree ?_)
  show wpAny _ A.in1 (callAny (.ref u) ⟨rest, []⟩) _ _ _
  simp only [callAny]
  refine wpAny_bind (wpAny_load hu ?_)
  simp only [kxs_mw, show (Value.type "method-wrapper" == Value.type "method" || Value.type "method-wrapper" == Value.type "builtin_function_or_method" || Value.type "method-wrapper" == Value.type "method-wrapper") = true by decide, if_true]
  refine KFB.if_so (by decide) ?_
  refine wpAny_bind (check_bound_init F.excBase_ValueError.toExcCallFacts hC he rfl ?_)
  refine wpAny_bind (wpAny_pure (wpAny_pure ?_))
  refine ⟨plainId_quiet F.excBase_ValueError.init.plain _, codeAny_builtin F.excBase_ValueError.initEntry ?_⟩
  rw [Around.under_plainId F.excBase_ValueError.init.plain _]
  wp_walk
  refine hq _ h.objs.size (fun b o hb ho => ?_) ?_
  · rw [Heap.get?_update_other _ _ (Ne.symm hb)]
    exact Heap.get?_push_of_some _ ho
  · rw [Heap.get?_update_self _ (Heap.get?_push_of_some _ he) rfl]
    rfl
end

section
variable {prog : Program} {w : World} {A : Around} {E : Value → Shared → Prop} {R : Result → Shared → Prop} {s : Shared} {K : Frag} {mg : Str → Option Value} {C fI cc cda : Addr} {params : Arguments} {body : List Stmt} {scope : Scope}
/-- the statement super().__init__('..') -/
theorem sup_stmt {bodyT : List Stmt} {qual msg : Str} {j : Nat} {p0 p1 p2 p3 p4 p5 : Pos} {L x t0 : Addr} {m : Str → Option Value} {a0 : Arg} {Q : Flow → Shared → Prop} (T0 : ExC K C) (T : ExF prog K C fI cc cda params body scope)
    (X : K.In s.heap) (hg : s.heap.Ns mainGlobals mg) (hgs : mg "super" = none) (hb : ∃ mb, s.heap.Ns builtinsNs mb ∧ mb "super" = some (.type "super")) (hL : s.heap.Ns L m) (hself : m "self" = some (.ref x)) (hx : s.heap.get? x = some (excO C t0))
    (hk : scope.kind = .function) (hks : scope.names.lookup ("super" : Str) = some .globalImplicit) (hkc : scope.names.lookup ("__class__" : Str) = some .free) (hka : scope.names.lookup ("self" : Str) = some .local)
    (hp : (params.posonlyargs ++ params.args).head? = some a0) (ha0 : a0.arg = "self")
    (hev : SupOk scope cc cda fI msg j p0 p1 p2 p3 p4 p5)
    (hi : interactive (envX qual scope L fI (.ref cda) [("__class__", cc)]) = false)
    (hq : ∀ h' tk t1, (∀ b o, b ≠ x → s.heap.get? b = some o → h'.get? b = some o) → h'.get? x = some (excO C t1) → Q .next { s with heap := h', toks := tk }) :
    _root_.PySem.wpAt (model prog w) A (.func bodyT (envX qual scope L fI (.ref cda) [("__class__", cc)])) (exec (.Expr (.Call (.Attribute (.Call (.Name "super" p0) [] [] p1) "__init__" p2) [.Constant (.str msg) j p3] [] p4) p5) (envX qual scope L fI (.ref cda) [("__class__", cc)])) Q E s := by
  obtain ⟨oc, od, name, qu, kV, doc, pm, ct, an, osl, hf, hcd⟩ := T.fn
  obtain ⟨ccl, cdd, vs, ccs, file, tf, hcode, hvs, hfile⟩ := T.code
  obtain ⟨cl, cld, csl, hcell⟩ := T.cell
  obtain ⟨nm, q, N, bs, bm, sn, sub, ab, col, dd, k0, k1, k2, k3, k5, hC, hbm⟩ := T0.cls
  obtain ⟨mb, hmb, hmbs⟩ := hb
  obtain ⟨hh, g, d, t, os⟩ := s
  obtain ⟨pl, hsw, hev⟩ := hev qual L
  refine ks_wpAt_Expr_any ?_ hi hsw
  refine ks_wpAt_MethodCall (pl := pl) ?_ hev
  refine ks_wpAt_super_base (env := envX qual scope L fI (.ref cda) [("__class__", cc)]) hks hkc rfl rfl (X _ _ hf) rfl hp rfl (X _ _ hcode) rfl hvs hfile T.top ?_
  refine ks_loadName_global hk hks (loadGlobal_builtin (env := envX qual scope L fI (.ref cda) [("__class__", cc)]) hg hgs hmb hmbs ⟨rfl, ?_⟩)
  refine wpAny_loadName_free hk hkc rfl ⟨_, X _ _ hcell, rfl⟩ ?_
  rw [ha0]
  refine wpAny_loadName_local hk hka hL hself ?_
  have hC1 := X _ _ hC
  refine ks_wpAny_isType_cls hC1 rfl ⟨rfl, ?_⟩
  have hcl : clsIn K C = some { name := nm, bases := bs, mro := .ref C :: bm, ns := N, qualname := q, hasDict := true, slotNames := sn, subclasses := sub, abstract := ab, collection := col, hasDel := false } := by unfold clsIn; rw [hC] <;> rfl
  have hmro : mroIn K C (.ref C) = some true := by
    unfold mroIn
    rw [hcl]
    show (if List.isEmpty (Value.ref C :: bm) = true then none else some (List.contains (Value.ref C :: bm) (Value.ref C))) = some true
    rw [if_neg (by simp)]
    simp
  refine ks_wpAny_call_super (ox := excO C t0) hC1 rfl hx rfl (fun c e => by cases e) (looks_mroIn X hmro) (fun h' e k => ?_)
  -- the method
  have X' : K.In h' := X.keeps k
  have hx' := k _ _ hx
  have I' : InstAt h' x (excO C t0) C none := ⟨hx', rfl, rfl, trivial⟩
  have hI : Looks (model prog w) h' (isInstance (.ref x) (.type "ValueError")) true := I'.type.andThen (looks_subIn X' T0.veC)
  have hsup := T.sup
  unfold ks_superIn at hsup
  rw [hcl] at hsup
  refine kxs_getMethod kxs_ValueError e (looks_opaque X' T0.op) (l₀ := .ref C :: bm) (fun A Q E s k q => wpAny_bind ((looks_clsIn X' hcl) A _ E s k (wpAny_pure q))) rfl X' hsup hI (ks_ne X' I' hcl) (by decide) ?_
  have k2 : ∀ b o, hh.get? b = some o → (h'.push (kxs_mw "ValueError.__init__" x)).get? b = some o := fun b o z => Heap.get?_push_of_some _ (k b o z)
  have hst : starEach [.Constant (.str msg) j p3] (envX qual scope L fI (.ref cda) [("__class__", cc)]) = (false, eval (.Constant (.str msg) j p3) (envX qual scope L fI (.ref cda) [("__class__", cc)])) :: [] := rfl
  show wpAny _ _ (callWith p4 (.ref h'.objs.size) [] (backTo p4 (starEach [.Constant (.str msg) j p3] (envX qual scope L fI (.ref cda) [("__class__", cc)]))) []) _ _ _
  rw [hst]
  refine kxs_callWith (i := "ValueError.__init__") (x := x) (by rfl) ?_
  refine evalArgs_plain ?_
  show wpAny _ _ (spliced ((false, eval (.Constant (.str msg) j p3) _) :: [])) _ _ _
  refine Calls.spliced_cons (Calls.Constant_str (Calls.spliced_nil ⟨Heap.get?_push_at rfl rfl, ?_⟩))
  exact call_mw (k2 _ _ hC1) (k2 _ _ hx) (Heap.get?_push_at rfl rfl) (by show 1 ≤ sizeLine; rw [sizeLine_eq]; decide) (fun h2 t1 k3 hx2 => hq h2 _ t1 (fun b o hb z => k3 b o hb (k2 b o z)) hx2)
end

/-- what __init__ leaves of a fresh exception at x -/
structure InitEnd (h h' : Heap) (x C dx t1 : Addr) (f : Str) (v : Value) : Prop where
  keep : ∀ b o, b ≠ x → h.get? b = some o → h'.get? b = some o
  obj : h'.get? x = some { cls := .ref C, dict := some dx, data := .fields #[.ref t1, .none, .none, .none, .bool false, .none] }
  dbig : h.objs.size ≤ dx
  dne : dx ≠ x
  ns : h'.Ns1 dx (fun y => if y = f then some v else none)
structure InitEnd0 (h h' : Heap) (x C t1 : Addr) : Prop where
  keep : ∀ b o, b ≠ x → h.get? b = some o → h'.get? b = some o
  obj : h'.get? x = some { cls := .ref C, data := .fields #[.ref t1, .none, .none, .none, .bool false, .none] }
/-- the globals that an __init__ looks at -/
structure Gls (h : Heap) (mg : Str → Option Value) : Prop where
  g : h.Ns mainGlobals mg
  s : mg "super" = none
  b : ∃ mb, h.Ns builtinsNs mb ∧ mb "super" = some (.type "super")
theorem Gls.keeps {h h' : Heap} {mg : Str → Option Value} (G : Gls h mg) (k : ∀ b o, h.get? b = some o → h'.get? b = some o) : Gls h' mg := ⟨G.g.keeps k, G.s, let ⟨mb, a, b⟩ := G.b; ⟨mb, a.keeps k, b⟩⟩
/-- the scope's and parameters' facts -/
structure ScB (scope : Scope) (params : Arguments) : Prop where
  hk : scope.kind = .function
  hks : scope.names.lookup ("super" : Str) = some .globalImplicit
  hkc : scope.names.lookup ("__class__" : Str) = some .free
  hka : scope.names.lookup ("self" : Str) = some .local
  hp : ∃ a0, (params.posonlyargs ++ params.args).head? = some a0 ∧ a0.arg = "self"
  hcell : ∀ x ∈ scope.names, x.2 ≠ .cell
structure ScI (scope : Scope) (params : Arguments) (g : Str) : Prop extends ScB scope params where
  hkg : scope.names.lookup g = some .local
  hgs : ("self" : Str) ≠ g
  hgd : (g == ("__debug__" : Str)) = false
section
variable {prog : Program} {w : World} {A : Around} {E : Value → Shared → Prop} {R : Result → Shared → Prop} {s : Shared} {K : Frag} {mg : Str → Option Value} {C fI cc cda : Addr} {params : Arguments} {scope : Scope}
theorem ldX {M : Model} {env : Env} {m : Str → Option Value} {x : Str} {pos : Pos} {v : Value} {Q : Value → Shared → Prop} (hn : s.heap.Ns env.locals m) (hv : m x = some v) (h : Q v s)
    (hk : env.scope.kind = .function) (hl : env.kindOf x = some .local) (hd : (x == ("__debug__" : Str)) = false) : wpAny M A (eval (.Name x pos) env) Q E s := wpAny_Name (wpAny_loadName_local hk hl hn hv h) hd
theorem exc_init1 {msg f g : Str} {j : Nat} {p0 p1 p2 p3 p4 p5 q0 q1 q2 q3 : Pos} {x t0 : Addr} {v : Value} (T0 : ExC K C) (T : ExF prog K C fI cc cda params (exBody1 msg f g j p0 p1 p2 p3 p4 p5 q0 q1 q2 q3) scope) (S : ScI scope params g) (hev : SupOk scope cc cda fI msg j p0 p1 p2 p3 p4 p5)
    (hno : findIn K (.ref C) f = some none) (hgen : scope.isGenerator = false) (hco : scope.isCoroutine = false)
    (hbind : ∀ (name qual : Str) (body : List Stmt) (kV doc pm ct : Value) (an : Option Addr), bindArgs (fnX name qual params body scope [("__class__", cc)] .none kV doc pm an (.ref cda) ct) ⟨[.ref x, v], []⟩ = pure [(("self" : Str), Value.ref x), (g, v)])
    (X : K.In s.heap) (G : Gls s.heap mg) (hlim : s.heap.NoLimit) (hx : s.heap.get? x = some (excO C t0)) (hnx : K.lookup x = none) (hroom : A.depth < recursionLimit) 
    (hq : ∀ h' tk dx t1, InitEnd s.heap h' x C dx t1 f v → R (.ok (.ret .none)) { s with heap := h', toks := tk }) :
    codeAny (model prog w) A (.call (.ref fI) ⟨[.ref x, v], []⟩) R s := by
  obtain ⟨oc, od, name, qual, kV, doc, pm, ct, an, osl, hf, hcd⟩ := T.fn
  obtain ⟨nm, q, N, bs, bm, sn, sub, ab, col, dd, k0, k1, k2, k3, k5, hC, hbm⟩ := T0.cls
  obtain ⟨a0, hp, ha0⟩ := S.hp
  have hcl : clsIn K C = some { name := nm, bases := bs, mro := .ref C :: bm, ns := N, qualname := q, hasDict := true, slotNames := sn, subclasses := sub, abstract := ab, collection := col, hasDel := false } := by unfold clsIn; rw [hC] <;> rfl
  refine ks_codeAny_call_defAt hroom (X _ _ hf) rfl hlim (codeRec_of X hcd) rfl (.of_eq (hbind _ _ _ _ _ _ _ _)) S.hcell (fun y hy => ?_) (fun h0 hns k => ?_) hco hgen S.hk
  · simp only [List.mem_cons, List.not_mem_nil, or_false] at hy
    rcases hy with rfl | rfl
    · exact S.hka
    · exact S.hkg
  have m1 : (([("self", Value.ref x), (g, v)] : List (Str × Value)).reverse.lookup ("self" : Str)) = some (.ref x) := by
    show List.lookup ("self" : Str) [(g, v), ("self", Value.ref x)] = _
    have e : (("self" : Str) == g) = false := by simpa using S.hgs
    simp [List.lookup, e]
  have m2 : (([("self", Value.ref x), (g, v)] : List (Str × Value)).reverse.lookup g) = some v := by
    show List.lookup g [(g, v), ("self", Value.ref x)] = _
    simp [List.lookup]
  have hxL : s.heap.objs.size ≠ x := Nat.ne_of_gt (Heap.lt_size hx)
  refine ks_wpAt_execs_cons (sup_stmt T0 T (X.keeps k) (G.keeps k).g G.s (G.keeps k).b hns m1 (k _ _ hx) S.hk S.hks S.hkc S.hka hp ha0 hev (by show interactive _ = false; simp [interactive, S.hk]) (fun h1 tk t1 k1 hx1 => ?_))
  have X1 : K.In h1 := kept_but (X.keeps k) hnx k1
  have hns1 : h1.Ns s.heap.objs.size (fun y => (([("self", Value.ref x), (g, v)] : List (Str × Value)).reverse.lookup y)) := by
    obtain ⟨o, es, ep, ho, r⟩ := hns
    exact ⟨o, es, ep, k1 _ o hxL ho, r⟩
  refine _root_.PySem.wpAt_of_wpAny ?_
  refine wpAny_execs_cons (plainObj_wpAny_Assign_Attribute ?_ (by rfl))
  refine ldX (v := v) hns1 m2 (ldX (v := .ref x) hns1 m1 ?_ S.hk S.hka rfl) S.hk S.hkg S.hgd
  refine set_plain X1 (ox := excO C t1) (od := none) ⟨hx1, rfl, rfl, trivial⟩ T0.sa ?_
  refine exc_osa X1 hx1 hcl (show refsVE (.ref C :: bm) = true from hbm) rfl hno (fun h₃ tk₃ dx k₃ dn dne hx₃ hn₃ => ?_)
  refine wpAny_execs_nil (hq h₃ tk₃ dx t1 ⟨fun b o hb e => k₃ b o hb (k1 b o hb (k b o e)), hx₃, ?_, dne, hn₃⟩)
  obtain ⟨oL, _, _, hoL, _⟩ := hns1
  have z : s.heap.objs.size < h1.objs.size := Heap.lt_size hoL
  exact Nat.le_of_lt (Nat.lt_of_lt_of_le z dn)
theorem exc_init0 {msg : Str} {j : Nat} {p0 p1 p2 p3 p4 p5 : Pos} {x t0 : Addr} (T0 : ExC K C) (T : ExF prog K C fI cc cda params (exBody0 msg j p0 p1 p2 p3 p4 p5) scope) (S : ScB scope params) (hev : SupOk scope cc cda fI msg j p0 p1 p2 p3 p4 p5)
    (hgen : scope.isGenerator = false) (hco : scope.isCoroutine = false)
    (hbind : ∀ (name qual : Str) (body : List Stmt) (kV doc pm ct : Value) (an : Option Addr), bindArgs (fnX name qual params body scope [("__class__", cc)] .none kV doc pm an (.ref cda) ct) ⟨[.ref x], []⟩ = pure [(("self" : Str), Value.ref x)])
    (X : K.In s.heap) (G : Gls s.heap mg) (hlim : s.heap.NoLimit) (hx : s.heap.get? x = some (excO C t0)) (hnx : K.lookup x = none) (hroom : A.depth < recursionLimit)
    (hq : ∀ h' tk t1, InitEnd0 s.heap h' x C t1 → R (.ok (.ret .none)) { s with heap := h', toks := tk }) :
    codeAny (model prog w) A (.call (.ref fI) ⟨[.ref x], []⟩) R s := by
  obtain ⟨oc, od, name, qual, kV, doc, pm, ct, an, osl, hf, hcd⟩ := T.fn
  obtain ⟨a0, hp, ha0⟩ := S.hp
  refine ks_codeAny_call_defAt hroom (X _ _ hf) rfl hlim (codeRec_of X hcd) rfl (.of_eq (hbind _ _ _ _ _ _ _ _)) S.hcell (fun y hy => ?_) (fun h0 hns k => ?_) hco hgen S.hk
  · simp only [List.mem_cons, List.not_mem_nil, or_false] at hy
    subst hy
    exact S.hka
  have m1 : (([("self", Value.ref x)] : List (Str × Value)).reverse.lookup ("self" : Str)) = some (.ref x) := by
    show List.lookup ("self" : Str) [("self", Value.ref x)] = _
    simp [List.lookup]
  refine ks_wpAt_execs_cons (sup_stmt T0 T (X.keeps k) (G.keeps k).g G.s (G.keeps k).b hns m1 (k _ _ hx) S.hk S.hks S.hkc S.hka hp ha0 hev (by show interactive _ = false; simp [interactive, S.hk]) (fun h1 tk t1 k1 hx1 => ?_))
  refine _root_.PySem.wpAt_of_wpAny ?_
  exact wpAny_execs_nil (hq h1 _ t1 ⟨fun b o hb e => k1 b o hb (k b o e), hx1⟩)
end

/-- an exception class with one field f | with none -/
structure ExOne (P : Program) (K : Frag) (C : Addr) (f : Str) : Prop where
  c : ExC K C
  no : findIn K (.ref C) f = some none
  ex : ∃ (fI cc cda : Addr) (params : Arguments) (msg g : Str) (j : Nat) (p0 p1 p2 p3 p4 p5 q0 q1 q2 q3 : Pos) (scope : Scope), ExF P K C fI cc cda params (exBody1 msg f g j p0 p1 p2 p3 p4 p5 q0 q1 q2 q3) scope ∧ ScI scope params g ∧
    SupOk scope cc cda fI msg j p0 p1 p2 p3 p4 p5 ∧ scope.isGenerator = false ∧ scope.isCoroutine = false ∧
    ∀ (x : Addr) (v : Value) (name qual : Str) (body : List Stmt) (kV doc pm ct : Value) (an : Option Addr), bindArgs (fnX name qual params body scope [("__class__", cc)] .none kV doc pm an (.ref cda) ct) ⟨[.ref x, v], []⟩ = pure [(("self" : Str), Value.ref x), (g, v)]
structure ExZero (P : Program) (K : Frag) (C : Addr) : Prop where
  c : ExC K C
  ex : ∃ (fI cc cda : Addr) (params : Arguments) (msg : Str) (j : Nat) (p0 p1 p2 p3 p4 p5 : Pos) (scope : Scope), ExF P K C fI cc cda params (exBody0 msg j p0 p1 p2 p3 p4 p5) scope ∧ ScB scope params ∧
    SupOk scope cc cda fI msg j p0 p1 p2 p3 p4 p5 ∧ scope.isGenerator = false ∧ scope.isCoroutine = false ∧
    ∀ (x : Addr) (name qual : Str) (body : List Stmt) (kV doc pm ct : Value) (an : Option Addr), bindArgs (fnX name qual params body scope [("__class__", cc)] .none kV doc pm an (.ref cda) ct) ⟨[.ref x], []⟩ = pure [(("self" : Str), Value.ref x)]
/-- a made exception -/
structure OwnMade (h h' : Heap) (e C d : Addr) (f : Str) (v : Value) : Prop where
  keep : ∀ b o, h.get? b = some o → h'.get? b = some o
  new : h.objs.size ≤ e
  obj : ∃ oe vs, h'.get? e = some oe ∧ oe.cls = .ref C ∧ oe.dict = some d ∧ oe.data = .fields vs ∧ vs[1]? = some .none
  dbig : h.objs.size ≤ d
  dne : d ≠ e
  ns : h'.Ns1 d (fun y => if y = f then some v else none)
structure OwnMade0 (h h' : Heap) (e C : Addr) : Prop where
  keep : ∀ b o, h.get? b = some o → h'.get? b = some o
  new : h.objs.size ≤ e
  obj : ∃ oe vs, h'.get? e = some oe ∧ oe.cls = .ref C ∧ oe.dict = none ∧ oe.data = .fields vs ∧ vs[1]? = some .none
theorem one_size (v : Value) : [v].length ≤ sizeLine := by
  rw [sizeLine_eq]
  exact (by decide : 1 ≤ 16777216)
section
variable {prog : Program} {w : World} {A : Around} {E : Value → Shared → Prop} {R : Result → Shared → Prop} {s : Shared} {K : Frag} {mg : Str → Option Value} {C : Addr} {f : Str}
theorem exc_made1 (T : ExOne prog K C f) {v : Value} (X : K.In s.heap) (G : Gls s.heap mg) (hlim : s.heap.NoLimit) (hroom : A.depth + 1 < recursionLimit)
    (hq : ∀ h' tk e d, OwnMade s.heap h' e C d f v → R (.ok (.ret (.ref e))) { s with heap := h', toks := tk }) :
    codeAny (model prog w) A (.call (.ref C) ⟨[v], []⟩) R s := by
  obtain ⟨fI, cc, cda, params, msg, g, j, p0, p1, p2, p3, p4, p5, q0, q1, q2, q3, scope, TF, S, hev, hgen, hco, hbind⟩ := T.ex
  obtain ⟨nm, q, N, bs, bm, sn, sub, ab, col, dd, k0, k1, k2, k3, k5, hC, hbm⟩ := T.c.cls
  obtain ⟨hp, gg, dr, tk, os⟩ := s
  have k : ∀ b o, hp.get? b = some o → ((hp.push (kdv_tup [v])).push (excO C hp.objs.size)).get? b = some o := fun b o e => Heap.get?_push_of_some _ (Heap.get?_push_of_some _ e)
  have hget : ((hp.push (kdv_tup [v])).push (excO C hp.objs.size)).get? (hp.objs.size + 1) = some (excO C hp.objs.size) := by heap_get
  have hnx : K.lookup (hp.objs.size + 1) = none := by
    cases e : K.lookup (hp.objs.size + 1) with
    | none => rfl
    | some o =>
      have z : hp.get? (hp.objs.size + 1) = some o := X _ _ e
      exact absurd (Nat.lt_of_succ_lt (Heap.lt_size z)) (Nat.lt_irrefl _)
  refine call_own F.excBase_ValueError (fun X => refsVE_contains X bm hbm) (X _ _ hC) (looks_findIn X TF.iC) (fun self => bind_fn X self TF.tI) (one_size v) ?_
  refine exc_init1 (mg := mg) (s := ⟨(hp.push (kdv_tup [v])).push (excO C hp.objs.size), gg, dr, tk, os⟩) T.c TF S hev T.no hgen hco (fun name qual body kV doc pm ct an => hbind _ _ name qual body kV doc pm ct an) (X.keeps k) (G.keeps k) (hlim.keeps k) hget hnx ?_ fun h' tk' dx t1 ⟨k', hx, dn, dne, hns⟩ => ?_
  · show A.depth + 1 < recursionLimit
    exact hroom
  · have old : ∀ b o, hp.get? b = some o → h'.get? b = some o := fun b o e => k' b o (Nat.ne_of_lt (Nat.lt_succ_of_lt (Heap.lt_size e))) (k b o e)
    have z : hp.objs.size + 1 + 1 ≤ dx := by
      first
        | (simpa only [Heap.size_push] using dn)
        | exact dn
        | (have q := dn; rw [Heap.size_push, Heap.size_push] at q; exact q)
    exact ⟨rfl, hq h' tk' (hp.objs.size + 1) dx ⟨old, Nat.le_succ _, ⟨_, _, hx, rfl, rfl, rfl, rfl⟩, Nat.le_trans (Nat.le_trans (Nat.le_succ _) (Nat.le_succ _)) z, dne, hns⟩⟩
theorem exc_made0 (T : ExZero prog K C) (X : K.In s.heap) (G : Gls s.heap mg) (hlim : s.heap.NoLimit) (hroom : A.depth + 1 < recursionLimit)
    (hq : ∀ h' tk e, OwnMade0 s.heap h' e C → R (.ok (.ret (.ref e))) { s with heap := h', toks := tk }) :
    codeAny (model prog w) A (.call (.ref C) ⟨[], []⟩) R s := by
  obtain ⟨fI, cc, cda, params, msg, j, p0, p1, p2, p3, p4, p5, scope, TF, S, hev, hgen, hco, hbind⟩ := T.ex
  obtain ⟨nm, q, N, bs, bm, sn, sub, ab, col, dd, k0, k1, k2, k3, k5, hC, hbm⟩ := T.c.cls
  obtain ⟨hp, gg, dr, tk, os⟩ := s
  have k : ∀ b o, hp.get? b = some o → ((hp.push (kdv_tup [])).push (excO C hp.objs.size)).get? b = some o := fun b o e => Heap.get?_push_of_some _ (Heap.get?_push_of_some _ e)
  have hget : ((hp.push (kdv_tup [])).push (excO C hp.objs.size)).get? (hp.objs.size + 1) = some (excO C hp.objs.size) := by heap_get
  have hnx : K.lookup (hp.objs.size + 1) = none := by
    cases e : K.lookup (hp.objs.size + 1) with
    | none => rfl
    | some o =>
      have z : hp.get? (hp.objs.size + 1) = some o := X _ _ e
      exact absurd (Nat.lt_of_succ_lt (Heap.lt_size z)) (Nat.lt_irrefl _)
  refine call_own F.excBase_ValueError (fun X => refsVE_contains X bm hbm) (X _ _ hC) (looks_findIn X TF.iC) (fun self => bind_fn X self TF.tI) (by show 0 ≤ sizeLine; exact Nat.zero_le _) ?_
  refine exc_init0 (mg := mg) (s := ⟨(hp.push (kdv_tup [])).push (excO C hp.objs.size), gg, dr, tk, os⟩) T.c TF S hev hgen hco (fun name qual body kV doc pm ct an => hbind _ name qual body kV doc pm ct an) (X.keeps k) (G.keeps k) (hlim.keeps k) hget hnx ?_ fun h' tk' t1 ⟨k', hx⟩ => ?_
  · show A.depth + 1 < recursionLimit
    exact hroom
  · have old : ∀ b o, hp.get? b = some o → h'.get? b = some o := fun b o e => k' b o (Nat.ne_of_lt (Nat.lt_succ_of_lt (Heap.lt_size e))) (k b o e)
    exact ⟨rfl, hq h' tk' (hp.objs.size + 1) ⟨old, Nat.le_succ _, ⟨_, _, hx, rfl, rfl, rfl, rfl⟩⟩⟩
end
end Rz

namespace L2
open PySem PySem.Spec PyProof.Rows
theorem relO_one {v : V} {v' : Value} (r : RelV v v') (fl f : Str) : RelO (List.lookup f [(fl, v)]) (if f = fl then some v' else none) := by
  by_cases hw : f = fl
  · subst hw
    rw [if_pos rfl]
    have q : List.lookup f [(f, v)] = some v := by simp [List.lookup]
    rw [q]
    exact r
  · rw [if_neg hw]
    have qw : (f == fl) = false := by simpa using hw
    have q2 : List.lookup f [(fl, v)] = none := by simp [List.lookup, qw]
    rw [q2]
    trivial
section
variable {X : Cx} {C : Addr}
theorem Inv.gls {pins : List (Addr × Obj)} {σ : St} {H : Hp} {s : Shared} (I : Inv X pins σ H s) (hs : X.mg "super" = none) : Rz.Gls s.heap X.mg :=
  ⟨I.mod.glob.keeps I.bk, hs, let ⟨mb, h1, h2⟩ := I.mod.blt; ⟨mb, h1.keeps I.bk, (h2 "super" (by decide)).trans (by decide +kernel)⟩⟩
/-- C(e), an exception with one field -/
def tMkX (C : Addr) (f : Str) (ta : TA) : St → Hp → XK → Prop := fun σ H Q => ta σ H fun vs H1 => ∃ v, vs = [v] ∧ ∀ d, H1 d = none → Q (.ref C) (some d) (upd H1 d (.xd [(f, v)]))
theorem pmk_sup1 {x f : Str} {a : Expr} {ta : TA} {p pos : Pos} {k : Nat} (T : Rz.ExOne X.prog X.K C f) (hs : X.mg "super" = none) (hr : Room k X.A) (hg : Gl X x) (hm : X.mg x = some (.ref C)) (ha : PA X [a] ta)
    (hdb : (x == ("__debug__" : Str)) = false := by decide)
    (he : starEach (a :: []) X.env = (false, eval a X.env) :: starEach [] X.env := by rfl) (hpl : (backTo pos (starEach [] X.env)).any (·.1) = false := by rfl) :
    PMk X (.Call (.Name x p) [a] [] pos) (tMkX C f ta) := by
  intro pins s σ H Q I h
  refine wpAny_Call_Name_kw (ld_glob I hg hm ?_ hdb)
  refine PySem.W.callWith_K (h₀ := X.base) I.ok.mod.kin T.c.kC (thn (ha.run pos pins s σ H _ I h) fun us s1 hh => ?_) he hpl
  obtain ⟨vs, H1, I1, r1, v, ev, q1⟩ := hh
  subst ev
  refine ⟨I1.kIn, ?_⟩
  cases r1 with
  | cons rv rn =>
    rename_i v' us'
    cases rn
    show wpAny _ _ (call (.ref C) [v']) _ _ _
    have hlim := I1.nolimit
    have G := I1.gls hs
    obtain ⟨hp, g, dr, tk, os⟩ := s1
    refine wpAny_call (Rz.exc_made1 (mg := X.mg) T I1.kIn G hlim (by have := hr.dp; omega) fun h' tk' e d M => ?_)
    show MkP X pins σ Q (.ref e) ⟨h', g, dr, tk', os⟩
    obtain ⟨oe, fv, hoe, hc, hd, hdat, h1⟩ := M.obj
    have hns := M.ns
    obtain ⟨G', g1, g2⟩ := restrict h' fun b => decide (b ≠ e)
    have gk : ∀ b, b ≠ e → G'.get? b = h'.get? b := fun b hb => g1 b (decide_eq_true hb)
    have ge : G'.get? e = none := g2 e (by simp)
    have old : ∀ b o, hp.get? b = some o → G'.get? b = some o := fun b o q => (gk b (Nat.ne_of_lt (Nat.lt_of_lt_of_le (Heap.lt_size q) M.new))).trans (M.keep b o q)
    have hns' : G'.Ns1 d (fun y => if y = f then some v' else none) := by
      obtain ⟨o, es, ep, ho, r⟩ := hns
      exact ⟨o, es, ep, (gk d M.dne).trans ho, r⟩
    have J : Inv X pins σ (upd H1 d (.xd [(f, v)])) ⟨G', g, dr, tk', os⟩ := I1.laid (t' := tk') old M.dbig ⟨_, hns', relO_one rv f⟩
    refine ⟨e, oe, fv, ⟨G', g, dr, tk', os⟩, _, .ref C, some d, rfl, J, fun b o q => ?_, ge, hoe, ⟨hc, hd⟩, hdat, h1, ?_, rfl, J.bare, raises_own T.c.exC T.c.tyC, q1 d (I1.hok.fresh M.dbig)⟩
    · by_cases hb : b = e
      · have q' : G'.get? b = some o := q
        rw [hb, ge] at q'; cases q'
      · exact (gk b hb).symm.trans q
    · rw [upd_ne (Ne.symm M.dne)]
      exact I1.hok.fresh M.new
/-- C(), an exception without fields -/
def tMkX0 (C : Addr) : St → Hp → XK → Prop := fun _ H Q => Q (.ref C) none H
theorem pmk_sup0 {x : Str} {p pos : Pos} {k : Nat} (T : Rz.ExZero X.prog X.K C) (hs : X.mg "super" = none) (hr : Room k X.A) (hg : Gl X x) (hm : X.mg x = some (.ref C))
    (hdb : (x == ("__debug__" : Str)) = false := by decide) : PMk X (.Call (.Name x p) [] [] pos) (tMkX0 C) := by
  intro pins s σ H Q I h
  refine wpAny_Call_Name_kw (ld_glob I hg hm ?_ hdb)
  refine PySem.W.callWith_K0 I.kIn T.c.kC ?_
  have hlim := I.nolimit
  have G := I.gls hs
  obtain ⟨hp, g, dr, tk, os⟩ := s
  refine wpAny_call (Rz.exc_made0 (mg := X.mg) T I.kIn G hlim (by have := hr.dp; omega) fun h' tk' e M => ?_)
  show MkP X pins σ Q (.ref e) ⟨h', g, dr, tk', os⟩
  obtain ⟨oe, fv, hoe, hc, hd, hdat, h1⟩ := M.obj
  obtain ⟨G', g1, g2⟩ := restrict h' fun b => decide (b ≠ e)
  have gk : ∀ b, b ≠ e → G'.get? b = h'.get? b := fun b hb => g1 b (decide_eq_true hb)
  have ge : G'.get? e = none := g2 e (by simp)
  have old : ∀ b o, hp.get? b = some o → G'.get? b = some o := fun b o q => (gk b (Nat.ne_of_lt (Nat.lt_of_lt_of_le (Heap.lt_size q) M.new))).trans (M.keep b o q)
  have J : Inv X pins σ H ⟨G', g, dr, tk', os⟩ := I.kept (t' := tk') old
  refine ⟨e, oe, fv, ⟨G', g, dr, tk', os⟩, H, .ref C, none, rfl, J, fun b o q => ?_, ge, hoe, ⟨hc, hd⟩, hdat, h1, I.hok.fresh M.new, rfl, J.bare, raises_own T.c.exC T.c.tyC, h⟩
  by_cases hb : b = e
  · have q' : G'.get? b = some o := q
    rw [hb, ge] at q'; cases q'
  · exact (gk b hb).symm.trans q
end
end L2

/-! enumerate over a text. -/
namespace L2
open PySem PySem.Spec PyProof.Rows
/-- each sign of the text with its place, in new pairs -/
def Ites (x : Str) : It :=
  ⟨fun i _ => i < x.cps.size, fun i H v H' => ∃ T c, v = .ref T ∧ H T = none ∧ x.cps[i]? = some c ∧ H' = upd H T (.tup [.int (i : Nat), .str ⟨#[c]⟩]), fun i _ => i = x.cps.size⟩
theorem turn_enumS {P : Program} {w : World} {K : PySem.W.Frag} {elts : List Expr} {kk : Nat} {tpos : Pos} (x : Str) (t : Tok) (e it : Addr) :
    Turn P w K (.Tuple elts kk tpos) (Ites x) [e, it] e (fun i h => (∃ old, IsEnum h e it ((i : Nat) : Int) old) ∧ h.IsStrIter it (strIterType x) x t i ∧ e ≠ it) where
  mem := by simp
  obj := fun i h st b hb => by
    obtain ⟨⟨old, he⟩, ⟨o, ho, hc, hd⟩, _⟩ := st
    have e' : b = e ∨ b = it := by simpa using hb
    rcases e' with z | z
    · rw [z]; exact ⟨_, he, fun v q => nomatch q⟩
    · rw [z]; exact ⟨o, ho, fun v q => by rw [hd] at q; cases q⟩
  keep := fun i h h' st k => by
    obtain ⟨⟨old, he⟩, ⟨o, ho, r⟩, hne⟩ := st
    exact ⟨⟨old, k e (by simp) _ he⟩, ⟨o, k it (by simp) o ho, r⟩, hne⟩
  item := by
    intro X hP hw hK hc i pins s σ H E I hf st hg
    subst hP hw hK
    obtain ⟨⟨old, he⟩, hit, hne⟩ := st
    have hel : e < s.heap.objs.size := Heap.lt_size he
    have hil : it < s.heap.objs.size := by obtain ⟨_, q, _⟩ := hit; exact Heap.lt_size q
    have hh : X.A.in1.handled = none := I.ok.hd hc
    refine wpAny_pyNext_enum_itemD (Draws.text hh it x t) he hit hg hne (by simpa using hne) fun v h' tk hv ho hit' hT hsz hk => ?_
    obtain ⟨c, u, hcx, rfl⟩ := hv
    refine ⟨_, rfl, wpAny_letOwnedTupleGo_enum (s := { s with heap := h', toks := tk + 1 }) ho fun h'' he' sb => ?_⟩
    have hT2 : h''.get? s.heap.objs.size = some { cls := .type "tuple", data := .seq #[.int i tk, .str ⟨#[c]⟩ u] } := (sb.2 _ (Nat.ne_of_gt hel)).trans hT
    have new : ObjOk X.prog X.w (upd H s.heap.objs.size (.tup [.int (i : Nat), .str ⟨#[c]⟩])) h'' s.heap.objs.size (.tup [.int (i : Nat), .str ⟨#[c]⟩]) :=
      ⟨by show 2 ≤ sizeLine; decide, [.int i tk, .str ⟨#[c]⟩ u], .cons ⟨_, rfl⟩ (.cons ⟨_, rfl⟩ .nil), ⟨_, hT2, rfl, _, rfl⟩⟩
    have I1 : Inv X pins σ (upd H s.heap.objs.size (.tup [.int (i : Nat), .str ⟨#[c]⟩])) { s with heap := h'', toks := tk + 1 } :=
      I.turnedNew (ch := [e, it]) (fun b ob hb q => (sb.2 b (fun z => hb (by simp [z]))).trans (hk b ob (fun z => hb (by simp [z])) (fun z => hb (by simp [z])) q)) hf (Nat.le_refl _) new
    obtain ⟨oi, hoi, ri⟩ := hit'
    refine ⟨.ref s.heap.objs.size, _, I1, rfl, ⟨_, c, rfl, I.hok.fresh (Nat.le_refl _), hcx, rfl⟩, ⟨⟨.str ⟨#[c]⟩ u, ?_⟩, ⟨oi, (sb.2 it (Ne.symm hne)).trans hoi, ri⟩, hne⟩, fun b hb => ?_⟩
    · have e1 : ((i + 1 : Nat) : Int) = (i : Int) + 1 := by omega
      rw [e1]; exact he'
    · have hb' : b < s.heap.objs.size := by
        have e' : b = e ∨ b = it := by simpa using hb
        rcases e' with z | z
        · rw [z]; exact hel
        · rw [z]; exact hil
      rw [upd_ne (Nat.ne_of_lt hb')]
      exact (hf b hb).1
  done := by
    intro X hP hw hK hc i pins s σ H E I hf st hg
    subst hP hw hK
    obtain ⟨⟨old, he⟩, hit, hne⟩ := st
    have hg' : i = x.cps.size := hg
    subst hg'
    obtain ⟨f0, f1, f2, f3, f4, f5⟩ := hf it (by simp)
    have hh : X.A.in1.handled = none := I.ok.hd hc
    exact wpAny_pyNext_enum_endD (Draws.text hh it x t) he hit fun h' eb => ⟨rfl, I.turned (t' := s.toks) (fun b o hb q => eb b o hb q) f0 f1 f3 f4 f5⟩
  self := fun A i s Q E st h => let ⟨⟨_, he⟩, _⟩ := st; wpAny_pyIter_enum he h
def iEnumS (ta : TA) : TI := fun σ H R => ta σ H fun vs H1 => ∃ x, vs = [.str x] ∧ R (Ites x) H1
theorem pi_enumS {X : Cx} {e : Expr} {ta : TA} {p pos tpos : Pos} {elts : List Expr} {kk : Nat} (hg : Gl X "enumerate") (hm : X.mg "enumerate" = none) (ha : PA X [e] ta) (hs : starEach [e] X.env = [(false, eval e X.env)] := by rfl) :
    PI X (.Tuple elts kk tpos) (.Call (.Name "enumerate" p) [e] [] pos) (iEnumS ta) := by
  refine ⟨fun pins s σ H R I h => ?_⟩
  refine Call_ (ld_blt I hg hm boot_enumerate (PyProof.Rows.callWith_type1 (thn (ha.run pos pins s σ H _ I h) fun us s1 ⟨vs, H1, I1, r1, q1⟩ => ?_) hs rfl))
  obtain ⟨x, ex, q⟩ := q1
  subst ex
  cases r1 with
  | cons r rr =>
    cases rr
    obtain ⟨t, rfl⟩ := r
    refine call_enumerate_str fun h' he hit hsz hk => wpAny_pyIter_enum he ?_
    have I2 : Inv X pins σ H1 { s1 with heap := h' } := I1.kept (t' := s1.toks) hk
    refine ⟨s1.heap.objs.size + 1, [s1.heap.objs.size + 1, s1.heap.objs.size], _, _, H1, rfl, I2, turn_enumS x t (s1.heap.objs.size + 1) s1.heap.objs.size, ⟨⟨.none, he⟩, hit, Nat.succ_ne_self _⟩, fun b hb => ?_, q⟩
    have e' : b = s1.heap.objs.size + 1 ∨ b = s1.heap.objs.size := by simpa using hb
    have hle : s1.heap.objs.size ≤ b := by
      rcases e' with z | z
      · rw [z]; exact Nat.le_add_right _ _
      · rw [z]; exact Nat.le_refl _
    exact I1.fpOk hle (I1.hok.fresh hle)
end L2

/-! A try whose clauses may each have a name or none. An exception that has come to the frame is a package (Got); each way of a clause is a lemma over it. -/
namespace L2
open PySem PySem.Spec PyProof.Rows
abbrev TSu := Addr → Value → Option Addr → TS
/-- behind a clause with a name: its slot is empty again -/
def Ends.drop (D : Ends) (i : Nat) : Ends := { nx := fun σ H => D.nx (σ.set i none) H, rt := D.rt, bk := fun σ H => D.bk (σ.set i none) H, ct := fun σ H => D.ct (σ.set i none) H }
/-- one clause: the class it names, its slot, its suite -/
structure Clause where
  c : Value
  slot : Option Nat
  ts : TSu
def Clause.does (q : Clause) (cls : Value) (d : Option Addr) (D : Ends) (σ : St) (H : Hp) (a : Addr) : Prop :=
  match q.slot with
  | none => q.ts a cls d D σ H
  | some i => q.ts a cls d (D.drop i) (σ.set i (some (.ref a))) H
/-- what is wanted of an exception at these clauses -/
def wMix (K : PySem.W.Frag) (Wout : WX) (D : Ends) : List Clause → WX
  | [] => Wout
  | q :: r => fun cls d σ H => ∃ b, PySem.W.exmOne K cls q.c = some b ∧ (b = true → ∀ a, H a = none → q.does cls d D σ H a) ∧ (b = false → wMix K Wout D r cls d σ H)
/-- the suite of a clause keeps its reading, whatever exception is at hand -/
def SuiteOk (X : Cx) (suite : List Stmt) (ts : TSu) : Prop :=
  ∀ (a : Addr) (oe : Obj) (cls : Value) (d : Option Addr) (pn : List (Addr × Obj)), Zc cls d oe → (∃ vs, oe.data = .fields vs) → PSs (X.suite a ((a, oe) :: pn)) suite (ts a cls d)
inductive HdsMix (X : Cx) : List ExceptHandler → List Clause → Prop
  | nil : HdsMix X [] []
  | cons {x : Str} {c : Value} {ts : TSu} {b₀ : Stmt} {suite : List Stmt} {np p' : Pos} {hds : List ExceptHandler} {l : List Clause} (hc : Names X x c) (hsu : SuiteOk X (b₀ :: suite) ts) (r : HdsMix X hds l) :
      HdsMix X (.ExceptHandler (some (.Name x np)) none (b₀ :: suite) p' :: hds) (⟨c, none, ts⟩ :: l)
  | consA {x n : Str} {c : Value} {i : Nat} {ts : TSu} {b₀ : Stmt} {suite : List Stmt} {np p' : Pos} {hds : List ExceptHandler} {l : List Clause} (hi : X.N[i]? = some n) (hln : X.env.kindOf n = some .local) (hc : Names X x c) (hsu : SuiteOk X (b₀ :: suite) ts) (r : HdsMix X hds l) :
      HdsMix X (.ExceptHandler (some (.Name x np)) (some n) (b₀ :: suite) p' :: hds) (⟨c, some i, ts⟩ :: l)

/-- an exception at a has come to this frame, noted and with no flight: B the ground, sI the state without it -/
structure Got (X : Cx) (pins : List (Addr × Obj)) (σ : St) (H : Hp) (B : Heap) (sI s : Shared) (a : Addr) (cls : Value) (d : Option Addr) : Prop where
  inv : Inv X pins σ H sI
  nb : ∀ b o, sI.heap.get? b = some o → b ∉ frs X.stack → B.get? b = some o
  fl : HandSPX.FlyingZ B (X.env :: X.outer) a (Zc cls d) s.heap
  up : sI.heap.UpToSlots s.heap
  na : H a = none
  os : s.os = sI.os
  ag : AllBare s.gens
section
variable {X : Cx} {pins : List (Addr × Obj)} {σ : St} {H : Hp} {B : Heap} {sI s : Shared} {a : Addr} {cls : Value} {d : Option Addr}
theorem Got.here (g : Got X pins σ H B sI s a cls d) : Inv X pins σ H s := by
  obtain ⟨hh, gg, dd, tt, oo⟩ := s
  exact g.inv.landed g.nb g.fl.1 g.up g.os g.ag
/-- it is no frame of those that run -/
theorem Got.apart (g : Got X pins σ H B sI s a cls d) (hf : X.env.frame = some X.env.locals) : a ≠ X.env.locals ∧ a ∉ X.fs := by
  obtain ⟨oe, vs, he, _, hd⟩ := g.fl.there
  have no : a ∉ frs (X.env :: X.outer) := by
    intro hm
    obtain ⟨_, o', e', hnf⟩ := g.fl.2.2.1.mem hm
    rw [he] at e'
    cases e'
    exact hnf _ hd
  have eq : frs (X.env :: X.outer) = X.env.locals :: X.fs := by
    show List.filterMap _ _ = _
    rw [List.filterMap_cons, hf]
    rfl
  rw [eq] at no
  exact ⟨fun z => no (z ▸ List.mem_cons_self), fun z => no (List.mem_cons_of_mem _ z)⟩
/-- the state of a suite -/
theorem Got.suite (g : Got X pins σ H B sI s a cls d) (hf : X.env.frame = some X.env.locals) :
    ∃ oe, Zc cls d oe ∧ (∃ vs, oe.data = .fields vs) ∧ s.heap.get? a = some oe ∧ Inv (X.suite a ((a, oe) :: (X.pn ++ pins))) [] σ H s := by
  obtain ⟨oe, vs, he, hz, hd⟩ := g.fl.there
  exact ⟨oe, hz, ⟨vs, hd⟩, he, g.here.suite he hd g.na (g.apart hf).1 (g.apart hf).2⟩
/-- no clause took it -/
theorem Got.passes (g : Got X pins σ H B sI s a cls d) (hs : X.stack = X.env :: X.outer) (hf : X.env.frame = some X.env.locals) {W : WX} (tk : Takes X W) (hw : W cls d σ H) {Q : Flow → Shared → Prop} :
    wpAny (model X.prog X.w) X.A (handleBy (.ref a) X.env []) Q X.xe s := by
  refine wpAny_handleBy_nil ?_
  have on : wpAny (model X.prog X.w) X.A (setFlight (.ref a) X.env.frame) (fun _ s4 => wpAny (model X.prog X.w) X.A (throw (.ref a) : Sem Flow) Q X.xe s4) X.xe s := by
    rw [hf]
    refine HandSPX.setFlight_upZ g.fl fun h4 held up4 => wpAny_throw (tk _ _ ?_)
    refine ⟨a, B, sI, pins, σ, H, cls, d, rfl, g.inv, g.nb, g.up.trans up4, .inr (.inr ?_), g.na, g.os, g.ag, hw⟩
    rw [hs]
    exact held
  obtain ⟨_, _, _, oe, vs, T, _, _, he, _, hd, h1, _⟩ := g.fl
  unfold PySem.passOn
  refine wpAny_bind (wpAny_field he hd h1 ?_)
  rw [if_neg (by simp)]
  first
    | exact wpAny_bind (wpAny_pure (wpAny_bind on))
    | exact wpAny_bind on
/-- the clause's class is looked up and held against the exception's -/
theorem Got.asked (g : Got X pins σ H B sI s a cls d) (hf : X.env.frame = some X.env.locals) {x : Str} {c : Value} {np : Pos} {b : Bool} (hc : Names X x c) (hb : PySem.W.exmOne X.K cls c = some b) {Q : Bool → Shared → Prop} {E : Value → Shared → Prop} (hq : Q b s) :
    wpAny (model X.prog X.w) (X.A.mark (some (.ref a))) (eval (.Name x np) X.env) (fun v s1 => wpAny (model X.prog X.w) (X.A.mark (some (.ref a))) (excMatches (.ref a) v) Q E s1) E s := by
  obtain ⟨oe, hz, _, he, S⟩ := g.suite hf
  have L := PySem.W.exm_one (M := model X.prog X.w) g.here.kIn (fun A Q E s k q => wpAny_typeOf_ref (k _ _ he) (by rw [hz.1]; exact q)) hb
  obtain ⟨h1, h2, h3⟩ := hc
  rcases h3 with h3 | ⟨h3, h4, h5⟩
  · exact ld_glob (X := X.suite a ((a, oe) :: (X.pn ++ pins))) S h1 h3 (L.here hq) h2
  · exact ld_blt (X := X.suite a ((a, oe) :: (X.pn ++ pins))) S h1 h3 h4 (L.here hq) h5 h2
theorem Got.again (g : Got X pins σ H B sI s a cls d) {Q : Unit → Shared → Prop} {M : Model} {A : Around} {E : Value → Shared → Prop} (k : ∀ h', Got X pins σ H B sI { s with heap := h' } a cls d → Q () { s with heap := h' }) : wpAny M A (setFlight (.ref a) none) Q E s :=
  HandSPX.lands_againZ g.fl fun h4 fl4 up4 => k h4 ⟨g.inv, g.nb, fl4, g.up.trans up4, g.na, g.os, g.ag⟩
theorem SP.unsuite {pn : List (Addr × Obj)} {q : Addr × Obj} {D : Ends} {f : Flow} {s' : Shared} (ok : X.Ok) (h : SP (X.suite a (q :: (X.pn ++ pins))) pn D f s') : SP X pins D f s' := by
  cases f with
  | next => exact let ⟨σ', H', I, z⟩ := h; ⟨σ', H', I.unsuite ok, z⟩
  | brk => exact let ⟨σ', H', I, z⟩ := h; ⟨σ', H', I.unsuite ok, z⟩
  | cont => exact let ⟨σ', H', I, z⟩ := h; ⟨σ', H', I.unsuite ok, z⟩
  | ret u => exact let ⟨v, σ', H', I, r, z⟩ := h; ⟨v, σ', H', I.unsuite ok, r, z⟩
theorem SP.ofTry {pn : List (Addr × Obj)} {xe : Value → Shared → Prop} {D : Ends} {f : Flow} {s' : Shared} (ok : X.Ok) (h : SP (X.tr (X.pn ++ pins) xe) pn D f s') : SP X pins D f s' := by
  cases f with
  | next => exact let ⟨σ', H', I, z⟩ := h; ⟨σ', H', I.ofTry ok, z⟩
  | brk => exact let ⟨σ', H', I, z⟩ := h; ⟨σ', H', I.ofTry ok, z⟩
  | cont => exact let ⟨σ', H', I, z⟩ := h; ⟨σ', H', I.ofTry ok, z⟩
  | ret u => exact let ⟨v, σ', H', I, r, z⟩ := h; ⟨v, σ', H', I.ofTry ok, r, z⟩
/-- behind a suite with a name the name goes -/
theorem SP.unname {D : Ends} {i : Nat} {n : Str} {p' : Pos} {f : Flow} {s' : Shared} (hN : X.N.Nodup) (hi : X.N[i]? = some n) (hln : X.env.kindOf n = some .local) (h : SP X pins (D.drop i) f s') :
    wpAny (model X.prog X.w) X.A (do bindName X.env n .none; unbindBehindTheSuite X.env n p') (fun _ s7 => SP X pins D f s7) X.xe s' := by
  cases f with
  | next => exact let ⟨_, _, I, z⟩ := h; gone_ok I hN hi hln fun _ J => ⟨_, _, J, z⟩
  | brk => exact let ⟨_, _, I, z⟩ := h; gone_ok I hN hi hln fun _ J => ⟨_, _, J, z⟩
  | cont => exact let ⟨_, _, I, z⟩ := h; gone_ok I hN hi hln fun _ J => ⟨_, _, J, z⟩
  | ret u => exact let ⟨_, _, _, I, r, z⟩ := h; gone_ok I hN hi hln fun _ J => ⟨_, _, _, J, r, z⟩
/-- all clauses -/
theorem Got.clauses (hs : X.stack = X.env :: X.outer) (hf : X.env.frame = some X.env.locals) (hN : X.N.Nodup) {W : WX} (tk : Takes X W) {D : Ends} {hds : List ExceptHandler} {l : List Clause} (hk : HdsMix X hds l) :
    ∀ {s : Shared}, Got X pins σ H B sI s a cls d → wMix X.K W D l cls d σ H → wpAny (model X.prog X.w) X.A (handleBy (.ref a) X.env hds) (SP X pins D) X.xe s := by
  induction hk with
  | nil => exact fun g w => g.passes hs hf tk w
  | cons hc hsu _ ih =>
    intro s g w
    obtain ⟨b, hb, yes, no⟩ := w
    refine wpAny_handleBy_cons (codeAny_handlers_test (g.asked hf hc hb ?_)) (by intro q; cases q)
    cases b
    · exact ih g (no rfl)
    · refine codeAny_handlers_suite (g.again fun h4 g4 => ?_)
      obtain ⟨oe, hz, hd, he, S⟩ := g4.suite hf
      exact wpAny_mono ((hsu a oe cls d _ hz hd).run [] _ σ H D S (yes rfl a g.na)) (fun _ _ z => z.unsuite g.inv.ok) fun _ _ z => z.elim
  | consA hi hln hc hsu _ ih =>
    intro s g w
    obtain ⟨b, hb, yes, no⟩ := w
    refine wpAny_handleBy_cons (codeAny_handlers_test (g.asked hf hc hb ?_)) (by intro q; cases q)
    cases b
    · exact ih g (no rfl)
    · refine codeAny_handlers_suite_as (g.again fun h4 g4 => ?_)
      obtain ⟨oe, hz, hd, he, S⟩ := g4.suite hf
      refine store_ok (X := X.suite a ((a, oe) :: (X.pn ++ pins))) (v := .ref a) S hN hi (.inl hln) rfl (fun s5 S5 => ?_) (.inr hln)
      exact wpAny_mono ((hsu a oe cls d _ hz hd).run [] s5 _ H _ S5 (yes rfl a g.na)) (fun _ _ z => (z.unsuite g.inv.ok).unname hN hi hln) fun _ _ z => z.elim
/-- THE RULE -/
theorem ps_try_mix {body : List Stmt} {h₀ : ExceptHandler} {hds : List ExceptHandler} {l : List Clause} {pos : Pos} {tb : WX → TS} {Wout : WX} (hs : X.stack = X.env :: X.outer) (hf : X.env.frame = some X.env.locals) (hN : X.N.Nodup) (tk : Takes X Wout)
    (hb : ∀ (W : WX) (pn : List (Addr × Obj)) (xe : Value → Shared → Prop), Takes (X.tr pn xe) W → PassesOwn (model X.prog X.w) X.A X.env xe → PSs (X.tr pn xe) body (tb W)) (hh : HdsMix X (h₀ :: hds) l) :
    PS X (.Try body (h₀ :: hds) [] [] pos) (fun D σ H => tb (wMix X.K Wout D l) D σ H) := by
  constructor
  intro pins s σ H D I h
  refine wpAny_Try_except (wpAny_mono ((hb (wMix X.K Wout D l) (X.pn ++ pins) _ ?_ PassesOwn.looking).run [] s σ H D (I.toTry _) h) (fun f s1 z => ?_) fun _ _ z => z)
  · rintro u s' ⟨a, B, sI, pins', σ', H', cls, d, rfl, J', nb, up, sky, na, os, ag, w⟩
    have J : Inv X pins σ' H' sI := J'.ofTry I.ok
    have sky' : Sky B (X.env :: X.outer) a (Zc cls d) X.env.locals s'.heap := by
      rw [← hs]
      exact sky
    show wpAny (model X.prog X.w) X.A (noteFrame (.ref a) X.env) _ _ _
    refine Sky.land Zc.steady (by rw [I.ok.frames, hs]) hf sky' fun h3 fl3 up3 => ?_
    exact Got.clauses hs hf hN tk hh ⟨J, nb, fl3, up.trans up3, na, os, ag⟩ w
  · have z' := z.ofTry I.ok
    cases f with
    | next => exact wpAny_execs_nil z'
    | brk => exact z'
    | cont => exact z'
    | ret u => exact z'
end
end L2

/-! Calls of defs, methods and classes of the program; what they raise is wished for at the caller's slots. -/
namespace L2
open PySem PySem.Spec PyProof.Rows
section
variable {X : Cx} {CX : CXT} {k : Nat} {f C : Addr} {fd : FuncData} {ps : List Str} {sp : Sp} {dvs : List V} {ds : List Value} {E : St → XK} {x m : Str} {p pos apos : Pos} {e o : Expr} {es : List Expr} {ta : TE} {t : TA}
theorem pe_call0S (F : FnOk X.prog X.w X.K X.mg X.base CX k f fd ps sp) (hr : Room k X.A) (hg : Gl X x) (hm : X.mg x = some (.ref f)) (hk : PySem.W.keepIn X.K (.ref f) = true) (hb : Binds X.K fd ps ds) (hd : Vals dvs ds) (hx : ∀ σ, PassesAt CX X σ (E σ))
    (hdb : (x == ("__debug__" : Str)) = false := by decide) : PE X (.Call (.Name x p) [] [] pos) (tCallSD sp dvs E tNil) :=
  ⟨fun _ _ σ _ _ I h => wpAny_Call_Name_kw (ld_glob I hg hm (PySem.W.callWith_K0 I.kIn hk (run_fnSD (us := []) F hr hb hd (hx σ) I .nil h)) hdb)⟩
/-- o.m(..) -/
def tMethZ (C : Addr) (m : Str) (sp : Sp) (dvs : List V) (E : St → XK) (ta : TE) (t : TA) : TE := fun σ H Q => ta σ H fun y H1 => ∃ a dx fs, y = .ref a ∧ H1 a = some (.ins C dx fs) ∧ fs.lookup m = none ∧
  t σ H1 fun vs H2 => sp (y :: (vs ++ dvs)) H2 Q (E σ)
/-- C(..) -/
def tMakeS (C : Addr) (sp : Sp) (dvs : List V) (E : St → XK) (t : TA) : TE := fun σ H Q => t σ H fun vs H1 => ∀ y dx, H1 y = none → H1 dx = none → dx ≠ y →
  sp (.ref y :: (vs ++ dvs)) (upd (upd H1 dx (.own y)) y (.ins C dx [])) (fun v H2 => v = .non ∧ Q (.ref y) H2) (E σ)
theorem pe_methZ {pl : Sem Bool} (he : PE X o ta) (c : Cls X.K C) (hm : Meth X.K C m f) (F : FnOk X.prog X.w X.K X.mg X.base CX k f fd ps sp) (hr : Room k X.A) (hb : Binds X.K fd ps ds) (hd : Vals dvs ds) (hx : ∀ σ, PassesAt CX X σ (E σ)) (ha : PA X (e :: es) t)
    (hst : starEach (e :: es) X.env = (false, eval e X.env) :: starEach es X.env := by rfl) (hpl : (backTo pos (starEach es X.env)).any (·.1) = false := by rfl)
    (ht : eval (.Call (.Attribute o m apos) (e :: es) [] pos) X.env = (eval o X.env >>= fun ov => standAt apos.atName >>= fun _ => holding [ov] (getMethod ov m pl) >>= fun ff => callWith pos ff.1 ff.2 (backTo pos (starEach (e :: es) X.env)) (backToKw pos (keywordEach [] X.env))) := by rfl) :
    PE X (.Call (.Attribute o m apos) (e :: es) [] pos) (tMethZ C m sp dvs E ta t) := by
  constructor
  intro pins s σ H Q I h
  refine PySem.W.methodCall_KW (pl := pl) (thn (he.run pins s σ H _ I h) ?_) ht
  rintro u s1 ⟨y, H1, I1, ry, a, dx, fs, rfl, ea, l, q⟩
  cases ry
  refine getmeth_ok I1 ea c hm l (PySem.W.callWith_K (first := [.ref a]) (h₀ := X.base) I.ok.mod.kin hm.kp (thn (ha.run pos pins s1 σ H1 _ I1 q) ?_) hst hpl)
  rintro us s2 ⟨vs, H2, I2, r, q2⟩
  exact ⟨I2.kIn, run_fnSD (us := .ref a :: us) (vs := .ref a :: vs) F hr hb hd (hx σ) I2 (.cons rfl r) q2⟩
theorem pe_meth0Z {pl : Sem Bool} (he : PE X o ta) (c : Cls X.K C) (hm : Meth X.K C m f) (F : FnOk X.prog X.w X.K X.mg X.base CX k f fd ps sp) (hr : Room k X.A) (hb : Binds X.K fd ps ds) (hd : Vals dvs ds) (hx : ∀ σ, PassesAt CX X σ (E σ))
    (ht : eval (.Call (.Attribute o m apos) [] [] pos) X.env = (eval o X.env >>= fun ov => standAt apos.atName >>= fun _ => holding [ov] (getMethod ov m pl) >>= fun ff => callWith pos ff.1 ff.2 (backTo pos (starEach [] X.env)) (backToKw pos (keywordEach [] X.env))) := by rfl) :
    PE X (.Call (.Attribute o m apos) [] [] pos) (tMethZ C m sp dvs E ta tNil) := by
  constructor
  intro pins s σ H Q I h
  refine PySem.W.methodCall_KW (pl := pl) (thn (he.run pins s σ H _ I h) ?_) ht
  rintro u s1 ⟨y, H1, I1, ry, a, dx, fs, rfl, ea, l, q⟩
  cases ry
  exact getmeth_ok I1 ea c hm l (PySem.W.callWith_K0 (first := [.ref a]) I1.kIn hm.kp (run_fnSD (us := [.ref a]) (vs := [.ref a]) F hr hb hd (hx σ) I1 (.cons rfl .nil) q))
theorem run_makeS {pins : List (Addr × Obj)} {σ : St} {H : Hp} {s : Shared} {Q : VK} {us : List Value} {vs : List V} (M : Mk X.K C f) (F : FnOk X.prog X.w X.K X.mg X.base CX k f fd ps sp) (hr : Room (k + 1) X.A) (hb : Binds X.K fd ps ds) (hd : Vals dvs ds)
    (hx : PassesAt CX X σ (E σ)) (I : Inv X pins σ H s) (r : Vals vs us)
    (h : ∀ y dx, H y = none → H dx = none → dx ≠ y → sp (.ref y :: (vs ++ dvs)) (upd (upd H dx (.own y)) y (.ins C dx [])) (fun v H2 => v = .non ∧ Q (.ref y) H2) (E σ)) :
    wpAny (model X.prog X.w) X.A (call (.ref C) us) (EP X pins σ Q) X.xe s := by
  have I2 := Inv.made (C := C) I
  have q := h (s.heap.objs.size + 1) s.heap.objs.size (I.hok.fresh (Nat.le_succ _)) (I.hok.fresh (Nat.le_refl _)) (Nat.ne_of_lt (Nat.lt_succ_self _))
  have rr : Vals (V.ref (s.heap.objs.size + 1) :: (vs ++ dvs)) (Value.ref (s.heap.objs.size + 1) :: us ++ ds) := .cons rfl (r.append hd)
  have hl : (Value.ref (s.heap.objs.size + 1) :: us ++ ds).length = ps.length := rr.length.symm.trans (F.len _ _ _ _ q)
  have run := F.run _ X.stack _ _ ⟨Value.ref (s.heap.objs.size + 1) :: us, []⟩ _ _ _ (E σ) (hr.make C us []) (I2.env0.make C us []) (hb _ (Value.ref (s.heap.objs.size + 1) :: us) I2.kIn hl) rr q
  refine wpAny_call (make_map (f := f) I.kIn M.makes M.init (beq_iff_eq.mp M.fn) (codeAny_mono run ?_))
  intro res s' hq
  match res, hq with
  | .error e, hq => exact hx pins _ _ e s' I2 hq
  | .ok (.ret u), hq =>
    obtain ⟨v, H', I3, rv, ev, q3⟩ := I2.after hq
    subst ev
    exact ⟨rv, V.ref (s.heap.objs.size + 1), H', I3, rfl, q3⟩
  | .ok .next, hq => exact hq.elim
  | .ok .brk, hq => exact hq.elim
  | .ok .cont, hq => exact hq.elim
theorem pe_makeS (M : Mk X.K C f) (F : FnOk X.prog X.w X.K X.mg X.base CX k f fd ps sp) (hr : Room (k + 1) X.A) (hg : Gl X x) (hm : X.mg x = some (.ref C)) (hb : Binds X.K fd ps ds) (hd : Vals dvs ds) (hx : ∀ σ, PassesAt CX X σ (E σ))
    (ha : PA X (e :: es) t) (hdb : (x == ("__debug__" : Str)) = false := by decide) (he : starEach (e :: es) X.env = (false, eval e X.env) :: starEach es X.env := by rfl) (hpl : (backTo pos (starEach es X.env)).any (·.1) = false := by rfl) :
    PE X (.Call (.Name x p) (e :: es) [] pos) (tMakeS C sp dvs E t) := by
  constructor
  intro pins s σ H Q I h
  refine wpAny_Call_Name_kw (ld_glob I hg hm (PySem.W.callWith_K (h₀ := X.base) I.ok.mod.kin M.kp (thn (ha.run pos pins s σ H _ I h) ?_) he hpl) hdb)
  rintro us s1 ⟨vs, H1, I1, r, q⟩
  exact ⟨I1.kIn, run_makeS M F hr hb hd (hx σ) I1 r q⟩
theorem pe_make0S (M : Mk X.K C f) (F : FnOk X.prog X.w X.K X.mg X.base CX k f fd ps sp) (hr : Room (k + 1) X.A) (hg : Gl X x) (hm : X.mg x = some (.ref C)) (hb : Binds X.K fd ps ds) (hd : Vals dvs ds) (hx : ∀ σ, PassesAt CX X σ (E σ))
    (hdb : (x == ("__debug__" : Str)) = false := by decide) : PE X (.Call (.Name x p) [] [] pos) (tMakeS C sp dvs E tNil) :=
  ⟨fun _ _ σ _ _ I h => wpAny_Call_Name_kw (ld_glob I hg hm (PySem.W.callWith_K0 I.kIn M.kp (run_makeS (us := []) M F hr hb hd (hx σ) I .nil h)) hdb)⟩
end
end L2

/-! Operators and built-ins by values, whatever the kinds of the operands; how a reading goes on is a lemma each. -/
namespace L2
open PySem PySem.Spec PyProof.Rows
abbrev Frg := PySem.W.Frag
/-! ### + -/
def rAddS : R2 := fun x y H Q => ∃ i j, x = .str i ∧ y = .str j ∧ i.length + j.length ≤ sizeLine ∧ Q (.str (i ++ j)) H
def rAddA : R2 := fun x y H Q => rI0 (fun i j => .int (i + j)) x y H Q ∨ rAddS x y H Q ∨ rCat x y H Q
theorem op_addA {X : Cx} : OpR X (binaryOp .Add) rAddA := op_add.or (OpR.or op_add_str op_cat)
theorem addA_int {i j : Int} {H : Hp} {Q : VK} (h : Q (.int (i + j)) H) : rAddA (.int i) (.int j) H Q := .inl ⟨_, _, rfl, rfl, h⟩
theorem addA_str {i j : Str} {H : Hp} {Q : VK} (hz : i.length + j.length ≤ sizeLine) (h : Q (.str (i ++ j)) H) : rAddA (.str i) (.str j) H Q := .inr (.inl ⟨_, _, rfl, rfl, hz, h⟩)
theorem addA_lst {a b : Addr} {xs ys : List V} {H : Hp} {Q : VK} (ha : H a = some (.lst xs)) (hb : H b = some (.lst ys)) (hz : xs.length + ys.length ≤ sizeLine) (h : ∀ p, H p = none → Q (.ref p) (upd H p (.lst (xs ++ ys)))) :
    rAddA (.ref a) (.ref b) H Q := .inr (.inr ⟨_, _, _, _, rfl, rfl, ha, hb, hz, h⟩)
/-! ### - // % ** -/
abbrev rSubA : R2 := rI0 fun i j => .int (i - j)
abbrev rDivA : R2 := rI CDivW fun i j => .int (i / j)
abbrev rModA : R2 := rI (fun _ j => 0 < j) fun i j => .int (i % j)
abbrev rPowA : R2 := rI CPow fun i j => .int (i ^ j.toNat)
theorem op_subA {X : Cx} : OpR X (binaryOp .Sub) rSubA := op_sub
theorem op_divA {X : Cx} : OpR X (binaryOp .FloorDiv) rDivA := op_fdivW
theorem op_modA {X : Cx} : OpR X (binaryOp .Mod) rModA := op_mod
theorem op_powA {X : Cx} : OpR X (binaryOp .Pow) rPowA := op_pow
/-! ### * -/
def repS (z : Str) (k : Nat) : Str := ⟨((List.replicate k z.cps.toList).flatten).toArray⟩
theorem fold_rep (z : Array Nat) : ∀ (n : Nat) (acc : Array Nat), (List.replicate n z).foldl (· ++ ·) acc = acc ++ ((List.replicate n z.toList).flatten).toArray
  | 0, acc => by simp
  | n + 1, acc => by
    rw [List.replicate_succ, List.foldl_cons, fold_rep z n, List.replicate_succ, List.flatten_cons]
    apply Array.ext'
    simp
theorem repS_length (z : Str) (k : Nat) : (repS z k).length = k * z.length := by
  show ((List.replicate k z.cps.toList).flatten).toArray.size = k * z.cps.size
  simp
def rRepS : R2 := fun x y H Q => ∃ z k, x = .str z ∧ y = .int k ∧ 0 ≤ k ∧ k ≤ 4096 ∧ z.length ≤ 4096 ∧ Q (.str (repS z k.toNat)) H
theorem op_repS {X : Cx} : OpR X (binaryOp .Mult) rRepS := by
  intro pins s σ H x y v u Q I rx ry h
  obtain ⟨z, k, rfl, rfl, h1, h2, h3, q⟩ := h
  obtain ⟨t, rfl⟩ := rx
  obtain ⟨t', rfl⟩ := ry
  have hs : sizeLine = 16777216 := sizeLine_eq
  by_cases k0 : k = 0
  · subst k0
    refine P.mul_str_none (by omega) (by omega) ?_
    have e0 : repS z (0 : Int).toNat = Str.empty := by show (⟨#[]⟩ : Str) = Str.empty; decide +kernel
    exact ⟨.str (repS z (0 : Int).toNat), H, I.tok _, ⟨_, by rw [e0]⟩, q⟩
  have hlen : z.length * k.toNat ≤ 16777216 := Nat.le_trans (Nat.mul_le_mul h3 (by omega : k.toNat ≤ 4096)) (by decide)
  refine P.mul_str (by rw [decide_eq_false (by omega), decide_eq_false (by omega)]; rfl) (fun _ _ => ?_) (fun _ _ => ?_) ?_
  · have hk : 0 < k := by omega
    have hd : (4096 : Int) ≤ (2 ^ 63 - 1) / k := by
      rw [Int.le_ediv_iff_mul_le hk]
      have : (4096 : Int) * k ≤ 4096 * 4096 := by omega
      omega
    omega
  · unfold PySem.Builtin.Str.tooLong
    rw [hs]
    exact decide_eq_false (by omega)
  · rw [if_neg (by omega)]
    by_cases hc : (k == 1 || z.length == 0) = true
    · rw [if_pos hc]
      have e : repS z k.toNat = z := by
        rcases Bool.or_eq_true_iff.mp hc with c | c
        · have : k = 1 := by simpa using c
          subst this
          unfold repS
          simp
        · have c0 : z.length = 0 := by simpa using c
          have hz : z.cps = #[] := Array.eq_empty_of_size_eq_zero c0
          obtain ⟨zc⟩ := z
          simp only at hz
          subst hz
          unfold repS
          simp
      rw [e] at q
      exact ⟨.str z, H, I, ⟨t, rfl⟩, q⟩
    · rw [if_neg hc]
      have e : (⟨(List.replicate k.toNat z.cps).foldl (· ++ ·) #[]⟩ : Str) = repS z k.toNat := by
        unfold repS
        rw [fold_rep]
        simp
      refine ⟨?_, ?_⟩
      · rw [e, repS_length, hs]
        rw [Nat.mul_comm]
        exact hlen
      · rw [e]
        exact ⟨.str (repS z k.toNat), H, I.tok _, ⟨_, rfl⟩, q⟩
def rMulA : R2 := fun x y H Q => rI CMul (fun i j => .int (i * j)) x y H Q ∨ rRep x y H Q ∨ rRepS x y H Q
theorem op_mulA {X : Cx} : OpR X (binaryOp .Mult) rMulA := op_mul.or (OpR.or op_rep op_repS)
theorem mulA_int {i j : Int} {H : Hp} {Q : VK} (hc : CMul i j) (h : Q (.int (i * j)) H) : rMulA (.int i) (.int j) H Q := .inl ⟨_, _, rfl, rfl, hc, h⟩
theorem mulA_str {z : Str} {k : Int} {H : Hp} {Q : VK} (h1 : 0 ≤ k) (h2 : k ≤ 4096) (h3 : z.length ≤ 4096) (h : Q (.str (repS z k.toNat)) H) : rMulA (.str z) (.int k) H Q := .inr (.inr ⟨_, _, rfl, rfl, h1, h2, h3, h⟩)
/-! ### == and != -/
def rEqA (K : Frg) : R2 := fun x y H Q => rEq x y H Q ∨ rEqD K x y H Q
def rNeA (K : Frg) : R2 := fun x y H Q => rNe x y H Q ∨ rNeD K x y H Q
theorem op_eqA {X : Cx} {k : Nat} (hr : Room k X.A) : OpR X (compareOp .Eq) (rEqA X.K) := op_eq.or (op_eqD hr.units)
theorem op_neA {X : Cx} {k : Nat} (hr : Room k X.A) : OpR X (compareOp .NotEq) (rNeA X.K) := op_ne.or (op_neD hr.units)
theorem decI (i j : Int) : decide (V.int i = V.int j) = decide (i = j) := by rw [dec_int, Bool.beq_eq_decide_eq]
theorem decS (i j : Str) : decide (V.str i = V.str j) = decide (i = j) := by rw [dec_str, Bool.beq_eq_decide_eq]
theorem eqA_int {K : Frg} {i j : Int} {H : Hp} {Q : VK} (h : Q (.bl (decide (i = j))) H) : rEqA K (.int i) (.int j) H Q := .inl ⟨rfl, by rw [decI]; exact h⟩
theorem eqA_str {K : Frg} {i j : Str} {H : Hp} {Q : VK} (h : Q (.bl (decide (i = j))) H) : rEqA K (.str i) (.str j) H Q := .inl ⟨rfl, by rw [decS]; exact h⟩
theorem neA_int {K : Frg} {i j : Int} {H : Hp} {Q : VK} (h : Q (.bl (!decide (i = j))) H) : rNeA K (.int i) (.int j) H Q := .inl ⟨rfl, by rw [decI]; exact h⟩
theorem neA_str {K : Frg} {i j : Str} {H : Hp} {Q : VK} (h : Q (.bl (!decide (i = j))) H) : rNeA K (.str i) (.str j) H Q := .inl ⟨rfl, by rw [decS]; exact h⟩
theorem eqA_data {K : Frg} {x y : V} {d e : PyData} {b : Bool} {H : Hp} {Q : VK} (hd : Dp K H x d) (he : Dp K H y e) (sd : SeqAt.shaped d = true) (se : SeqAt.shaped e = true) (hb : PyData.eqv d e = b) (h : Q (.bl b) H) : rEqA K x y H Q :=
  .inr ⟨d, e, hd, he, sd, se, by rw [hb]; exact h⟩
theorem neA_data {K : Frg} {x y : V} {d e : PyData} {b : Bool} {H : Hp} {Q : VK} (hd : Dp K H x d) (he : Dp K H y e) (sd : SeqAt.shaped d = true) (se : SeqAt.shaped e = true) (hb : PyData.eqv d e = b) (h : Q (.bl (!b)) H) : rNeA K x y H Q :=
  .inr ⟨d, e, hd, he, sd, se, by rw [hb]; exact h⟩
/-! ### < <= > >= -/
def rLtS : R2 := fun x y H Q => ∃ i j, x = .str i ∧ y = .str j ∧ Q (.bl (decide (i.cps.toList < j.cps.toList))) H
def rLtA : R2 := fun x y H Q => rI0 (fun i j => .bl (decide (i < j))) x y H Q ∨ rLtS x y H Q
theorem op_ltA {X : Cx} : OpR X (compareOp .Lt) rLtA := op_lt.or op_lt_str
abbrev rLeA : R2 := rI0 fun i j => .bl (decide (i ≤ j))
abbrev rGtA : R2 := rI0 fun i j => .bl (decide (j < i))
abbrev rGeA : R2 := rI0 fun i j => .bl (decide (j ≤ i))
theorem op_leA {X : Cx} : OpR X (compareOp .LtE) rLeA := op_le
theorem op_gtA {X : Cx} : OpR X (compareOp .Gt) rGtA := op_gt
theorem op_geA {X : Cx} : OpR X (compareOp .GtE) rGeA := op_ge
theorem ltA_int {i j : Int} {H : Hp} {Q : VK} (h : Q (.bl (decide (i < j))) H) : rLtA (.int i) (.int j) H Q := .inl ⟨_, _, rfl, rfl, h⟩
theorem i0_go {g : Int → Int → V} {i j : Int} {H : Hp} {Q : VK} (h : Q (g i j) H) : rI0 g (.int i) (.int j) H Q := ⟨_, _, rfl, rfl, h⟩
theorem i_go {C : Int → Int → Prop} {g : Int → Int → V} {i j : Int} {H : Hp} {Q : VK} (hc : C i j) (h : Q (g i j) H) : rI C g (.int i) (.int j) H Q := ⟨_, _, rfl, rfl, hc, h⟩
/-! ### in, not in -/
def rInS : R2 := fun x y H Q => ∃ (c : Nat) (z : Str), x = .str ⟨#[c]⟩ ∧ y = .str z ∧ Q (.bl (decide (c ∈ z.cps.toList))) H
def rNotInS : R2 := fun x y H Q => ∃ (c : Nat) (z : Str), x = .str ⟨#[c]⟩ ∧ y = .str z ∧ Q (.bl (!decide (c ∈ z.cps.toList))) H
def rInT : R2 := fun x y H Q => ∃ i j, x = .str i ∧ y = .str j ∧ Q (.bl (!(Builtin.Str.occurrences j i 0 j.length 1).isEmpty)) H
def rInA (K : Frg) : R2 := fun x y H Q => rInS x y H Q ∨ rIn K false x y H Q ∨ rInT x y H Q
def rNotInA (K : Frg) : R2 := fun x y H Q => rNotInS x y H Q ∨ rIn K true x y H Q
theorem op_inA {X : Cx} : OpR X (compareOp .In) (rInA X.K) := op_in_sign.or (OpR.or op_in_seq op_in_str)
theorem op_notInA {X : Cx} : OpR X (compareOp .NotIn) (rNotInA X.K) := op_notIn_sign.or op_notIn_seq
theorem inA_sign {K : Frg} {c : Nat} {z : Str} {H : Hp} {Q : VK} (h : Q (.bl (decide (c ∈ z.cps.toList))) H) : rInA K (.str ⟨#[c]⟩) (.str z) H Q := .inl ⟨c, z, rfl, rfl, h⟩
theorem notInA_sign {K : Frg} {c : Nat} {z : Str} {H : Hp} {Q : VK} (h : Q (.bl (!decide (c ∈ z.cps.toList))) H) : rNotInA K (.str ⟨#[c]⟩) (.str z) H Q := .inl ⟨c, z, rfl, rfl, h⟩
theorem inA_seq {K : Frg} {x : V} {p : Addr} {xs : List V} {H : Hp} {Q : VK} (hp : SqL K H p xs ∨ SqT K H p xs) (hx : flatV x = true) (ha : xs.all flatV = true) (h : Q (.bl (inV x xs)) H) : rInA K x (.ref p) H Q := .inr (.inl ⟨p, xs, rfl, hp, hx, ha, h⟩)
/-! ### is None -/
def rIsN' : R2 := fun x y H Q => y = .non ∧ Q (.bl (decide (x = .non))) H
def rNotN' : R2 := fun x y H Q => y = .non ∧ Q (.bl (!decide (x = .non))) H
theorem op_isA {X : Cx} : OpR X (compareOp .Is) rIsN' := op_isN
theorem op_isNotA {X : Cx} : OpR X (compareOp .IsNot) rNotN' := op_notN
/-! ### subscripts -/
abbrev rIxA := rIx
theorem ixA_lst {K : Frg} {p : Addr} {xs : List V} {i : Int} {v : V} {H : Hp} {Q : VK} (hp : SqL K H p xs) (hi : atI xs i = some v) (h : Q v H) : rIx K (.ref p) (.int i) H Q := .inl ⟨p, xs, i, v, rfl, rfl, hp, hi, h⟩
theorem ixA_tup {K : Frg} {p : Addr} {xs : List V} {i : Int} {v : V} {H : Hp} {Q : VK} (hp : SqT K H p xs) (hi : atI xs i = some v) (h : Q v H) : rIx K (.ref p) (.int i) H Q := .inr (.inl ⟨p, xs, i, v, rfl, rfl, hp, hi, h⟩)
theorem ixA_str {K : Frg} {z : Str} {i : Int} {c : Nat} {H : Hp} {Q : VK} (hz : z.length ≤ sizeLine) (hi : atI z.cps.toList i = some c) (h : Q (.str ⟨#[c]⟩) H) : rIx K (.str z) (.int i) H Q := .inr (.inr ⟨z, i, c, rfl, rfl, hz, hi, h⟩)
abbrev SlV := V → Option Int → Option Int → Hp → VK → Prop
def rSlA (K : Frg) : SlV := fun x lo hi H Q => rSlS x lo hi H Q ∨ rSlL K x lo hi H Q
theorem sl_A {X : Cx} : SlR X (rSlA X.K) := sl_str.or sl_list
theorem slA_str {K : Frg} {z : Str} {lo hi : Option Int} {H : Hp} {Q : VK} (hz : z.length ≤ sizeLine) (h : Q (.str (cutS z lo hi)) H) : rSlA K (.str z) lo hi H Q := .inl ⟨z, rfl, hz, h⟩
theorem slA_lst {K : Frg} {a : Addr} {xs : List V} {lo hi : Option Int} {H : Hp} {Q : VK} (ha : SqL K H a xs) (h : ∀ p, H p = none → Q (.ref p) (upd H p (.lst (cutV xs lo hi)))) : rSlA K (.ref a) lo hi H Q := .inr ⟨a, xs, rfl, ha, h⟩
/-! ### built-ins by their names -/
abbrev RC := List V → Hp → VK → Prop
def rLenA (K : Frg) : RC := fun xs H Q => ∃ x n, xs = [x] ∧ LenV K x H n ∧ Q (.int n) H
theorem c_len {X : Cx} : CallR X (.builtin "len") (rLenA X.K) := call_len
theorem lenA_str {K : Frg} {z : Str} {H : Hp} {Q : VK} (hz : z.length ≤ sizeLine) (h : Q (.int z.length) H) : rLenA K [.str z] H Q := ⟨_, _, rfl, ⟨hz, rfl⟩, h⟩
theorem lenA_lst {K : Frg} {a : Addr} {xs : List V} {H : Hp} {Q : VK} (ha : SqL K H a xs) (h : Q (.int xs.length) H) : rLenA K [.ref a] H Q := ⟨_, _, rfl, .inl ⟨_, ha, rfl⟩, h⟩
theorem lenA_tup {K : Frg} {a : Addr} {xs : List V} {H : Hp} {Q : VK} (ha : SqT K H a xs) (h : Q (.int xs.length) H) : rLenA K [.ref a] H Q := ⟨_, _, rfl, .inr ⟨_, ha, rfl⟩, h⟩
def rAbsA : RC := fun xs H Q => ∃ i, xs = [.int i] ∧ Q (.int (if i < 0 then -i else i)) H
theorem c_abs {X : Cx} : CallR X (.builtin "abs") rAbsA := call_abs
def rIntA : RC := fun xs H Q => (∃ i, xs = [.int i] ∧ Q (.int i) H) ∨ ∃ k, xs = [.bl k] ∧ Q (.int (if k then 1 else 0)) H
theorem c_int {X : Cx} : CallR X (.type "int") rIntA := call_int1
theorem intA_int {i : Int} {H : Hp} {Q : VK} (h : Q (.int i) H) : rIntA [.int i] H Q := .inl ⟨i, rfl, h⟩
def rListA (K : Frg) : RC := fun xs H Q => ∃ p ys, xs = [.ref p] ∧ (SqL K H p ys ∨ SqT K H p ys) ∧ ∀ l, H l = none → Q (.ref l) (upd H l (.lst ys))
theorem c_list {X : Cx} : CallR X (.type "list") (rListA X.K) := call_list_of
def rJoinA (K : Frg) : V → List V → Hp → VK → Prop := fun x xs H Q => ∃ a p, ∃ ys : List Str, x = .str a ∧ xs = [.ref p] ∧ (SqL K H p (ys.map V.str) ∨ SqT K H p (ys.map V.str)) ∧ (ys.map (·.length)).sum + ys.length * a.length ≤ 16777216 ∧ Q (.str (Txt.join a ys)) H
theorem pe_joinA {X : Cx} {o e : Expr} {to te : TE} {apos pos : Pos} (ho : PE X o to) (he : PE X e te) (h1 : starEach [e] X.env = [(false, eval e X.env)] := by rfl) (h2 : attributeBase o "join" X.env (eval o X.env) = eval o X.env := by rfl) (h3 : (apos.endLine == pos.line) = true := by rfl) :
    PE X (.Call (.Attribute o "join" apos) [e] [] pos) (tM1 (rJoinA X.K) to te) := pe_join ho he h1 h2 h3
def rIsiA (K : Frg) : RC := rIsi K
theorem c_isi {X : Cx} : CallR X (.builtin "isinstance") (rIsiA X.K) := call_isi
theorem isi_go {K : Frg} {x c : V} {t u : Value} {b : Bool} {H : Hp} {Q : VK} (hc : ClsV c u) (ht : TyX K H x t) (hk : PySem.W.kitOne K t u = some b) (h : Q (.bl b) H) : rIsiA K [x, c] H Q := ⟨x, c, t, u, b, rfl, hc, ht, hk, h⟩
/-! ### constants of the module -/
theorem pe_gint {X : Cx} {x : Str} {i : Int} {pos : Pos} (hg : Gl X x) (hm : ∃ t, X.mg x = some (.int i t)) (hd : (x == ("__debug__" : Str)) = false := by decide) : PE X (.Name x pos) (tC (.int i)) :=
  let ⟨t, h⟩ := hm; pe_glob hg h ⟨t, rfl⟩ hd
theorem pe_gstr {X : Cx} {x z : Str} {pos : Pos} (hg : Gl X x) (hm : ∃ t, X.mg x = some (.str z t)) (hd : (x == ("__debug__" : Str)) = false := by decide) : PE X (.Name x pos) (tC (.str z)) :=
  let ⟨t, h⟩ := hm; pe_glob hg h ⟨t, rfl⟩ hd
/-- what a def wishes of exceptions -/
def W0 (E : XK) : WX := fun cls d _ H => E cls d H
def WN : WX := fun _ _ _ _ => False
end L2

/-! Built-ins and operators over instances of the program's own classes. -/
namespace L2
open PySem PySem.Spec PyProof.Rows
section
variable {X : Cx} {CX : CXT} {k : Nat} {f C a dx : Addr} {fs : List (Str × V)} {fd : FuncData} {ps : List Str} {sp : Sp} {dvs : List V} {ds : List Value} {pins : List (Addr × Obj)} {σ : St} {H : Hp} {s : Shared}
/-- a def of the text runs within a built-in -/
theorem run_in {A' : Around} {Q : VK} {E : XK} {us : List Value} {vs : List V} (F : FnOk X.prog X.w X.K X.mg X.base CX k f fd ps sp) (hr : Room k A') (hfr : A'.frames = X.A.frames) (hb : Binds X.K fd ps ds) (hd : Vals dvs ds)
    (hx : PassesAt CX X σ E) (I : Inv X pins σ H s) (r : Vals vs us) (h : sp (vs ++ dvs) H Q E) : wpAny (model X.prog X.w) A' (call (.ref f) us) (EP X pins σ Q) X.xe s := by
  have e0 := I.env0
  have e1 : Env0 X.prog X.w X.K X.mg X.base A' X.stack s H := ⟨hfr.trans e0.frames, e0.mod, e0.bs, e0.bsz, e0.funs, e0.frf, e0.hok, e0.bare⟩
  have rr : Vals (vs ++ dvs) (us ++ ds) := r.append hd
  refine wpAny_call (codeAny_mono (F.run A' X.stack s H ⟨us, []⟩ _ _ Q E hr e1 (hb s us I.kIn (rr.length.symm.trans (F.len _ _ _ _ h))) rr h) ?_)
  intro res s' hq
  match res, hq with
  | .error e, hq => exact hx pins H s e s' I hq
  | .ok (.ret u), hq => exact I.after hq
  | .ok .next, hq => exact hq.elim
  | .ok .brk, hq => exact hq.elim
  | .ok .cont, hq => exact hq.elim
/-- an instance as the library's rules see it -/
theorem Inv.instAt (I : Inv X pins σ H s) (ea : H a = some (.ins C dx fs)) : ∃ od, PySem.W.InstAt s.heap a (PySem.W.instObj C dx) C (some od) := by
  obtain ⟨mA, O, _⟩ := ins_get I.hok ea
  obtain ⟨od, J, _⟩ := O.look
  exact ⟨od, J⟩
/-- str(o), o's class with a __str__ of the program -/
def rStrO (C : Addr) (sp : Sp) (E : St → XK) (σ : St) : List V → Hp → VK → Prop := fun xs H Q => ∃ a dx fs, xs = [.ref a] ∧ H a = some (.ins C dx fs) ∧ sp [.ref a] H (fun v H' => ∃ z, v = .str z ∧ Q (.str z) H') (E σ)
def tStrO (C : Addr) (sp : Sp) (E : St → XK) (t : TA) : TE := fun σ H Q => t σ H fun vs H1 => rStrO C sp E σ vs H1 Q
theorem pe_strO {E : St → XK} {p pos : Pos} {e : Expr} {es : List Expr} {t : TA} (m : Meth X.K C "__str__" f) (F : FnOk X.prog X.w X.K X.mg X.base CX k f fd ps sp) (hr : Room (k + 2) X.A) (hb : Binds X.K fd ps []) (hx : ∀ σ, PassesAt CX X σ (E σ))
    (hg : Gl X "str") (hm : X.mg "str" = none) (ha : PA X (e :: es) t)
    (he : starEach (e :: es) X.env = (false, eval e X.env) :: starEach es X.env := by rfl) (hpl : (backTo pos (starEach es X.env)).any (·.1) = false := by rfl) : PE X (.Call (.Name "str" p) (e :: es) [] pos) (tStrO C sp E t) := by
  constructor
  intro pins s σ H Q I h
  refine wpAny_Call_Name_kw (ld_blt I hg hm (by decide +kernel : bootBuiltins "str" = some (.type "str")) ?_ (by decide) (by decide))
  refine PyProof.Rows.callWith_type1 (thn (ha.run pos pins s σ H _ I h) ?_) he hpl
  rintro us s1 ⟨vs, H1, I1, r1, a, dx, fs, rfl, ea, q⟩
  cases r1 with
  | cons ra rn =>
    cases rn
    cases ra
    obtain ⟨od, J⟩ := I1.instAt ea
    refine PySem.W.kso_call (hr.in1.in1.units0) I1.kIn J m.at_ m.fn (thn (run_in (vs := [.ref a]) (dvs := []) (ds := []) F hr.in1.in1 rfl hb .nil (hx σ) I1 (.cons rfl .nil) (by simpa using q)) ?_)
    rintro v s2 ⟨x, H2, I2, rx, z, rfl, q2⟩
    obtain ⟨t, rfl⟩ := rx
    exact ⟨.str z, H2, I2, ⟨t, rfl⟩, q2⟩
end
end L2

/-! What the head tells of the written part: a Bool of facts, and the function objects by their places. -/
namespace Rz
open PySem PySem.Spec PyProof.Rows L2 He
abbrev Fg := PySem.W.Frag
/-! ### looking into K -/
def funOf (K : Fg) (f : Addr) : Option FuncData := match K.lookup f with
  | some o => (match o.data with
    | .func fd => some fd
    | _ => none)
  | none => none
theorem funOf_ok {K : Fg} {f : Addr} {fd : FuncData} (h : funOf K f = some fd) : ∃ oc od osl, K.lookup f = some ⟨oc, od, .func fd, osl⟩ := by
  unfold funOf at h
  cases q : K.lookup f with
  | none => rw [q] at h; cases h
  | some o =>
    obtain ⟨oc, od, dt, osl⟩ := o
    rw [q] at h
    cases dt with
    | func fd' =>
      have e : fd' = fd := Option.some.inj h
      subst e
      exact ⟨oc, od, osl, rfl⟩
    | _ => cases h
theorem funOf_eq {K : Fg} {f : Addr} {fd : FuncData} {oc od osl} (h : K.lookup f = some ⟨oc, od, .func fd, osl⟩) : funOf K f = some fd := by
  unfold funOf
  rw [h]
def fldsOf (K : Fg) (a : Addr) : Option (Array Value) := match K.lookup a with
  | some o => (match o.data with
    | .fields vs => some vs
    | _ => none)
  | none => none
theorem fldsOf_ok {K : Fg} {a : Addr} {vs : Array Value} (h : fldsOf K a = some vs) : ∃ oc od osl, K.lookup a = some ⟨oc, od, .fields vs, osl⟩ := by
  unfold fldsOf at h
  cases q : K.lookup a with
  | none => rw [q] at h; cases h
  | some o =>
    obtain ⟨oc, od, dt, osl⟩ := o
    rw [q] at h
    cases dt with
    | fields v =>
      have e : v = vs := Option.some.inj h
      subst e
      exact ⟨oc, od, osl, rfl⟩
    | _ => cases h
def cellOf (K : Fg) (a : Addr) : Option (Option Value) := match K.lookup a with
  | some o => (match o.data with
    | .cell v => some v
    | _ => none)
  | none => none
theorem cellOf_ok {K : Fg} {a : Addr} {v : Option Value} (h : cellOf K a = some v) : ∃ oc od osl, K.lookup a = some ⟨oc, od, .cell v, osl⟩ := by
  unfold cellOf at h
  cases q : K.lookup a with
  | none => rw [q] at h; cases h
  | some o =>
    obtain ⟨oc, od, dt, osl⟩ := o
    rw [q] at h
    cases dt with
    | cell u =>
      have e : u = v := Option.some.inj h
      subst e
      exact ⟨oc, od, osl, rfl⟩
    | _ => cases h
def strOf? : Value → Option Str
  | .str x _ => some x
  | _ => none
theorem strOf?_ok {v : Value} {x : Str} (h : strOf? v = some x) : ∃ t, v = .str x t := by
  cases v with
  | str y t =>
    have e : y = x := Option.some.inj h
    exact ⟨t, by rw [e]⟩
  | _ => cases h
def refOf? : Value → Option Addr
  | .ref a => some a
  | _ => none
theorem refOf?_ok {v : Value} {a : Addr} (h : refOf? v = some a) : v = .ref a := by
  cases v with
  | ref b => exact congrArg Value.ref (Option.some.inj h)
  | _ => cases h
def clsOf (K : Fg) (a : Addr) : Option (ClassData × Array (Option Value)) := match K.lookup a with
  | some o => (match o.data with
    | .cls cd => (match decide (o.cls = .type "type") with
      | true => some (cd, o.slots)
      | false => none)
    | _ => none)
  | none => none
theorem clsOf_ok {K : Fg} {a : Addr} {cd : ClassData} {sl : Array (Option Value)} (h : clsOf K a = some (cd, sl)) : ∃ od, K.lookup a = some ⟨.type "type", od, .cls cd, sl⟩ := by
  unfold clsOf at h
  cases q : K.lookup a with
  | none => rw [q] at h; cases h
  | some o =>
    obtain ⟨oc, od, dt, osl⟩ := o
    rw [q] at h
    cases dt with
    | cls c =>
      cases e : decide (oc = Value.type "type") with
      | false =>
        simp only [e] at h
        cases h
      | true =>
        simp only [e] at h
        have e1 := Option.some.inj h
        have e2 : c = cd := congrArg Prod.fst e1
        have e3 : osl = sl := congrArg Prod.snd e1
        have e4 : oc = .type "type" := of_decide_eq_true e
        subst e2 e3 e4
        exact ⟨od, rfl⟩
    | _ => cases h
/-! ### where a function stands -/
def pG (x : Str) : Fg → Addr := fun K => ga K x
def pM (C m : Str) : Fg → Addr := fun K => ma K (ga K C) m
/-- the record that a class has at a name (a property's, a classmethod's) -/
def recAt (C m : Str) : Fg → Addr := fun K => ma K (ga K C) m
def firstOf (n : String) (p : Addr) (K : Fg) : Addr := match PySem.W.recIn K p n with
  | some (.ref g :: _) => g
  | _ => 0
def pP (C m : Str) : Fg → Addr := fun K => firstOf "property" (recAt C m K) K
def pC (C m : Str) : Fg → Addr := fun K => firstOf "classmethod" (recAt C m K) K
/-! ### a function's datum -/
structure Dq where
  at_ : Fg → Addr
  name : Str
  qual : Str
  params : Arguments
  body : List Stmt
  scope : Scope
  clo : List Str := []
  dfl : List Dv := []
  kwd : List (Str × Dv) := []
abbrev FnQ : Type := Option (Str × Str × Arguments × FuncBody × Scope × Addr × List Str × Addr)
def fnQ (K : Fg) (f : Addr) : FnQ := (funOf K f).map fun fd => (fd.name, fd.qualname, fd.params, fd.body, fd.scope, fd.globals, fd.closure.map (·.1), fd.builtins)
def Dq.val (d : Dq) : FnQ := some (d.name, d.qual, d.params, .stmts d.body, d.scope, mainGlobals, d.clo, builtinsNs)
def Dq.dvs (K : Fg) (d : Dq) : List V := d.dfl.map (Dv.v K)
def Dq.kws (K : Fg) (d : Dq) : List (Str × V) := d.kwd.map fun q => (q.1, q.2.v K)
def Dq.ok (K : Fg) (d : Dq) : Bool := PySem.W.keepIn K (.ref (d.at_ K)) && (match funOf K (d.at_ K) with
  | some fd => PySem.W.codeIn K fd.code d.qual && (dflB K fd.defaults (d.dvs K) && kwdB K fd.kwdefaults (d.kws K))
  | none => false)
theorem Dq.parts {K : Fg} {d : Dq} (e : fnQ K (d.at_ K) = d.val) (c : d.ok K = true) : ∃ oc od osl cl dV kV doc pm an cdv ct, K.lookup (d.at_ K) = some ⟨oc, od, .func (PySem.W.fnX d.name d.qual d.params d.body d.scope cl dV kV doc pm an cdv ct), osl⟩ ∧ cl.map (·.1) = d.clo ∧
    PySem.W.keepIn K (.ref (d.at_ K)) = true ∧ PySem.W.codeIn K cdv d.qual = true ∧ DflV K dV (d.dvs K) ∧ KwdV K kV (d.kws K) := by
  unfold Dq.ok at c
  unfold fnQ at e
  obtain ⟨kp, c2⟩ := ba c
  cases q : funOf K (d.at_ K) with
  | none => rw [q] at c2; cases c2
  | some fd =>
    rw [q] at c2 e
    obtain ⟨oc, od, osl, lk⟩ := funOf_ok q
    obtain ⟨n1, n2, n3, n4, n5, n6, n7, n8, n9, n10, n11, n12, n13, n14, n15⟩ := fd
    simp only [Dq.val, Option.map_some, Option.some.injEq, Prod.mk.injEq] at e
    obtain ⟨h1, h2, h3, h4, h5, h6, h7, h8⟩ := e
    subst h1 h2 h3 h4 h5 h6 h8
    obtain ⟨k1, k2⟩ := ba c2
    obtain ⟨k3, k4⟩ := ba k2
    exact ⟨oc, od, osl, n7, n8, n9, n10, n11, n12, n13, n14, lk, h7, kp, k1, dflB_ok k3, kwdB_ok k4⟩
theorem Dq.funD {K : Fg} {d : Dq} (e : fnQ K (d.at_ K) = d.val) (c : d.ok K = true) (hc : d.clo = []) : ∃ fd, FunD K d.name d.qual d.params d.body d.scope (d.dvs K) (d.kws K) (d.at_ K) fd := by
  obtain ⟨oc, od, osl, cl, dV, kV, doc, pm, an, cdv, ct, h1, h2, h3, h4, h5, h6⟩ := Dq.parts e c
  rw [hc] at h2
  have : cl = [] := List.map_eq_nil_iff.mp h2
  subst this
  exact ⟨_, ⟨oc, od, dV, kV, doc, pm, an, cdv, ct, osl, rfl, h1, h4, h5, h6⟩, h3⟩
/-! ### facts of classes -/
def gloB (x : Str) : Fg → Bool := fun K => (Fa.glo x).ok K
def firstB (n : String) (p : Addr) (K : Fg) : Bool := decide ((PySem.W.recIn K p n).bind List.head? = some (.ref (firstOf n p K)))
theorem firstB_ok {n : String} {p : Addr} {K : Fg} (h : firstB n p K = true) : ∃ rest, PySem.W.recIn K p n = some (.ref (firstOf n p K) :: rest) := by
  have e := of_decide_eq_true h
  cases q : PySem.W.recIn K p n with
  | none => rw [q] at e; cases e
  | some l =>
    rw [q] at e
    cases l with
    | nil => cases e
    | cons v r =>
      have ev : v = .ref (firstOf n p K) := Option.some.inj e
      exact ⟨r, by rw [ev]⟩
def propB (C m : Str) : Fg → Bool := fun K => eqO (PySem.W.findIn K (.ref (ga K C)) m) (some (some (.ref (recAt C m K)))) && (eqO (PySem.W.specialIn K (.ref (recAt C m K)) "__get__") (some (some (.builtin "property.__get__"))) &&
  (decide (PySem.W.takesIn K (.ref (recAt C m K)) = some true) && firstB "property" (recAt C m K) K))
theorem propB_ok {C m : Str} {K : Fg} (h : propB C m K = true) : PropOf K (ga K C) m (recAt C m K) (pP C m K) := by
  obtain ⟨h1, h⟩ := ba h
  obtain ⟨h2, h⟩ := ba h
  obtain ⟨h3, h4⟩ := ba h
  exact ⟨eqO_ok h1, eqO_ok h2, of_decide_eq_true h3, firstB_ok h4⟩
/-- an exception class of the program -/
def mroVE (C : Addr) (l : List Value) : Bool := decide (l.head? = some (.ref C)) && PySem.HandSPX.refsVE l.tail
def slotsVE (sl : Array (Option Value)) : Bool := decide (sl.size = 6) && decide (sl[4]? = some (some (.builtin "ValueError.__new__")))
def clsVE (K : Fg) (C : Addr) : Bool := match clsOf K C with
  | some (cd, sl) => mroVE C cd.mro && (cd.hasDict && (!cd.hasDel && slotsVE sl))
  | none => false
theorem clsVE_ok {K : Fg} {C : Addr} (h : clsVE K C = true) : ∃ nm q N bs bm sn sub ab col dd k0 k1 k2 k3 k5, K.lookup C = some (excClassObj nm q C N bs bm true sn sub ab col dd k0 k1 k2 k3 k5 "ValueError.__new__") ∧ PySem.HandSPX.refsVE bm = true := by
  unfold clsVE at h
  cases q : clsOf K C with
  | none => rw [q] at h; cases h
  | some r =>
    obtain ⟨cd, sl⟩ := r
    rw [q] at h
    obtain ⟨od, lk⟩ := clsOf_ok q
    obtain ⟨nm, bs, mro, N, qn, hd, sn, sub, ab, col, del⟩ := cd
    obtain ⟨h2, h⟩ := ba (show (mroVE C mro && (hd && (!del && slotsVE sl))) = true from h)
    obtain ⟨h3, h⟩ := ba h
    obtain ⟨h4, h5⟩ := ba h
    have e4 : del = false := by simpa using h4
    subst h3 e4
    obtain ⟨h6, h7⟩ := ba h2
    obtain ⟨h8, h9⟩ := ba h5
    cases mro with
    | nil => cases of_decide_eq_true h6
    | cons v bm =>
      have ev : v = .ref C := Option.some.inj (of_decide_eq_true h6)
      subst ev
      obtain ⟨l⟩ := sl
      have z : l.length = 6 := of_decide_eq_true h8
      have z4 : l[4]? = some (some (.builtin "ValueError.__new__")) := by simpa using of_decide_eq_true h9
      obtain ⟨k0, l, rfl⟩ := List.exists_cons_of_length_eq_add_one z
      obtain ⟨k1, l, rfl⟩ := List.exists_cons_of_length_eq_add_one (Nat.succ.inj z)
      obtain ⟨k2, l, rfl⟩ := List.exists_cons_of_length_eq_add_one (Nat.succ.inj (Nat.succ.inj z))
      obtain ⟨k3, l, rfl⟩ := List.exists_cons_of_length_eq_add_one (Nat.succ.inj (Nat.succ.inj (Nat.succ.inj z)))
      obtain ⟨k4, l, rfl⟩ := List.exists_cons_of_length_eq_add_one (Nat.succ.inj (Nat.succ.inj (Nat.succ.inj (Nat.succ.inj z))))
      obtain ⟨k5, l, rfl⟩ := List.exists_cons_of_length_eq_add_one (Nat.succ.inj (Nat.succ.inj (Nat.succ.inj (Nat.succ.inj (Nat.succ.inj z)))))
      have e0 : l = [] := List.eq_nil_of_length_eq_zero (Nat.succ.inj (Nat.succ.inj (Nat.succ.inj (Nat.succ.inj (Nat.succ.inj (Nat.succ.inj z))))))
      have e4 : k4 = some (.builtin "ValueError.__new__") := by simpa using z4
      subst e0 e4
      exact ⟨nm, qn, N, bs, bm, sn, sub, ab, col, od, k0, k1, k2, k3, k5, lk, h7⟩
def excB (x : Str) : Fg → Bool := fun K => clsVE K (ga K x) && (eqO (PySem.W.findIn K (.ref (ga K x)) "__setattr__") (some (some (.builtin "object.__setattr__"))) && (PySem.W.keepIn K (.ref (ga K x)) && (decide (PySem.W.subIn K (.ref (ga K x)) (.type "BaseException") = some true) &&
  (decide (PySem.W.subIn K (.ref (ga K x)) (.type "ValueError") = some true) && (decide (PySem.W.typeIn K (.ref (ga K x)) = some (.type "type")) && (eqO (PySem.W.nsIn K cStatics "thirdparty.any") (some none) && xfB K (ga K x)))))))
theorem excB_ok {x : Str} {K : Fg} (h : excB x K = true) : ExC K (ga K x) ∧ XfC K (ga K x) := by
  obtain ⟨h1, h⟩ := ba h
  obtain ⟨h2, h⟩ := ba h
  obtain ⟨h3, h⟩ := ba h
  obtain ⟨h4, h⟩ := ba h
  obtain ⟨h5, h⟩ := ba h
  obtain ⟨h6, h⟩ := ba h
  obtain ⟨h7, h8⟩ := ba h
  exact ⟨⟨clsVE_ok h1, eqO_ok h2, h3, of_decide_eq_true h4, of_decide_eq_true h5, of_decide_eq_true h6, eqO_ok h7⟩, xfB_ok h8⟩
/-- its __init__: the cell of __class__, the code object -/
def ccOf (f : Addr) (K : Fg) : Addr := match funOf K f with
  | some fd => (match fd.closure.head? with
    | some q => q.2
    | none => 0)
  | none => 0
def cdOf (f : Addr) (K : Fg) : Addr := match funOf K f with
  | some fd => (refOf? fd.code).getD 0
  | none => 0
def fileB (P : Program) (c : Addr) (K : Fg) : Bool := match (fldsOf K c).bind fun vs => vs[2]?.bind strOf? with
  | some file => (P.main.file : Str) == file
  | none => false
theorem fileB_ok {P : Program} {c : Addr} {K : Fg} (h : fileB P c K = true) : ∃ (ccl : Value) (cdd : Option Addr) (vs : Array Value) (ccs : Array (Option Value)) (file : Str) (tf : Tok),
    K.lookup c = some ⟨ccl, cdd, .fields vs, ccs⟩ ∧ vs[2]? = some (.str file tf) ∧ ((P.main.file : Str) == file) = true := by
  unfold fileB at h
  cases q : fldsOf K c with
  | none => rw [q] at h; cases h
  | some vs =>
    rw [q] at h
    obtain ⟨oc, od, osl, lk⟩ := fldsOf_ok q
    cases q2 : vs[2]? with
    | none =>
      simp only [Option.bind_some, q2, Option.bind_none] at h
      cases h
    | some v =>
      simp only [Option.bind_some, q2] at h
      cases q3 : strOf? v with
      | none => rw [q3] at h; cases h
      | some file =>
        rw [q3] at h
        obtain ⟨t, rfl⟩ := strOf?_ok q3
        exact ⟨oc, od, vs, osl, file, t, lk, q2, h⟩
def iniB (P : Program) (x : Str) : Fg → Bool := fun K => eqO (PySem.W.findIn K (.ref (ga K x)) "__init__") (some (some (.ref (pM x "__init__" K)))) && (decide (PySem.W.typeIn K (.ref (pM x "__init__" K)) = some (.type "function")) &&
  (fileB P (cdOf (pM x "__init__" K) K) K && (decide (cellOf K (ccOf (pM x "__init__" K) K) = some (some (.ref (ga K x)))) && eqO (PySem.W.ks_superIn K (ga K x) (ga K x) "__init__") (some (some (.builtin "ValueError.__init__"))))))
theorem iniB_ok {P : Program} {x : Str} {K : Fg} {d : Dq} (h : iniB P x K = true) (ht : (P.main.scope.names.lookup ("super" : Str)).isSome = false) (hd : d.at_ = pM x "__init__") (e : fnQ K (d.at_ K) = d.val) (c : d.ok K = true) (hc : d.clo = [("__class__" : Str)]) (hdf : d.dfl = []) :
    ExF P K (ga K x) (pM x "__init__" K) (ccOf (pM x "__init__" K) K) (cdOf (pM x "__init__" K) K) d.params d.body d.scope := by
  obtain ⟨h1, h⟩ := ba h
  obtain ⟨h2, h⟩ := ba h
  obtain ⟨h3, h⟩ := ba h
  obtain ⟨h4, h5⟩ := ba h
  obtain ⟨oc, od, osl, cl, dV, kV, doc, pm, an, cdv, ct, g1, g2, g3, g4, g5, g6⟩ := Dq.parts e c
  rw [hc] at g2
  rw [hd] at g1
  obtain ⟨cc, rfl⟩ : ∃ cc, cl = [(("__class__" : Str), cc)] := by
    cases cl with
    | nil => cases g2
    | cons p r =>
      obtain ⟨n, cc⟩ := p
      cases r with
      | nil =>
        have : n = "__class__" := by simpa using g2
        exact ⟨cc, by rw [this]⟩
      | cons _ _ => simp at g2
  have hdv : dV = .none := by
    rcases g5 with ⟨_, z⟩ | ⟨z, _⟩
    · exact z
    · exact absurd (by unfold Dq.dvs; rw [hdf]; rfl) z
  subst hdv
  obtain ⟨cda, rfl⟩ : ∃ cda, cdv = .ref cda := by
    cases cdv with
    | ref a => exact ⟨a, rfl⟩
    | _ => cases g4
  have ecc : ccOf (pM x "__init__" K) K = cc := by
    unfold ccOf
    rw [funOf_eq g1]
    rfl
  have ecd : cdOf (pM x "__init__" K) K = cda := by
    unfold cdOf
    rw [funOf_eq g1]
    rfl
  rw [ecc, ecd]
  rw [ecc] at h4
  rw [ecd] at h3
  refine ⟨eqO_ok h1, of_decide_eq_true h2, ⟨oc, od, d.name, d.qual, kV, doc, pm, ct, an, osl, g1, g4⟩, fileB_ok h3, ?_, eqO_ok h5, ht⟩
  obtain ⟨a, b, c', q⟩ := cellOf_ok (of_decide_eq_true h4)
  exact ⟨a, b, c', q⟩
/-! ### the Hook -/
def growR (g : Addr → Option Obj) (as : List Addr) : List Addr := growD g as
def asR (g : Addr → Option Obj) : Nat → List Addr
  | 0 => [mainGlobals, cStatics]
  | n + 1 => growR g (asR g n)
abbrev AlR : Type := Bool × List FnQ
def obsR (fa : List (Fg → Bool)) (fn : List Dq) (K : Fg) : AlR := ((fa.all fun f => f K) && fn.all fun d => d.ok K, fn.map fun d => fnQ K (d.at_ K))
def valR (fn : List Dq) : AlR := (true, fn.map Dq.val)
def SaysR (fa : List (Fg → Bool)) (fn : List Dq) (K : Fg) : Prop := obsR fa fn K = valR fn
def obsRG (n : Nat) (fa : List (Fg → Bool)) (fn : List Dq) (g : Addr → Option Obj) : AlR := obsR fa fn (frG g (asR g n))
def hookR (n : Nat) (fa : List (Fg → Bool)) (fn : List Dq) : PySem.W.Hook where
  α := AlR
  obs := fun s => obsRG n fa fn s.heap.get?
  val := fun _ => valR fn
  says := fun _ h => ∃ K : Fg, K.In h ∧ SaysR fa fn K
  of := fun _ _ e => ⟨_, frG_in, e⟩
  keeps := fun _ _ _ ⟨K, hK, c⟩ k => ⟨K, PySem.W.Frag.In.keeps hK k, c⟩
theorem obsRG_eq {n : Nat} {fa : List (Fg → Bool)} {fn : List Dq} {g : Addr → Option Obj} {s : Shared} (h : ∀ a, g a = s.heap.get? a) : obsRG n fa fn g = (hookR n fa fn).obs s := by
  have e : g = s.heap.get? := funext h
  rw [e] <;> rfl
section
variable {fa : List (Fg → Bool)} {fn : List Dq} {K : Fg}
theorem SaysR.fact (c : SaysR fa fn K) (i : Nat) {f : Fg → Bool} (h : fa[i]? = some f := by rfl) : f K = true := by
  have c1 := (ba (show ((fa.all fun f => f K) && fn.all fun d => d.ok K) = true from congrArg Prod.fst c)).1
  exact List.all_eq_true.mp c1 f (List.mem_of_getElem? h)
theorem SaysR.def_ (c : SaysR fa fn K) (i : Nat) {d : Dq} (h : fn[i]? = some d := by rfl) : fnQ K (d.at_ K) = d.val ∧ d.ok K = true := by
  have c2 := (ba (show ((fa.all fun f => f K) && fn.all fun d => d.ok K) = true from congrArg Prod.fst c)).2
  have e : fn.map (fun d => fnQ K (d.at_ K)) = fn.map Dq.val := congrArg Prod.snd c
  have e2 : (fn.map fun d => fnQ K (d.at_ K))[i]? = (fn.map Dq.val)[i]? := by rw [e]
  rw [List.getElem?_map, List.getElem?_map, h] at e2
  exact ⟨Option.some.inj e2, List.all_eq_true.mp c2 d (List.mem_of_getElem? h)⟩
theorem SaysR.fun_ (c : SaysR fa fn K) (i : Nat) {d : Dq} (h : fn[i]? = some d := by rfl) (hc : d.clo = [] := by rfl) : ∃ fd, FunD K d.name d.qual d.params d.body d.scope (d.dvs K) (d.kws K) (d.at_ K) fd :=
  let ⟨e, k⟩ := c.def_ i h; Dq.funD e k hc
end
end Rz

/-! Names for readings. -/
namespace L2
open PySem PySem.Spec PyProof.Rows
def tRaise (mk : St → Hp → XK → Prop) (W : WX) : TS := fun _ σ H => mk σ H fun cls d H' => W cls d σ H'
def tTry (K : Frg) (W : WX) (tb : WX → TS) (l : List Clause) : TS := fun D σ H => tb (wMix K W D l) D σ H
theorem ps_tryM {X : Cx} {body : List Stmt} {h₀ : ExceptHandler} {hds : List ExceptHandler} {l : List Clause} {pos : Pos} {tb : WX → TS} {Wout : WX} (hs : X.stack = X.env :: X.outer) (hf : X.env.frame = some X.env.locals) (hN : X.N.Nodup) (tk : Takes X Wout)
    (hb : ∀ (W : WX) (pn : List (Addr × Obj)) (xe : Value → Shared → Prop), Takes (X.tr pn xe) W → PassesOwn (model X.prog X.w) X.A X.env xe → PSs (X.tr pn xe) body (tb W)) (hh : HdsMix X (h₀ :: hds) l) :
    PS X (.Try body (h₀ :: hds) [] [] pos) (tTry X.K Wout tb l) := ps_try_mix hs hf hN tk hb hh
def tJoined (ts : List TE) : TE := fun σ H Q => tJs ts Str.empty σ H fun out H1 => Q (.str out) H1
def tTruth (K : Frg) (ta : TE) : TT := fun σ H Q => ta σ H fun x H' => ∃ k, TruV K x H' k ∧ Q k H'
abbrev rNegA : V → Hp → VK → Prop := rU fun i => .int (-i)
end L2

/-! How a reading goes on, one lemma a construct. -/
namespace L2
open PySem PySem.Spec PyProof.Rows
section
variable {K : Frg} {σ : St} {H : Hp} {Q : VK} {D : Ends} {ta tb tc : TE} {t u : TS} {tt tt' : TT} {g : TG} {i : Nat} {v : V} {tl tr : TA} {W : WX} {E : XK} {B : Bool → Hp → Prop} {QL : List V → Hp → Prop}
theorem rd_seq (h : t { D with nx := u D } σ H) : tSeq t u D σ H := h
theorem rd_next (h : D.nx σ H) : tNext D σ H := h
theorem rd_asg (h : ta σ H fun x H1 => g x σ H1 D.nx) : tAsg ta g D σ H := h
theorem rd_name {R : St → Hp → Prop} (h : R (σ.set i (some v)) H) : gName i v σ H R := h
theorem rd_drop (h : ta σ H fun _ H1 => D.nx σ H1) : tDrop ta D σ H := h
theorem rd_ret (h : ta σ H D.rt) : tRet ta D σ H := h
theorem rd_retN (h : D.rt .non H) : tRetN D σ H := h
theorem rd_if (h : tt σ H fun b H1 => (b = true → t D σ H1) ∧ (b = false → u D σ H1)) (hm : ∀ {P P' : Bool → Hp → Prop}, (∀ b H, P b H → P' b H) → tt σ H P → tt σ H P') : tIfS tt t u D σ H :=
  hm (fun b H1 ⟨h1, h2⟩ => by cases b; exact h2 rfl; exact h1 rfl) h
theorem rd_ifS (h : tt σ H fun b H1 => if b = true then t D σ H1 else u D σ H1) : tIfS tt t u D σ H := h
theorem rd_var (e : σ[i]? = some (some v)) (h : Q v H) : tVar i σ H Q := ⟨v, e, h⟩
theorem rd_c (h : Q v H) : tC v σ H Q := h
theorem rd_op {r : R2} (h : ta σ H fun x H1 => tb σ H1 fun y H2 => r x y H2 Q) : tOp r ta tb σ H Q := h
theorem rd_un {r : V → Hp → VK → Prop} (h : ta σ H fun x H1 => r x H1 Q) : tUn r ta σ H Q := h
theorem rd_neg {j : Int} (h : Q (.int (-j)) H) : rNegA (.int j) H Q := ⟨j, rfl, h⟩
theorem rd_cb {r : RC} (h : tl σ H fun vs H1 => r vs H1 Q) : tCB r tl σ H Q := h
theorem rd_nil (h : QL [] H) : tNil σ H QL := h
theorem rd_cons (h : ta σ H fun x H1 => tr σ H1 fun xs H2 => QL (x :: xs) H2) : tCons ta tr σ H QL := h
theorem rd_test (h : ta σ H fun x H1 => ∃ k, x = .bl k ∧ B k H1) : tTest ta σ H B := h
theorem rd_tb (h : ta σ H fun x H1 => ∃ k, x = .bl k ∧ B k H1) : tB ta σ H B := h
theorem rd_bl {k : Bool} (h : B k H) : ∃ k', V.bl k = .bl k' ∧ B k' H := ⟨k, rfl, h⟩
theorem rd_and (h : tt σ H fun c H1 => if c = true then tt' σ H1 B else B false H1) : tAnd tt tt' σ H B := h
theorem rd_or (h : tt σ H fun c H1 => if c = true then B true H1 else tt' σ H1 B) : tOr tt tt' σ H B := h
theorem rd_not (h : tt σ H fun c H1 => B (!c) H1) : tNot tt σ H B := h
theorem rd_andV (h : ta σ H fun x H1 => ∃ c, x = .bl c ∧ if c = true then tb σ H1 Q else Q (.bl false) H1) : tAndV ta tb σ H Q := h
theorem rd_orV (h : ta σ H fun x H1 => ∃ c, x = .bl c ∧ if c = true then Q (.bl true) H1 else tb σ H1 Q) : tOrV ta tb σ H Q := h
theorem rd_notV (h : ta σ H fun x H1 => ∃ c, x = .bl c ∧ Q (.bl (!c)) H1) : tNotV ta σ H Q := h
theorem rd_ifE (h : tt σ H fun c H1 => if c = true then ta σ H1 Q else tb σ H1 Q) : tIf tt ta tb σ H Q := h
theorem rd_tup (h : tl σ H fun xs H1 => xs.length ≤ sizeLine ∧ ∀ p, H1 p = none → Q (.ref p) (upd H1 p (.tup xs))) : tTup tl σ H Q := h
theorem rd_lst (h : tl σ H fun xs H1 => xs.length ≤ sizeLine ∧ ∀ p, H1 p = none → Q (.ref p) (upd H1 p (.lst xs))) : tLst tl σ H Q := h
theorem rd_call {sp : Sp} {dvs : List V} {EE : St → XK} (h : tl σ H fun vs H1 => sp (vs ++ dvs) H1 Q (EE σ)) : tCallSD sp dvs EE tl σ H Q := h
theorem rd_joined {ts : List TE} (h : tJs ts Str.empty σ H fun out H1 => Q (.str out) H1) : tJoined ts σ H Q := h
theorem rd_raise {mk : St → Hp → XK → Prop} (h : mk σ H fun cls d H' => W cls d σ H') : tRaise mk W D σ H := h
theorem rd_mkx {C : Addr} {f : Str} {R : XK} (h : tl σ H fun vs H1 => ∃ v, vs = [v] ∧ ∀ d, H1 d = none → R (.ref C) (some d) (upd H1 d (.xd [(f, v)]))) : tMkX C f tl σ H R := h
theorem rd_mkx0 {C : Addr} {R : XK} (h : R (.ref C) none H) : tMkX0 C σ H R := h
theorem rd_try {tbb : WX → TS} {l : List Clause} (h : tbb (wMix K W D l) D σ H) : tTry K W tbb l D σ H := h
theorem rd_sl {r : SlV} {tlo thi : TO} (h : ta σ H fun x H1 => tlo σ H1 fun l H2 => thi σ H2 fun u H3 => r x l u H3 Q) : tSl r ta tlo thi σ H Q := h
theorem rd_nopart {R : Option Int → Hp → Prop} (h : R none H) : tNoPart σ H R := h
theorem rd_part {R : Option Int → Hp → Prop} (h : ta σ H fun x H1 => ∃ i, x = .int i ∧ R (some i) H1) : tPart ta σ H R := h
theorem rd_ofint {j : Int} {R : Option Int → Hp → Prop} (h : R (some j) H) : ∃ i, V.int j = .int i ∧ R (some i) H := ⟨j, rfl, h⟩
theorem rd_chain {r r' : R2} (h : ta σ H fun x H1 => tb σ H1 fun y H2 => r x y H2 fun z H3 => ∃ k, z = .bl k ∧ if k = true then tc σ H3 fun w H4 => r' y w H4 Q else Q (.bl false) H3) : tChain r r' ta tb tc σ H Q := h
/-- the ways of an if whose test is a decision -/
theorem rd_ite {c : Prop} [Decidable c] {A B : Prop} (h1 : c → A) (h2 : ¬ c → B) : if decide c = true then A else B := by
  by_cases h : c
  · rw [decide_eq_true h]; exact h1 h
  · rw [decide_eq_false h]; exact h2 h
theorem rd_iteN {c : Prop} [Decidable c] {A B : Prop} (h1 : ¬ c → A) (h2 : c → B) : if (!decide c) = true then A else B := by
  by_cases h : c
  · rw [decide_eq_true h]; exact h2 h
  · rw [decide_eq_false h]; exact h1 h
theorem rd_iteT {A B : Prop} (h : A) : if true = true then A else B := h
theorem rd_iteF {A B : Prop} (h : B) : if false = true then A else B := h
/-! ### loops -/
/-- for k in range(n) -/
theorem rd_forR {n : Int} {H1 : Hp} (Pv : Nat → St → Hp → Prop) (hn : -(2 ^ 62) ≤ n) (hn' : n < 2 ^ 62) (h0 : Pv 0 σ H1)
    (hs : ∀ (i : Nat) σ H, (i : Int) < n → Pv i σ H → g (.int i) σ H fun σ2 H2 => t { D with nx := Pv (i + 1), bk := D.nx, ct := Pv (i + 1) } σ2 H2) (hd : ∀ σ H, Pv n.toNat σ H → D.nx σ H) (h : tl σ H fun vs H2 => vs = [.int n] ∧ H2 = H1)
    (hm : ∀ {P P' : List V → Hp → Prop}, (∀ b H, P b H → P' b H) → tl σ H P → tl σ H P') : tFor (iRng1 tl) g t D σ H := by
  refine hm ?_ h
  rintro vs H2 ⟨rfl, rfl⟩
  refine ⟨n, rfl, hn, hn', for_range (lo := 0) Pv h0 (fun i σ H hi p => ?_) hd⟩
  have := hs i σ H (by omega) p
  rw [Int.zero_add]
  exact this
theorem rd_forR1 {n : Int} {R : (It → Hp → Prop)} {H1 : Hp} (hn : -(2 ^ 62) ≤ n) (hn' : n < 2 ^ 62) (h : R (Itr 0 n.toNat) H1) : ∃ j : Int, [V.int n] = [.int j] ∧ -(2 ^ 62) ≤ j ∧ j < 2 ^ 62 ∧ R (Itr 0 j.toNat) H1 := ⟨n, rfl, hn, hn', h⟩
theorem forR {n : Int} {D : Ends} {σ : St} {H : Hp} (Pv : Nat → St → Hp → Prop) (h0 : Pv 0 σ H)
    (hs : ∀ (i : Nat) σ H, (i : Int) < n → Pv i σ H → g (.int i) σ H fun σ2 H2 => t { D with nx := Pv (i + 1), bk := D.nx, ct := Pv (i + 1) } σ2 H2) (hd : ∀ σ H, Pv n.toNat σ H → D.nx σ H) :
    ∃ W : Nat → Nat → St → Hp → Prop, (∃ m, W 0 m σ H) ∧ ∀ i m σ H, W i m σ H →
      ((Itr 0 n.toNat).stop i H ∧ D.nx σ H) ∨ ((Itr 0 n.toNat).go i H ∧ ∃ N : St → Hp → Prop, (∀ σ' H', N σ' H' → ∃ m', m' < m ∧ W (i + 1) m' σ' H') ∧ ∀ x H', (Itr 0 n.toNat).yld i H x H' → g x σ H' fun σ2 H2 => t { D with nx := N, ct := N, bk := D.nx } σ2 H2) :=
  for_range (lo := 0) Pv h0 (fun i σ H hi p => by rw [Int.zero_add]; exact hs i σ H (by omega) p) hd
theorem walk_enumS {z : Str} : Walk (Ites z) z.cps.size (fun _ => True) (fun i H v H' => ∃ T c, v = .ref T ∧ H T = none ∧ z.cps[i]? = some c ∧ H' = upd H T (.tup [.int (i : Nat), .str ⟨#[c]⟩])) :=
  ⟨fun _ _ hi _ => hi, fun _ _ => rfl, fun _ _ _ _ _ _ y => y⟩
theorem rd_yes (h : B true H) : tYes σ H B := h
/-- a comprehension over range(n) -/
theorem lcR {n : Int} {te : TE} {vs : List Nat} {H1 : Hp} {L : Addr} {Qd : Hp → Prop} (Pv : Nat → Hp → Prop) (h0 : Pv 0 (upd H1 L (.lst [])))
    (hs : ∀ (i : Nat) H, (i : Int) < n → Pv i H → g (.int i) (wipe σ vs) H fun σ2 H2 => wipe σ2 vs = wipe σ vs ∧ tt σ2 H2 fun b H3 =>
      if b = true then te σ2 H3 fun y H4 => ∃ acc, H4 L = some (.lst acc) ∧ acc.length < sizeLine ∧ Pv (i + 1) (upd H4 L (.lst (acc ++ [y]))) else Pv (i + 1) H3) (hd : ∀ H, Pv n.toNat H → Qd H) :
    ∃ W : Nat → Nat → Hp → Prop, (∃ m, W 0 m (upd H1 L (.lst []))) ∧ ∀ i m H, W i m H →
      ((Itr 0 n.toNat).stop i H ∧ Qd H) ∨ ((Itr 0 n.toNat).go i H ∧ ∃ Nx : Hp → Prop, (∀ H', Nx H' → ∃ m', m' < m ∧ W (i + 1) m' H') ∧ ∀ x H', (Itr 0 n.toNat).yld i H x H' → g x (wipe σ vs) H' fun σ2 H2 => wipe σ2 vs = wipe σ vs ∧ tt σ2 H2 fun b H3 =>
        if b = true then te σ2 H3 fun y H4 => ∃ acc, H4 L = some (.lst acc) ∧ acc.length < sizeLine ∧ Nx (upd H4 L (.lst (acc ++ [y]))) else Nx H3) :=
  lc_range (lo := 0) Pv h0 (fun i H hi p => by rw [Int.zero_add]; exact hs i H (by omega) p) hd
end
end L2

/-! list(zip(text, list)). -/
namespace Rz
open PySem PySem.Spec PyProof.Rows
open PySem.W (kdx_alive)
section
variable {prog : Program} {w : World} {A : Around} {E : Value → Shared → Prop} {s : Shared} {z TI TO i1 i2 : Addr} {fp1 fp2 : List Addr} {n i : Nat} {P1 P2 : Nat → Value → Prop} {St1 St2 : Nat → Heap → Prop} {T : Addr} {f : Bool} {oT : Obj}
/-- the next pair, while the pair handed out before is still held by someone -/
theorem held_next {Q : Value → Shared → Prop} (S : ZipSep2 z TI TO i1 i2 fp1 fp2) (D1 : Draws prog w A i1 fp1 n P1 St1) (D2 : Draws prog w A i2 fp2 n P2 St2)
    (hz : IsZipHeld s.heap z TI TO T f) (hT : s.heap.get? T = some oT) (hTI : IsTupOf2 s.heap TI (.ref i1) (.ref i2)) (s1 : St1 i s.heap) (s2 : St2 i s.heap) (hi : i < n)
    (hQ : ∀ x y h' tk, P1 i x → P2 i y → IsZipHeld h' z TI TO T true → St1 (i + 1) h' → St2 (i + 1) h' → IsTupOf2 h' s.heap.objs.size x y → h'.objs.size = s.heap.objs.size + 1 →
      (∀ c o, c ≠ z → c ≠ i1 → c ≠ i2 → s.heap.get? c = some o → h'.get? c = some o) → Q (.ref s.heap.objs.size) { s with heap := h', toks := tk }) :
    wpAny (model prog w) A (Builtin.«zip.__next__» ⟨[.ref z], []⟩) (fun fin s' => ∃ v, fin = .done (.ret v) ∧ Q v s') E s := by
  obtain ⟨hp, g, d, tk0, os⟩ := s
  show wpAny (model prog w) A (field (.ref z) 2 >>= _) _ E _
  refine wpAny_bind (wpAny_field hz rfl (x := Value.bool false) rfl ?_)
  show wpAny (model prog w) A (field (.ref z) 3 >>= _) _ E _
  refine wpAny_bind (wpAny_field hz rfl (x := Value.ref TI) rfl ?_)
  refine wpAny_bind (wpAny_seqItems hTI rfl ?_)
  show wpAny (model prog w) A (Builtin.SmallTypes.ownedTupleIsFree (.ref z) >>= _) _ E _
  refine wpAny_bind (wpAny_tupleHeld_zip hz hT fun p0 hz0 q0 => ?_)
  replace q0 : Heap.SameBut z hp p0 := q0
  replace hz0 : IsZipHeld p0 z TI TO T true := hz0
  simp only [Bool.false_eq_true, if_false]
  refine wpAny_bind ?_
  rw [← Array.forIn_toList]
  simp only [List.forIn_cons, List.forIn_nil]
  refine wpAny_bind (wpAny_bind (wpAny_holding ?_))
  show wpAny (model prog w) A (Builtin.SmallTypes.nextOf (.ref i1) >>= _) _ E ⟨p0, g, d, tk0, os⟩
  refine wpAny_bind (D1.item i _ _ _ hi (D1.over s1 q0 S.zf1) fun x p1 t1 hx a1 q1 => wpAny_pure ?_)
  replace q1 : Heap.SameBut i1 p0 p1 := q1
  refine wpAny_pure ?_
  refine wpAny_bind (wpAny_bind (wpAny_holding ?_))
  show wpAny (model prog w) A (Builtin.SmallTypes.nextOf (.ref i2) >>= _) _ E ⟨p1, g, d, t1, os⟩
  refine wpAny_bind (D2.item i _ _ _ hi (D2.over (D2.over s2 q0 S.zf2) q1 S.sep1_2) fun y p2 t2 hy a2 q2 => wpAny_pure ?_)
  replace q2 : Heap.SameBut i2 p1 p2 := q2
  refine wpAny_pure (wpAny_pure ?_)
  show wpAny (model prog w) A (newTuple [x, y] >>= _) _ E ⟨p2, g, d, t2, os⟩
  refine wpAny_bind (wpAny_newTuple ?_)
  have size2 : p2.objs.size = hp.objs.size := by rw [q2.1, q1.1, q0.1]
  have z2 : IsZipHeld p2 z TI TO T true := q2.extBut _ _ S.zi2 (q1.extBut _ _ S.zi1 hz0)
  have b1 : St1 (i + 1) p2 := D1.over a1 q2 S.sep2_1
  have kp : ∀ c o, c ≠ z → c ≠ i1 → c ≠ i2 → hp.get? c = some o → p2.get? c = some o := fun c o c1 c2 c3 e => q2.extBut _ _ c3 (q1.extBut _ _ c2 (q0.extBut _ _ c1 e))
  refine wpAny_pure ⟨_, rfl, ?_⟩
  show Q (.ref p2.objs.size) _
  have new : IsTupOf2 (p2.push { cls := .type "tuple", data := .seq #[x, y] }) p2.objs.size x y := Heap.get?_push_size _ rfl
  have sz : (p2.push { cls := .type "tuple", data := .seq #[x, y] }).objs.size = p2.objs.size + 1 := Heap.size_push ..
  rw [size2] at new sz ⊢
  exact hQ x y _ t2 hx hy (Heap.get?_push_of_some _ z2) (D1.frame _ _ _ b1 fun b _ o e => Heap.get?_push_of_some _ e) (D2.frame _ _ _ a2 fun b _ o e => Heap.get?_push_of_some _ e) new sz fun c o c1 c2 c3 e => Heap.get?_push_of_some _ (kp c o c1 c2 c3 e)
theorem held_end {Q : Fin → Shared → Prop} (S : ZipSep2 z TI TO i1 i2 fp1 fp2) (D1 : Draws prog w A i1 fp1 n P1 St1)
    (hz : IsZipHeld s.heap z TI TO T f) (hT : s.heap.get? T = some oT) (hTI : IsTupOf2 s.heap TI (.ref i1) (.ref i2)) (s1 : St1 n s.heap)
    (hE : ∀ h' e, (∀ c o, c ≠ z → c ≠ i1 → s.heap.get? c = some o → h'.get? c = some o) → (∃ o, h'.get? e = some o ∧ o.cls = .type "StopIteration") → E (.ref e) { s with heap := h' }) :
    wpAny (model prog w) A (Builtin.«zip.__next__» ⟨[.ref z], []⟩) Q E s := by
  obtain ⟨hp, g, d, tk0, os⟩ := s
  show wpAny (model prog w) A (field (.ref z) 2 >>= _) _ E _
  refine wpAny_bind (wpAny_field hz rfl (x := Value.bool false) rfl ?_)
  show wpAny (model prog w) A (field (.ref z) 3 >>= _) _ E _
  refine wpAny_bind (wpAny_field hz rfl (x := Value.ref TI) rfl ?_)
  refine wpAny_bind (wpAny_seqItems hTI rfl ?_)
  show wpAny (model prog w) A (Builtin.SmallTypes.ownedTupleIsFree (.ref z) >>= _) _ E _
  refine wpAny_bind (wpAny_tupleHeld_zip hz hT fun p0 hz0 q0 => ?_)
  replace q0 : Heap.SameBut z hp p0 := q0
  simp only [Bool.false_eq_true, if_false]
  refine wpAny_bind ?_
  rw [← Array.forIn_toList]
  simp only [List.forIn_cons, List.forIn_nil]
  refine wpAny_bind (wpAny_bind (wpAny_holding ?_))
  show wpAny (model prog w) A (Builtin.SmallTypes.nextOf (.ref i1) >>= _) _ E ⟨p0, g, d, tk0, os⟩
  refine wpAny_bind (D1.done ⟨p0, g, d, tk0, os⟩ _ _ (D1.over s1 q0 S.zf1) fun p1 e q1 he => ?_)
  replace q1 : Heap.ExtBut i1 p0 p1 := q1
  exact hE p1 e (fun c o c1 c2 u => q1 _ _ c2 (q0.extBut _ _ c1 u)) he
end
/-- where the walk stands -/
def ZAt (St1 St2 : Nat → Heap → Prop) (z TI TO i1 i2 L : Addr) (i : Nat) (h : Heap) : Prop :=
  IsTupOf2 h TI (.ref i1) (.ref i2) ∧ St1 i h ∧ St2 i h ∧ ((i = 0 ∧ IsZip h z TI TO .none ∧ IsTupOf2 h TO .none .none) ∨ ∃ T f oT, IsZipHeld h z TI TO T f ∧ h.get? T = some oT ∧ T ≠ z ∧ T ≠ i1 ∧ T ≠ i2 ∧ T ≠ L)
/-- the pairs so far -/
structure ZTold (P1 P2 : Nat → Value → Prop) (lo : Addr) (h : Heap) (as : List Addr) : Prop where
  rise : as.Pairwise (· < ·)
  above : ∀ a ∈ as, lo < a
  two : ∀ (j : Nat) (a : Addr), as[j]? = some a → ∃ x y, P1 j x ∧ P2 j y ∧ IsTupOf2 h a x y
theorem ZTold.low {P1 P2 : Nat → Value → Prop} {lo : Addr} {h : Heap} {as : List Addr} (t : ZTold P1 P2 lo h as) {a : Addr} (m : a ∈ as) : a < h.objs.size := by
  obtain ⟨j, e⟩ := List.mem_iff_getElem?.mp m
  obtain ⟨_, _, _, _, q⟩ := t.two j a e
  exact Heap.lt_size q
section
variable {prog : Program} {w : World} {A : Around} {s : Shared} {z TI TO i1 i2 L : Addr} {fp1 fp2 : List Addr} {n i : Nat} {P1 P2 : Nat → Value → Prop} {St1 St2 : Nat → Heap → Prop}
theorem z_item {E : Value → Shared → Prop} {Q : Option Value → Shared → Prop} (S : ZipSep2 z TI TO i1 i2 fp1 fp2) (D1 : Draws prog w A.in1 i1 fp1 n P1 St1) (D2 : Draws prog w A.in1 i2 fp2 n P2 St2) (st : ZAt St1 St2 z TI TO i1 i2 L i s.heap) (hi : i < n) (hL : L < s.heap.objs.size) (hLz : L ≠ TI)
    (hQ : ∀ x y h' tk, P1 i x → P2 i y → ZAt St1 St2 z TI TO i1 i2 L (i + 1) h' → IsTupOf2 h' s.heap.objs.size x y → h'.objs.size = s.heap.objs.size + 1 →
      (∀ c o, c ≠ z → c ≠ TO → c ≠ i1 → c ≠ i2 → s.heap.get? c = some o → h'.get? c = some o) → Q (some (.ref s.heap.objs.size)) { s with heap := h', toks := tk }) :
    wpAny (model prog w) A (pyNext (.ref z)) Q E s := by
  obtain ⟨hTI, s1, s2, st⟩ := st
  have l1 : i1 < s.heap.objs.size := let ⟨_, e⟩ := D1.live _ _ s1; Heap.lt_size e
  have l2 : i2 < s.heap.objs.size := let ⟨_, e⟩ := D2.live _ _ s2; Heap.lt_size e
  rcases st with ⟨e0, hz, hTO⟩ | ⟨T, f, oT, hz, hT, n1, n2, n3, n4⟩
  · have lz : z < s.heap.objs.size := Heap.lt_size hz
    refine wpAny_pyNext_zipD2_item S D1 D2 hz hTI hTO s1 s2 hi hi fun x y h' tk hx hy hz' _ a1 a2 tup sz kp => ?_
    exact hQ x y h' tk hx hy ⟨kp _ _ S.TIz S.TITO S.TIi1 S.TIi2 hTI, a1, a2, .inr ⟨_, false, _, hz', tup, Nat.ne_of_gt lz, Nat.ne_of_gt l1, Nat.ne_of_gt l2, Nat.ne_of_gt hL⟩⟩ tup sz kp
  · have ty : s.TypeIs (.ref z) "zip" := ⟨_, hz, rfl⟩
    unfold pyNext
    refine wpAny_bind (wpAny_attempt (wpAny_callSpecial?_slot (name := Str.ofString "__next__") ty F.slot_zip_next (wpAny_call_entry F.slot_zip_next ty F.entry_zip_next ?_ (F.args_zip_next_1 _))))
    refine held_next S D1 D2 hz hT hTI s1 s2 hi fun x y h' tk hx hy hz' a1 a2 tup sz kp => wpAny_pure ?_
    exact hQ x y h' tk hx hy ⟨kp _ _ S.TIz S.TIi1 S.TIi2 hTI, a1, a2, .inr ⟨T, true, oT, hz', kp _ _ n1 n2 n3 hT, n1, n2, n3, n4⟩⟩ tup sz fun c o c1 _ c3 c4 e => kp c o c1 c3 c4 e
theorem z_end {E : Value → Shared → Prop} {Q : Option Value → Shared → Prop} (S : ZipSep2 z TI TO i1 i2 fp1 fp2) (D1 : Draws prog w A.in1 i1 fp1 n P1 St1) (D2 : Draws prog w A.in1 i2 fp2 n P2 St2) (st : ZAt St1 St2 z TI TO i1 i2 L n s.heap)
    (hQ : ∀ h' tk, (∀ c o, c ≠ z → c ≠ TO → c ≠ i1 → c ≠ i2 → s.heap.get? c = some o → h'.get? c = some o) → Q none { s with heap := h', toks := tk }) :
    wpAny (model prog w) A (pyNext (.ref z)) Q E s := by
  obtain ⟨hTI, s1, s2, st⟩ := st
  rcases st with ⟨e0, hz, hTO⟩ | ⟨T, f, oT, hz, hT, n1, n2, n3, n4⟩
  · exact wpAny_pyNext_zipD2_end S D1 D2 hz hTI hTO s1 s2 (Nat.le_refl _) (Nat.le_refl _) (.inl rfl) hQ
  · have ty : s.TypeIs (.ref z) "zip" := ⟨_, hz, rfl⟩
    unfold pyNext
    refine wpAny_bind (wpAny_attempt (wpAny_callSpecial?_slot (name := Str.ofString "__next__") ty F.slot_zip_next (wpAny_call_entry F.slot_zip_next ty F.entry_zip_next ?_ (F.args_zip_next_1 _))))
    refine held_end S D1 hz hT hTI s1 fun h' e kp he => ?_
    obtain ⟨o, ho, hc⟩ := he
    refine wpAny_bind (wpAny_isInstance (T := "StopIteration") (b := true) ⟨o, ho, hc⟩ isSubtype_stop ?_)
    exact wpAny_pure (hQ _ _ fun c o c1 _ c3 _ e => kp c o c1 c3 e)
/-- the draining into the new list at L -/
theorem z_loop {R : Result → Shared → Prop} (S : ZipSep2 z TI TO i1 i2 fp1 fp2) (D1 : Draws prog w A.in1.in1 i1 fp1 n P1 St1) (D2 : Draws prog w A.in1.in1 i2 fp2 n P2 St2) (hf1 : L ∉ fp1) (hf2 : L ∉ fp2) (hLz : L ≠ z) (hLT : L ≠ TI) (hLO : L ≠ TO) (cells : ∀ c, c = z ∨ c = TO ∨ c = i1 ∨ c = i2 → c < L) (hn : n ≤ sizeLine) (res : Value) {h0 : Heap}
    (hR : ∀ h' tk acc c as, (∀ b o, b ≠ L → b ≠ z → b ≠ TO → b ≠ i1 → b ≠ i2 → h0.get? b = some o → h'.get? b = some o) → h'.get? L = some { cls := .type "list", dict := none, data := .seq acc c, slots := #[] } → as.length = n → ZTold P1 P2 L h' as →
      acc.toList = as.map Value.ref → R (.ok (.ret res)) { s with heap := h', toks := tk }) :
    ∀ (k i : Nat) (h : Heap) (tk c : Nat) (acc : Array Value) (as : List Addr), n - i = k → i ≤ n → ZAt St1 St2 z TI TO i1 i2 L i h → (∀ b o, b ≠ L → b ≠ z → b ≠ TO → b ≠ i1 → b ≠ i2 → h0.get? b = some o → h.get? b = some o) →
      h.get? L = some { cls := .type "list", dict := none, data := .seq acc c, slots := #[] } → acc.toList = as.map Value.ref → as.length = i → ZTold P1 P2 L h as →
      codeAny (model prog w) A (.builtin "list.extend.loop" ⟨[.ref L, .ref z, res], []⟩) R { s with heap := h, toks := tk } := by
  have off : ∀ {b : Addr}, L ≤ b → b ≠ z ∧ b ≠ TO ∧ b ≠ i1 ∧ b ≠ i2 := fun {b} q =>
    ⟨fun e => absurd (cells z (.inl rfl)) (by rw [← e]; exact Nat.not_lt.mpr q), fun e => absurd (cells TO (.inr (.inl rfl))) (by rw [← e]; exact Nat.not_lt.mpr q), fun e => absurd (cells i1 (.inr (.inr (.inl rfl)))) (by rw [← e]; exact Nat.not_lt.mpr q), fun e => absurd (cells i2 (.inr (.inr (.inr rfl)))) (by rw [← e]; exact Nat.not_lt.mpr q)⟩
  intro k
  induction k with
  | zero =>
    intro i h tk c acc as hk hi st kp hL hacc hal told
    obtain rfl : i = n := by omega
    obtain ⟨o1, o2, o3, o4⟩ := off (Nat.le_refl L)
    refine codeAny_builtin F.entry_extend_loop ?_
    rw [Around.under_plainId F.plain_extend_loop _]
    show wpAny (model prog w) A.in1 (pyNext (.ref z) >>= _) _ _ _
    refine wpAny_bind (z_end (s := { s with heap := h, toks := tk }) S D1 D2 st fun h' tk' kq => wpAny_pure ?_)
    refine hR h' tk' acc c as (fun b o b0 b1 b2 b3 b4 e => kq b o b1 b2 b3 b4 (kp b o b0 b1 b2 b3 b4 e)) (kq L _ o1 o2 o3 o4 hL) hal ⟨told.rise, told.above, fun j a hj => ?_⟩ hacc
    obtain ⟨x, y, e1, e2, e3⟩ := told.two j a hj
    obtain ⟨q1, q2, q3, q4⟩ := off (Nat.le_of_lt (told.above a (List.mem_of_getElem? hj)))
    exact ⟨x, y, e1, e2, kq a _ q1 q2 q3 q4 e3⟩
  | succ k ih =>
    intro i h tk c acc as hk hi st kp hL hacc hal told
    have hlt : i < n := by omega
    have hsz : acc.size = i := by rw [← Array.length_toList, hacc, List.length_map, hal]
    have lL : L < h.objs.size := Heap.lt_size hL
    obtain ⟨o1, o2, o3, o4⟩ := off (Nat.le_refl L)
    refine codeAny_builtin F.entry_extend_loop ?_
    rw [Around.under_plainId F.plain_extend_loop _]
    show wpAny (model prog w) A.in1 (pyNext (.ref z) >>= _) _ _ _
    refine wpAny_bind (z_item (s := { s with heap := h, toks := tk }) S D1 D2 st hlt lL hLT fun x y h' tk' hx hy st' tup sz kq => ?_)
    dsimp only at tup sz kq ⊢
    have hL' := kq L _ o1 o2 o3 o4 hL
    have up : ∀ b o, b ≠ L → h'.get? b = some o → (h'.update L (Obj.mapSeq (·.push (Value.ref h.objs.size)))).get? b = some o := fun b o hb e => (Heap.get?_update_other _ _ (Ne.symm hb)).trans e
    have far : h.objs.size ≠ L := Nat.ne_of_gt lL
    show wpAny (model prog w) A.in1 (updateSeq L (·.push (Value.ref h.objs.size)) >>= _) _ _ _
    refine wpAny_bind (wpAny_updateSeq hL' rfl ?_ (by rw [hsz]; omega) (by show (acc.push (Value.ref h.objs.size)).size ≤ sizeLine + 1; rw [Array.size_push, hsz]; omega))
    refine wpAny_pure ⟨plainId_quiet F.plain_extend_loop _, ?_⟩
    refine ih (i + 1) _ tk' _ (acc.push (Value.ref h.objs.size)) (as ++ [h.objs.size]) (by omega) hlt ?_ (fun b o b0 b1 b2 b3 b4 e => up b o b0 (kq b o b1 b2 b3 b4 (kp b o b0 b1 b2 b3 b4 e))) (Heap.get?_update_self _ hL' rfl) (by rw [Array.toList_push, hacc, List.map_append]; rfl) (by rw [List.length_append, hal]; rfl) ⟨?_, ?_, ?_⟩
    · obtain ⟨t1, t2, t3, t4⟩ := st'
      refine ⟨up _ _ (Ne.symm hLT) t1, D1.frame _ _ _ t2 fun b hb o e => up b o (fun q => hf1 (q ▸ hb)) e, D2.frame _ _ _ t3 fun b hb o e => up b o (fun q => hf2 (q ▸ hb)) e, ?_⟩
      rcases t4 with ⟨e0, e1, e2⟩ | ⟨T, f, oT, e1, e2, m1, m2, m3, m4⟩
      · exact .inl ⟨e0, up _ _ (Ne.symm hLz) e1, up _ _ (Ne.symm hLO) e2⟩
      · exact .inr ⟨T, f, oT, up _ _ (Ne.symm hLz) e1, up _ _ m4 e2, m1, m2, m3, m4⟩
    · refine List.pairwise_append.mpr ⟨told.rise, List.pairwise_singleton _ _, fun a ha b hb => ?_⟩
      rw [List.mem_singleton.mp hb]
      exact told.low ha
    · intro a ha
      rcases List.mem_append.mp ha with ha | ha
      · exact told.above a ha
      · rw [List.mem_singleton.mp ha]; exact lL
    · intro j b hj
      rcases Nat.lt_trichotomy j as.length with q | q | q
      · rw [List.getElem?_append_left q] at hj
        obtain ⟨x', y', e1, e2, e3⟩ := told.two j b hj
        have hb := told.above b (List.mem_of_getElem? hj)
        obtain ⟨r1, r2, r3, r4⟩ := off (Nat.le_of_lt hb)
        exact ⟨x', y', e1, e2, up b _ (Nat.ne_of_gt hb) (kq b _ r1 r2 r3 r4 e3)⟩
      · subst q
        have hb : h.objs.size = b := by simpa using hj
        rw [← hb]
        exact ⟨x, y, by rw [hal]; exact hx, by rw [hal]; exact hy, up _ _ far tup⟩
      · rw [List.getElem?_eq_none (by rw [List.length_append, List.length_singleton]; omega)] at hj
        cases hj
end
theorem zip_no_len : typeLookup (.type "zip") "__len__" = pure none := am_miss_of_fast (by decide +kernel)
theorem zip_no_hint : typeLookup (.type "zip") "__length_hint__" = pure none := am_miss_of_fast (by decide +kernel)
section
variable {prog : Program} {w : World} {A : Around} {s : Shared} {z TI TO i1 i2 L : Addr} {fp1 fp2 : List Addr} {n i : Nat} {P1 P2 : Nat → Value → Prop} {St1 St2 : Nat → Heap → Prop}
theorem z_list {Q : Value → Shared → Prop} {E : Value → Shared → Prop} (S : ZipSep2 z TI TO i1 i2 fp1 fp2) (D1 : Draws prog w A.in1.in1.in1 i1 fp1 n P1 St1) (D2 : Draws prog w A.in1.in1.in1 i2 fp2 n P2 St2) (low : ∀ c, c ∈ fp1 ∨ c ∈ fp2 → c < s.heap.objs.size) (hn : n ≤ sizeLine)
    (hz : IsZip s.heap z TI TO .none) (hTI : IsTupOf2 s.heap TI (.ref i1) (.ref i2)) (hTO : IsTupOf2 s.heap TO .none .none) (s1 : St1 0 s.heap) (s2 : St2 0 s.heap)
    (hQ : ∀ h' tk acc c as, (∀ b o, b ≠ z → b ≠ TO → b ≠ i1 → b ≠ i2 → s.heap.get? b = some o → h'.get? b = some o) → h'.get? s.heap.objs.size = some { cls := .type "list", dict := none, data := .seq acc c, slots := #[] } → as.length = n → ZTold P1 P2 s.heap.objs.size h' as →
      acc.toList = as.map Value.ref → Q (.ref s.heap.objs.size) { s with heap := h', toks := tk }) :
    wpAny (model prog w) A (call (.type "list") [.ref z]) Q E s := by
  have lz : z < s.heap.objs.size := Heap.lt_size hz
  have lTI : TI < s.heap.objs.size := Heap.lt_size hTI
  have lTO : TO < s.heap.objs.size := Heap.lt_size hTO
  have l1 : i1 < s.heap.objs.size := low _ (.inl S.mem1)
  have l2 : i2 < s.heap.objs.size := low _ (.inr S.mem2)
  refine callType_codes (Q₁ := fun obj t => obj = .ref s.heap.objs.size ∧ t = { s with heap := s.heap.push { cls := .type "list", data := .seq #[] } }) F.called_list (F.typeCall_list_1 _) F.entry_list_init
    (code_list_new _ ⟨rfl, rfl⟩) fun obj t ht => ?_
  obtain ⟨rfl, rfl⟩ := ht
  have hL : (s.heap.push { cls := .type "list", data := .seq #[] }).get? s.heap.objs.size = some { cls := .type "list", data := .seq #[] } := Heap.get?_push_size _ rfl
  generalize eL : s.heap.objs.size = L at *
  refine ⟨⟨_, hL, rfl⟩, F.args_list_init_2 _ _, ?_⟩
  have mk : ∀ b o, s.heap.get? b = some o → (s.heap.push { cls := .type "list", data := .seq #[] }).get? b = some o := fun b o e => Heap.get?_push_of_some _ e
  show wpAny (model prog w) A.in1.in1 (do let old ← Builtin.List.listItems (.ref L); Builtin.List.listUpdate (.ref L) (fun _ => #[]); letGo old.toList.reverse; Builtin.List.listExtendWith (.ref L) (.ref z) .none) _ _ _
  refine wpAny_bind ?_
  unfold Builtin.List.listItems
  refine wpAny_bind (wpAny_seqItems hL rfl (wpAny_pure ?_))
  show wpAny (model prog w) A.in1.in1 (updateSeq L (fun _ => #[]) >>= fun _ => letGo (#[] : Array Value).toList.reverse >>= fun _ => Builtin.List.listExtendWith (.ref L) (.ref z) .none) _ _ _
  refine wpAny_bind (wpAny_updateSeq hL rfl ?_)
  have hL2 := Heap.get?_update_self (Obj.mapSeq (fun _ => (#[] : Array Value))) hL rfl
  have up : ∀ (h : Heap) (f : Obj → Obj), (∀ b o, s.heap.get? b = some o → h.get? b = some o) → ∀ b o, s.heap.get? b = some o → (h.update L f).get? b = some o := fun h f q b o e => (Heap.get?_update_other _ _ (fun q => by have := Heap.lt_size e; rw [eL, ← q] at this; exact Nat.lt_irrefl _ this)).trans (q b o e)
  have mk2 := up _ (Obj.mapSeq (fun _ => (#[] : Array Value))) mk
  refine wpAny_bind (wpAny_letGo ?_)
  unfold Builtin.List.listExtendWith
  have ty : ∀ {h : Heap} {q : Nat}, (∀ b o, s.heap.get? b = some o → h.get? b = some o) → ({ s with heap := h, toks := q } : Shared).TypeIs (.ref z) "zip" := fun {h q} k => ⟨_, k z _ hz, rfl⟩
  refine wpAny_bind (wpAny_typeOf (T := "zip") (ty mk2) ?_)
  have r1 : Builtin.List.listSameRef (.ref L) (.ref z) = false := by simp [Builtin.List.listSameRef, Nat.ne_of_gt lz]
  have r2 : (Value.type "zip" == Value.type "list") = false := by decide
  have r3 : (Value.type "zip" == Value.type "tuple") = false := by decide
  simp only [r1, r2, r3, Bool.or_false, Bool.false_eq_true, if_false]
  refine wpAny_bind (wpAny_pyIter_zip (mk2 _ _ hz) ?_)
  refine wpAny_bind (wpAny_holding ?_)
  unfold Builtin.List.listLengthHint
  refine wpAny_bind (wpAny_specialOf (ty mk2) zip_no_len ?_)
  show wpAny (model prog w) A.in1.in1 (specialOf (Value.ref z) (Str.ofString "__length_hint__") >>= _) _ _ _
  refine wpAny_bind (wpAny_specialOf (ty mk2) zip_no_hint ?_)
  refine wpAny_pure ?_
  show wpAny (model prog w) A.in1.in1 (rule "list.extend.makes-room" >>= fun _ => Builtin.List.listTouch (.ref L) >>= fun _ =>
    again (.builtin "list.extend.loop" ⟨[.ref L, .ref z, .none], []⟩)) _ _ _
  refine wpAny_bind (wpAny_rule (wpAny_bind ?_))
  show wpAny (model prog w) A.in1.in1 (updateSeq L (·.push .none) >>= fun _ => updateSeq L (·.pop)) _ _ _
  refine wpAny_bind (wpAny_updateSeq hL2 rfl ?_)
  have hL3 := Heap.get?_update_self (Obj.mapSeq (·.push Value.none)) hL2 rfl
  refine wpAny_updateSeq (hz := by seq_fits) hL3 rfl ?_
  have hL4 := Heap.get?_update_self (Obj.mapSeq (·.pop)) hL3 rfl
  have mk4 := up _ (Obj.mapSeq (·.pop)) (up _ (Obj.mapSeq (·.push Value.none)) mk2)
  refine wpAny_pure ⟨plainId_quiet F.plain_extend_loop _, ?_⟩
  refine z_loop (A := A.in1) (h0 := s.heap) S D1 D2 (fun q => Nat.lt_irrefl _ (low _ (.inl q))) (fun q => Nat.lt_irrefl _ (low _ (.inr q))) (Nat.ne_of_gt lz) (Nat.ne_of_gt lTI) (Nat.ne_of_gt lTO) ?_ hn .none (fun h' tk acc c as kp hL' hl told hacc => ?_)
    n 0 _ _ _ #[] [] (Nat.sub_zero _) (Nat.zero_le _) ?_ (fun b o _ _ _ _ _ e => mk4 b o e) hL4 rfl rfl ⟨List.Pairwise.nil, fun _ m => (nomatch m), fun j a e => by simp at e⟩
  · rintro c (e | e | e | e)
    · rw [e]; exact lz
    · rw [e]; exact lTO
    · rw [e]; exact l1
    · rw [e]; exact l2
  · exact ⟨rfl, hQ h' tk acc c as (fun b o b1 b2 b3 b4 e => kp b o (fun q => by have := Heap.lt_size e; rw [eL, q] at this; exact Nat.lt_irrefl _ this) b1 b2 b3 b4 e) hL' hl told hacc⟩
  · exact ⟨mk4 _ _ hTI, D1.frame _ _ _ s1 fun b _ o e => mk4 b o e, D2.frame _ _ _ s2 fun b _ o e => mk4 b o e, .inl ⟨rfl, mk4 _ _ hz, mk4 _ _ hTO⟩⟩
end
end Rz
namespace L2
open PySem PySem.Spec PyProof.Rows
/-- pairs laid one behind another -/
def putP : Hp → List Addr → List (V × V) → Hp
  | H, a :: as, p :: r => putP (upd H a (.tup [p.1, p.2])) as r
  | H, [], _ => H
  | H, _ :: _, [] => H
theorem putP_off {b : Addr} : ∀ (as : List Addr) (ps : List (V × V)) (H : Hp), b ∉ as → putP H as ps b = H b
  | [], _, _, _ => rfl
  | _ :: _, [], _, _ => rfl
  | a :: as, p :: r, H, h => by
    have h1 : b ≠ a := fun e => h (e ▸ List.mem_cons_self)
    have h2 : b ∉ as := fun e => h (List.mem_cons_of_mem _ e)
    exact (putP_off as r _ h2).trans (upd_ne h1)
theorem putP_at : ∀ (as : List Addr) (ps : List (V × V)) (H : Hp), as.Nodup → ∀ (j : Nat) (a : Addr) (p : V × V), as[j]? = some a → ps[j]? = some p → putP H as ps a = some (.tup [p.1, p.2])
  | [], _, _, _, _, _, _, e, _ => by simp at e
  | _ :: _, [], _, _, _, _, _, _, e => by simp at e
  | b :: as, q :: r, H, nd, 0, a, p, e1, e2 => by
    have e3 : b = a := by simpa using e1
    have e4 : q = p := by simpa using e2
    subst e3 e4
    exact (putP_off as r _ (List.nodup_cons.mp nd).1).trans upd_same
  | b :: as, q :: r, H, nd, j + 1, a, p, e1, e2 => putP_at as r _ (List.nodup_cons.mp nd).2 j a p (by simpa using e1) (by simpa using e2)
/-- list(zip(text, list)), both of one length: the new list at L, its pairs at as -/
def rZipS (K : PySem.W.Frag) : List V → Hp → VK → Prop := fun vs H Q => ∃ (x : Str) (b : Addr) (ys : List V), vs = [.str x, .ref b] ∧ SqL K H b ys ∧ x.cps.size = ys.length ∧
  ∀ (L : Addr) (as : List Addr) (H' : Hp), (∀ c o, H c = some o → H' c = some o) → H L = none → (∀ a ∈ as, H a = none) → L ∉ as → as.length = ys.length → H' L = some (.lst (as.map V.ref)) →
    (∀ (j : Nat) (a : Addr) (c : Nat) (y : V), as[j]? = some a → x.cps[j]? = some c → ys[j]? = some y → H' a = some (.tup [.str ⟨#[c]⟩, y])) → Q (.ref L) H'
def tZipS (K : PySem.W.Frag) (ta : TA) : TE := fun σ H Q => ta σ H fun vs H1 => rZipS K vs H1 Q
theorem vals_ix : ∀ {vs : List V} {us : List Value}, Vals vs us → ∀ {j : Nat} {u : Value}, us[j]? = some u → ∃ v, vs[j]? = some v ∧ RelV v u
  | _, _, .nil, _, _, e => by simp at e
  | _, _, .cons r _, 0, _, e => ⟨_, rfl, by have := Option.some.inj e; subst this; exact r⟩
  | _, _, .cons _ t, j + 1, _, e => vals_ix t (by simpa using e)
theorem refs_rel : ∀ as : List Addr, Vals (as.map V.ref) (as.map Value.ref)
  | [] => .nil
  | _ :: as => .cons rfl (refs_rel as)
section
variable {X : Cx} {e e2 : Expr} {ta : TA} {p q pos pos2 : Pos}
theorem pe_zipS (hc : X.calm = true) (hg : Gl X "list") (hm : X.mg "list" = none) (hgz : Gl X "zip") (hmz : X.mg "zip" = none) (ha : PA X [e, e2] ta)
    (na : starEach [.Call (.Name "zip" q) [e, e2] [] pos2] X.env = (false, eval (.Call (.Name "zip" q) [e, e2] [] pos2) X.env) :: starEach [] X.env := by rfl)
    (hs : starEach [e, e2] X.env = (false, eval e X.env) :: starEach [e2] X.env := by rfl) (hp : (backTo pos2 (starEach [e2] X.env)).any (·.1) = false := by rfl) :
    PE X (.Call (.Name "list" p) [.Call (.Name "zip" q) [e, e2] [] pos2] [] pos) (tZipS X.K ta) := by
  refine ⟨fun pins s σ H Q I h => ?_⟩
  refine Call_ (ld_blt I hg hm boot_list (PyProof.Rows.callWith_type1 (args_cons ?_ na) na))
  refine Call_ (ld_blt I hgz hmz PyProof.Rows.boot_zip (PyProof.Rows.callWith_type1 (thn (ha.run pos2 pins s σ H _ I h) fun us s1 ⟨vs, H1, I1, r1, q1⟩ => ?_) hs hp))
  obtain ⟨x, b, ys, ex, hb, hlen, fin⟩ := q1
  subst ex
  obtain ⟨u1, u2, rfl, ru, rb⟩ := vals2 r1
  obtain ⟨t, rfl⟩ := ru
  cases rb
  obtain ⟨its, rv, pl, hle⟩ := I1.list hb
  have lb : b < s1.heap.objs.size := pl.lt
  have vl : ys.length = its.length := rv.length
  refine zip_begins2 (begins_text x t) (begins_list b its.toArray) trivial pl.isList fun h1 hz hTI hTO g1 g2 hsz hk => args_nil ?_
  have hh : X.A.handled = none := I1.ok.hd hc
  have D1 := Draws.text (prog := X.prog) (w := X.w) (A := X.A.in1.in1.in1) hh s1.heap.objs.size x t
  have hbi : b ≠ s1.heap.objs.size + 1 := Nat.ne_of_lt (Nat.lt_succ_of_lt lb)
  have D2 := Draws.list (prog := X.prog) (w := X.w) (A := X.A.in1.in1.in1) hh (s1.heap.objs.size + 1) b hbi its.toArray
  have S := zip_sep2 (N := s1.heap.objs.size) (fp1 := []) (fp2 := [b]) (fun _ m => (nomatch m)) (fun c m => by rw [List.mem_singleton.mp m]; exact lb)
  have en : its.toArray.size = x.cps.size := by rw [List.size_toArray, ← vl, hlen]
  rw [en] at D2
  refine Rz.z_list (s := { s1 with heap := h1 }) (A := X.A) S D1 D2 ?_ (by omega) hz hTI hTO ⟨_, g1, rfl, rfl⟩ ⟨⟨_, g2, rfl, rfl⟩, (pl.isList).at fun o e => hk b o e⟩ fun h' tk acc c as kp hL hal told hacc => ?_
  · intro c m
    show c < h1.objs.size
    rw [hsz]
    rcases m with m | m
    · rw [List.mem_singleton.mp m]; exact Nat.lt_add_of_pos_right (by decide)
    · rcases List.mem_cons.mp m with m | m
      · rw [m]; exact Nat.add_lt_add_left (by decide) _
      · rw [List.mem_singleton.mp m]; exact Nat.lt_of_lt_of_le lb (Nat.le_add_right _ _)
  · dsimp only at kp hL told ⊢
    have lN : s1.heap.objs.size ≤ h1.objs.size := by rw [hsz]; exact Nat.le_add_right _ _
    have old : ∀ d o, s1.heap.get? d = some o → h'.get? d = some o := fun d o e => by
      have ld : d < s1.heap.objs.size := Heap.lt_size e
      exact kp d o (Nat.ne_of_lt (Nat.lt_of_lt_of_le ld (Nat.le_add_right _ _))) (Nat.ne_of_lt (Nat.lt_of_lt_of_le ld (Nat.le_add_right _ _))) (Nat.ne_of_lt ld) (Nat.ne_of_lt (Nat.lt_succ_of_lt ld)) (hk d o e)
    have nd : as.Nodup := told.rise.imp fun {a b} (h : a < b) => Nat.ne_of_lt h
    have ge : ∀ a ∈ as, s1.heap.objs.size ≤ a := fun a m => Nat.le_trans lN (Nat.le_of_lt (told.above a m))
    have new : ∀ a ∈ as, H1 a = none := fun a m => I1.hok.fresh (ge a m)
    have newL : H1 h1.objs.size = none := I1.hok.fresh lN
    have Las : h1.objs.size ∉ as := fun m => Nat.lt_irrefl _ (told.above _ m)
    have lo : ∀ d, d < s1.heap.objs.size → d ∉ as ∧ d ≠ h1.objs.size := fun d ld => ⟨fun m => absurd ld (Nat.not_lt.mpr (ge d m)), Nat.ne_of_lt (Nat.lt_of_lt_of_le ld lN)⟩
    let ps : List (V × V) := (x.cps.toList.map fun c => V.str ⟨#[c]⟩).zip ys
    have pget : ∀ (j : Nat) (c : Nat) (y : V), x.cps[j]? = some c → ys[j]? = some y → ps[j]? = some (.str ⟨#[c]⟩, y) := fun j c y e1 e2 => by
      have e3 : (x.cps.toList.map fun c => V.str ⟨#[c]⟩)[j]? = some (.str ⟨#[c]⟩) := by rw [List.getElem?_map, Array.getElem?_toList, e1]; rfl
      exact List.getElem?_zip_eq_some.mpr ⟨e3, e2⟩
    let H2 : Hp := putP (upd H1 h1.objs.size (.lst (as.map V.ref))) as ps
    have H2L : H2 h1.objs.size = some (.lst (as.map V.ref)) := (putP_off as ps _ Las).trans upd_same
    have H2off : ∀ d, d ∉ as → d ≠ h1.objs.size → H2 d = H1 d := fun d m n => (putP_off as ps _ m).trans (upd_ne n)
    have H2k : ∀ d o, H1 d = some o → H2 d = some o := fun d o e => by
      rw [H2off d (fun m => by rw [new d m] at e; cases e) (fun m => by rw [m, newL] at e; cases e)]
      exact e
    have H2a : ∀ (j : Nat) (a : Addr) (c : Nat) (y : V), as[j]? = some a → x.cps[j]? = some c → ys[j]? = some y → H2 a = some (.tup [.str ⟨#[c]⟩, y]) := fun j a c y e1 e2 e3 => putP_at as ps _ nd j a _ e1 (pget j c y e2 e3)
    refine ⟨.ref h1.objs.size, H2, ?_, rfl, fin _ as H2 H2k newL new Las (by rw [hal, hlen]) H2L H2a⟩
    refine I1.call' (ch := []) rfl ⟨fun d o u _ _ _ => old d o u, fun d o u _ _ _ => ⟨o.slots, old d o u⟩, fun d o u n _ => ?_, fun d o u _ => ⟨o, old d o u⟩, fun d _ u => H2k d _ u, fun d _ _ u => H2k d _ u, fun d _ u => ⟨#[], by rw [H2k d _ u]; simp⟩⟩ (fun d o u => ?_) I1.bare fun d m => (nomatch m)
    · obtain ⟨n1, n2⟩ := lo d (Heap.lt_size u)
      rw [H2off d n1 n2]; exact n
    · by_cases m : d ∈ as
      · obtain ⟨j, ej⟩ := List.mem_iff_getElem?.mp m
        obtain ⟨v1, v2, p1, p2, tup⟩ := told.two j d ej
        obtain ⟨c, tk2, ec, rfl⟩ := p1
        have p2' : its[j]? = some v2 := by simpa using p2
        obtain ⟨y, ey, ry⟩ := vals_ix rv p2'
        rw [H2a j d c y ej ec ey] at u
        cases u
        exact ⟨by show 2 ≤ sizeLine; decide, [.str ⟨#[c]⟩ tk2, v2], .cons ⟨_, rfl⟩ (.cons ry .nil), ⟨_, tup, rfl, _, rfl⟩⟩
      · by_cases m2 : d = h1.objs.size
        · rw [m2] at u ⊢
          rw [H2L] at u
          cases u
          refine ⟨by rw [List.length_map]; omega, acc.toList, c, by rw [hacc]; exact refs_rel as, ?_⟩
          rw [Array.toArray_toList]
          exact hL
        · rw [H2off d m m2] at u
          exact (I1.hok d o u).stay (fun d' v _ y => old d' v y) (fun d' y => H2k d' _ y) fun d' zs y => H2k d' _ y
end
end L2

/-! Built-ins over instances of own classes: len, abs, list. -/
namespace L2
open PySem PySem.Spec PyProof.Rows
section
variable {X : Cx} {CX CX2 : CXT} {k k2 : Nat} {f f2 C a dx : Addr} {fs : List (Str × V)} {fd fd2 : FuncData} {ps ps2 : List Str} {sp sp2 : Sp} {pins : List (Addr × Obj)} {σ : St} {H : Hp} {s : Shared}
/-- a def of one argument runs within a built-in -/
theorem run_one {A' : Around} {Q : VK} {E : XK} (F : FnOk X.prog X.w X.K X.mg X.base CX k f fd ps sp) (hr : Room k A') (hfr : A'.frames = X.A.frames) (hb : Binds X.K fd ps []) (hx : PassesAt CX X σ E) (I : Inv X pins σ H s) (h : sp [.ref a] H Q E) :
    wpAny (model X.prog X.w) A' (call (.ref f) [.ref a]) (EP X pins σ Q) X.xe s := run_in (vs := [.ref a]) (dvs := []) (ds := []) F hr hfr hb .nil hx I (.cons rfl .nil) (by simpa using h)
/-- len(o) by an own __len__ -/
def rLenO (C : Addr) (sp : Sp) (E : St → XK) (σ : St) : List V → Hp → VK → Prop := fun xs H Q => ∃ a dx fs, xs = [.ref a] ∧ H a = some (.ins C dx fs) ∧ sp [.ref a] H (fun v H' => ∃ n : Int, v = .int n ∧ 0 ≤ n ∧ n < 2 ^ 63 ∧ Q (.int n) H') (E σ)
def tLenO (C : Addr) (sp : Sp) (E : St → XK) (t : TA) : TE := fun σ H Q => t σ H fun vs H1 => rLenO C sp E σ vs H1 Q
theorem len_run {A' : Around} {Q : VK} {E : XK} (m : Meth X.K C "__len__" f) (F : FnOk X.prog X.w X.K X.mg X.base CX k f fd ps sp) (hr : Room (k + 1) A') (hfr : A'.frames = X.A.frames) (hb : Binds X.K fd ps []) (hx : PassesAt CX X σ E) (I : Inv X pins σ H s) (ea : H a = some (.ins C dx fs))
    (h : sp [.ref a] H (fun v H' => ∃ n : Int, v = .int n ∧ 0 ≤ n ∧ n < 2 ^ 63 ∧ Q (.int n) H') E) : wpAny (model X.prog X.w) A' (call (.builtin "len") [.ref a]) (fun u s' => ∃ n t H', u = .int n t ∧ 0 ≤ n ∧ n < 2 ^ 63 ∧ Inv X pins σ H' s' ∧ Q (.int n) H') X.xe s := by
  obtain ⟨od, J⟩ := I.instAt ea
  obtain ⟨m0, hF⟩ := I.fr
  refine PySem.W.len_K hF I.ok.mod.kin J m.at_ m.fn (thn (run_one F hr.in1 hfr hb hx I h) ?_)
  rintro u s2 ⟨x, H2, I2, rx, n, rfl, n0, n1, q⟩
  obtain ⟨t, rfl⟩ := rx
  exact ⟨⟨n0, n1⟩, n, _, H2, rfl, n0, n1, I2.tok _, q⟩
theorem pe_lenO {E : St → XK} {p pos : Pos} {e : Expr} {t : TA} (m : Meth X.K C "__len__" f) (F : FnOk X.prog X.w X.K X.mg X.base CX k f fd ps sp) (hr : Room (k + 1) X.A) (hb : Binds X.K fd ps []) (hx : ∀ σ, PassesAt CX X σ (E σ))
    (hg : Gl X "len") (hm : X.mg "len" = none) (ha : PA X [e] t) (he : starEach [e] X.env = [(false, eval e X.env)] := by rfl) : PE X (.Call (.Name "len" p) [e] [] pos) (tLenO C sp E t) := by
  constructor
  intro pins s σ H Q I h
  refine wpAny_Call_Name_kw (ld_blt I hg hm (by decide +kernel : bootBuiltins "len" = some (.builtin "len")) ?_ (by decide) (by decide))
  refine PyProof.Rows.callWith_builtin1 (thn (ha.run pos pins s σ H _ I h) ?_) he rfl
  rintro us s1 ⟨vs, H1, I1, r1, a, dx, fs, rfl, ea, q⟩
  obtain rfl := Vals.ref1 r1
  refine thn (len_run m F hr rfl hb (hx σ) I1 ea q) ?_
  rintro u s2 ⟨n, t, H2, rfl, _, _, I2, q2⟩
  exact ⟨.int n, H2, I2, ⟨t, rfl⟩, q2⟩
/-- abs(o) by an own __abs__ -/
def tAbsO (C : Addr) (sp : Sp) (E : St → XK) (t : TA) : TE := fun σ H Q => t σ H fun vs H1 => ∃ a dx fs, vs = [.ref a] ∧ H1 a = some (.ins C dx fs) ∧ sp [.ref a] H1 Q (E σ)
theorem pe_absO {E : St → XK} {p pos : Pos} {e : Expr} {t : TA} (m : Meth X.K C "__abs__" f) (F : FnOk X.prog X.w X.K X.mg X.base CX k f fd ps sp) (hr : Room (k + 1) X.A) (hb : Binds X.K fd ps []) (hx : ∀ σ, PassesAt CX X σ (E σ))
    (hg : Gl X "abs") (hm : X.mg "abs" = none) (ha : PA X [e] t) (he : starEach [e] X.env = [(false, eval e X.env)] := by rfl) : PE X (.Call (.Name "abs" p) [e] [] pos) (tAbsO C sp E t) := by
  constructor
  intro pins s σ H Q I h
  refine wpAny_Call_Name_kw (ld_blt I hg hm (by decide +kernel : bootBuiltins "abs" = some (.builtin "abs")) ?_ (by decide) (by decide))
  refine PyProof.Rows.callWith_builtin1 (thn (ha.run pos pins s σ H _ I h) ?_) he rfl
  rintro us s1 ⟨vs, H1, I1, r1, a, dx, fs, rfl, ea, q⟩
  obtain rfl := Vals.ref1 r1
  obtain ⟨od, J⟩ := I1.instAt ea
  refine Calls.call_function_entry PyProof.Rows.kind_abs PyProof.Rows.plain_abs PyProof.Rows.entry_abs (PyProof.Rows.args_abs _) ?_
  unfold Builtin.«abs»
  refine wpAny_bind (m := oneArg "abs" _) (wpAny_pure ?_)
  refine wpAny_bind (m := callSpecial? (.ref a) (Str.ofString "__abs__")) (PySem.W.special_fn I1.kIn J m.at_ (beq_iff_eq.mp m.fn) (thn (run_one F hr.in1 rfl hb (hx σ) I1 q) fun u s2 hq => ?_))
  exact wpAny_pure ⟨_, rfl, hq⟩
/-- the walk of a list's iterator into the new list at q -/
theorem it_loop {A1 : Around} {l it q : Addr} {ys : List V} {R : Result → Shared → Prop} (hh : A1.handled = none) (ne1 : l ≠ it) (ne2 : l ≠ q) (ne3 : it ≠ q) {H0 : Hp}
    (hR : ∀ s H', Inv X pins σ H' s → (∀ b, b ≠ q → b ≠ it → H' b = H0 b) → H' q = some (.lst ys) → R (.ok (.ret .none)) s) :
    ∀ (n i : Nat) (H : Hp) (s : Shared), ys.length - i = n → i ≤ ys.length → Inv X pins σ H s → (∀ b, b ≠ q → b ≠ it → H b = H0 b) → H l = some (.lst ys) → H it = some (ItO l it i) → H q = some (.lst (ys.take i)) →
      codeAny (model X.prog X.w) A1 (.builtin "list.extend.loop" ⟨[.ref q, .ref it, .none], []⟩) R s := by
  intro n
  induction n with
  | zero =>
    intro i H s hn hi I same el ei eq
    have hi' : i = ys.length := by omega
    obtain ⟨its, rv, pl, hz⟩ := I.list (.of el)
    refine codeAny_builtin PySem.F.entry_extend_loop ?_
    rw [Around.under_plainId PySem.F.plain_extend_loop _]
    show wpAny (model X.prog X.w) A1.in1 (pyNext (.ref it) >>= _) _ _ s
    have ty : s.TypeIs (.ref it) "list_iterator" := ⟨_, itO_get I ei, rfl⟩
    refine wpAny_bind ?_
    unfold pyNext
    refine wpAny_bind (wpAny_attempt (wpAny_callSpecial?_slot (name := Str.ofString "__next__") ty slot_listiter_next (wpAny_call_entry slot_listiter_next ty entry_listiter_next ?_ (args_listiter_next _))))
    have nx : ys[i]? = none := List.getElem?_eq_none (by omega)
    refine wpAny_mono (GNX.next_end (Q := fun _ _ => False) (E := fun e s' => ∃ h1 h' e' vs, e = .ref e' ∧ h1.get? it = some (GNX.itEnd i) ∧ Heap.SameBut it s.heap h1 ∧ (∀ b o, h1.get? b = some o → h'.get? b = some o) ∧ h'.get? e' = some { cls := .type "StopIteration", data := .fields vs } ∧ s' = { s with heap := h' }) (A := A1.in1) hh (itO_get I ei) pl.isList (by rw [List.getElem?_toArray]; exact rv.none_of nx) fun h1 h' e vs e1 sb kp ne he hv => ⟨h1, h', e, vs, rfl, e1, sb, kp, he, rfl⟩) ?_ ?_
    · rintro r s' ⟨v, _, z⟩
      exact z.elim
    · rintro e s' ⟨h1, h', e', vs, rfl, e1, sb, kp, he, rfl⟩
      refine wpAny_bind (wpAny_isInstance (T := "StopIteration") (b := true) ⟨_, he, rfl⟩ isSubtype_stop ?_)
      refine wpAny_pure ?_
      refine wpAny_pure ?_
      have mu : Mut (H it) := by rw [ei]; exact True.intro
      have I2 : Inv X pins σ (upd H it (ItE it i)) { s with heap := h1 } := I.write (x := it) (e := it) (t' := s.toks) mu (.inl rfl) (fun b o nb z => (sb.2 b nb).trans z) ⟨_, e1⟩ (itE_ok e1)
      have I3 : Inv X pins σ (upd H it (ItE it i)) { s with heap := h' } := I2.kept (t' := s.toks) kp
      refine hR _ _ I3 (fun b b1 b2 => by rw [upd_ne b2]; exact same b b1 b2) ?_
      rw [upd_ne (Ne.symm ne3), eq, hi', List.take_length]
  | succ n ih =>
    intro i H s hn hi I same el ei eq
    have lt : i < ys.length := by omega
    obtain ⟨its, rv, pl, hz⟩ := I.list (.of el)
    obtain ⟨u, hu, ru⟩ := rv.get (List.getElem?_eq_getElem lt)
    refine codeAny_builtin PySem.F.entry_extend_loop ?_
    rw [Around.under_plainId PySem.F.plain_extend_loop _]
    show wpAny (model X.prog X.w) A1.in1 (pyNext (.ref it) >>= _) _ _ s
    have ty : s.TypeIs (.ref it) "list_iterator" := ⟨_, itO_get I ei, rfl⟩
    refine wpAny_bind ?_
    unfold pyNext
    refine wpAny_bind (wpAny_attempt (wpAny_callSpecial?_slot (name := Str.ofString "__next__") ty slot_listiter_next (wpAny_call_entry slot_listiter_next ty entry_listiter_next ?_ (args_listiter_next _))))
    refine GNX.next_item (itO_get I ei) pl.isList (by rw [List.getElem?_toArray]; exact hu) fun h' e' sb => wpAny_pure ?_
    have mu : Mut (H it) := by rw [ei]; exact True.intro
    have I2 : Inv X pins σ (upd H it (ItO l it (i + 1))) { s with heap := h' } := I.write (x := it) (e := it) (t' := s.toks) mu (.inl rfl) (fun b o nb z => (sb.2 b nb).trans z) ⟨_, e'⟩ (itO_ok e')
    show wpAny (model X.prog X.w) A1.in1 (updateSeq q (·.push u) >>= _) _ _ _
    have eq2 : upd H it (ItO l it (i + 1)) q = some (.lst (ys.take i)) := by rw [upd_ne (Ne.symm ne3)]; exact eq
    obtain ⟨z, us, c, r2, hl, e⟩ := I2.lstM eq2
    refine wpAny_bind (wpAny_updateSeq e rfl (wpAny_pure ⟨plainId_quiet PySem.F.plain_extend_loop _, ?_⟩) (by rw [List.size_toArray]; omega) (by show (us.toArray.push u).size ≤ sizeLine + 1; rw [Array.size_push, List.size_toArray]; omega))
    have tk : ys.take (i + 1) = ys.take i ++ [ys[i]] := (List.take_succ_eq_append_getElem lt)
    have I3 := I2.lset (its' := us ++ [u]) (ys := ys.take (i + 1)) (f := (·.push u)) (t' := s.toks) eq2 e (by simp) (by rw [tk]; exact r2.append (.cons ru .nil)) (by rw [List.length_take]; omega)
    refine ih (i + 1) _ _ (by omega) lt I3 (fun b b1 b2 => by rw [upd_ne b1, upd_ne b2]; exact same b b1 b2) ?_ ?_ upd_same
    · rw [upd_ne ne2, upd_ne ne1]; exact el
    · rw [upd_ne ne3, upd_same]
/-- what lets nothing out -/
def Shut (CX : CXT) : Prop := ∀ outer H s e s', CX outer H s (fun _ _ _ => False) e s' → False
theorem shut_CX {P : Program} {w : World} : Shut (L2.CX P w) := fun _ _ _ _ _ ⟨_, _, _, _, _, _, _, _, _, _, _, _, z⟩ => z
theorem run_shut {A' : Around} {Q : VK} {E1 : Value → Shared → Prop} (F : FnOk X.prog X.w X.K X.mg X.base CX k f fd ps sp) (hr : Room k A') (hfr : A'.frames = X.A.frames) (hb : Binds X.K fd ps []) (hx : Shut CX) (I : Inv X pins σ H s) (h : sp [.ref a] H Q (fun _ _ _ => False)) :
    wpAny (model X.prog X.w) A' (call (.ref f) [.ref a]) (EP X pins σ Q) E1 s := by
  have e0 := I.env0
  have e1 : Env0 X.prog X.w X.K X.mg X.base A' X.stack s H := ⟨hfr.trans e0.frames, e0.mod, e0.bs, e0.bsz, e0.funs, e0.frf, e0.hok, e0.bare⟩
  have rr : Vals [V.ref a] [Value.ref a] := .cons rfl .nil
  refine wpAny_call (codeAny_mono (F.run A' X.stack s H ⟨[.ref a], []⟩ [.ref a] [.ref a] Q _ hr e1 (by simpa using hb s [.ref a] I.kIn (by have := F.len _ _ _ _ h; simpa using this)) rr h) ?_)
  intro res s' hq
  match res, hq with
  | .error e, hq => exact (hx _ _ _ _ _ hq).elim
  | .ok (.ret u), hq => exact I.after hq
  | .ok .next, hq => exact hq.elim
  | .ok .brk, hq => exact hq.elim
  | .ok .cont, hq => exact hq.elim
theorem len_shut {A' : Around} {P : Int → Hp → Prop} {E1 : Value → Shared → Prop} (m : Meth X.K C "__len__" f) (F : FnOk X.prog X.w X.K X.mg X.base CX k f fd ps sp) (hr : Room (k + 1) A') (hfr : A'.frames = X.A.frames) (hb : Binds X.K fd ps []) (hx : Shut CX) (I : Inv X pins σ H s) (ea : H a = some (.ins C dx fs))
    (h : sp [.ref a] H (fun v H' => ∃ n : Int, v = .int n ∧ 0 ≤ n ∧ n < 1000000 ∧ P n H') (fun _ _ _ => False)) : wpAny (model X.prog X.w) A' (call (.builtin "len") [.ref a]) (fun u s' => ∃ n t H', u = .int n t ∧ 0 ≤ n ∧ n < 1000000 ∧ Inv X pins σ H' s' ∧ P n H') E1 s := by
  obtain ⟨od, J⟩ := I.instAt ea
  obtain ⟨m0, hF⟩ := I.fr
  refine PySem.W.len_K hF I.ok.mod.kin J m.at_ m.fn (thn (run_shut F hr.in1 hfr hb hx I h) ?_)
  rintro u s2 ⟨x, H2, I2, rx, n, rfl, n0, n1, q⟩
  obtain ⟨t, rfl⟩ := rx
  exact ⟨⟨n0, by omega⟩, n, _, H2, rfl, n0, n1, I2.tok _, q⟩
/-- list(o): o's __iter__ gives a list's iterator, its __len__ a number -/
def rListO (C : Addr) (spI spL : Sp) (E : St → XK) (σ : St) : List V → Hp → VK → Prop := fun xs H Q => ∃ a dx fs, xs = [.ref a] ∧ H a = some (.ins C dx fs) ∧ ∀ q, H q = none →
  spI [.ref a] (upd H q (.lst [])) (fun v H1 => ∃ l it ys dx1 fs1, v = .ref it ∧ H1 a = some (.ins C dx1 fs1) ∧ H1 it = some (ItO l it 0) ∧
    spL [.ref a] H1 (fun m H2 => ∃ i : Int, m = .int i ∧ 0 ≤ i ∧ i < 1000000 ∧ H2 l = some (.lst ys) ∧ H2 it = some (ItO l it 0) ∧ H2 q = some (.lst []) ∧ l ≠ q ∧
      ∀ H', (∀ b, b ≠ q → b ≠ it → H' b = H2 b) → H' q = some (.lst ys) → Q (.ref q) H') (fun _ _ _ => False)) (E σ)
def tListO (C : Addr) (spI spL : Sp) (E : St → XK) (t : TA) : TE := fun σ H Q => t σ H fun vs H1 => rListO C spI spL E σ vs H1 Q
theorem pe_listO {E : St → XK} {p pos : Pos} {e : Expr} {t : TA} (mi : Meth X.K C "__iter__" f) (ml : Meth X.K C "__len__" f2) (FI : FnOk X.prog X.w X.K X.mg X.base CX k f fd ps sp) (FL : FnOk X.prog X.w X.K X.mg X.base CX2 k2 f2 fd2 ps2 sp2) (hr : Room (k + 2) X.A) (hr2 : Room (k2 + 3) X.A) (hb : Binds X.K fd ps []) (hb2 : Binds X.K fd2 ps2 [])
    (hx : ∀ σ, PassesAt CX X σ (E σ)) (hx2 : Shut CX2) (hc : X.calm = true) (hg : Gl X "list") (hm : X.mg "list" = none) (ha : PA X [e] t) (he : starEach [e] X.env = [(false, eval e X.env)] := by rfl) : PE X (.Call (.Name "list" p) [e] [] pos) (tListO C sp sp2 E t) := by
  constructor
  intro pins s σ H Q I h
  refine wpAny_Call_Name_kw (ld_blt I hg hm boot_list ?_ (by decide) (by decide))
  refine PyProof.Rows.callWith_type1 (thn (ha.run pos pins s σ H _ I h) ?_) he rfl
  rintro us s1 ⟨vs, H1, I1, r1, a, dx, fs, rfl, ea, fin⟩
  obtain rfl := Vals.ref1 r1
  have hh : X.A.handled = none := I1.ok.hd hc
  refine callType_codes (Q₁ := fun obj t => obj = .ref s1.heap.objs.size ∧ t = { s1 with heap := s1.heap.push { cls := .type "list", data := .seq #[] } }) PySem.F.called_list (PySem.F.typeCall_list_1 _) PySem.F.entry_list_init
    (code_list_new _ ⟨rfl, rfl⟩) fun obj t ht => ?_
  obtain ⟨rfl, rfl⟩ := ht
  have hL : (s1.heap.push { cls := .type "list", data := .seq #[] }).get? s1.heap.objs.size = some { cls := .type "list", data := .seq #[] } := Heap.get?_push_size _ rfl
  refine ⟨⟨_, hL, rfl⟩, PySem.F.args_list_init_2 _ _, ?_⟩
  have fr : H1 s1.heap.objs.size = none := I1.hok.fresh (Nat.le_refl _)
  have q0 := fin _ fr
  have I2 : Inv X pins σ (upd H1 s1.heap.objs.size (.lst [])) { s1 with heap := s1.heap.push { cls := .type "list", data := .seq #[] } } := I1.lnew (its := []) (t' := s1.toks) .nil (Nat.zero_le _)
  have ea2 : upd H1 s1.heap.objs.size (.lst []) a = some (.ins C dx fs) := by rw [upd_ne (ne_of_none ea fr)]; exact ea
  have aL : s1.heap.objs.size ≠ a := (ne_of_none ea fr).symm
  generalize s1.heap.objs.size = L at *
  show wpAny (model X.prog X.w) X.A.in1.in1 (do let old ← Builtin.List.listItems (.ref L); Builtin.List.listUpdate (.ref L) (fun _ => #[]); letGo old.toList.reverse; Builtin.List.listExtendWith (.ref L) (.ref a) .none) _ _ _
  refine wpAny_bind ?_
  unfold Builtin.List.listItems
  refine wpAny_bind (wpAny_seqItems hL rfl (wpAny_pure ?_))
  show wpAny (model X.prog X.w) X.A.in1.in1 (updateSeq L (fun _ => #[]) >>= fun _ => letGo (#[] : Array Value).toList.reverse >>= fun _ => Builtin.List.listExtendWith (.ref L) (.ref a) .none) _ _ _
  refine wpAny_bind (wpAny_updateSeq hL rfl ?_)
  have I3 := I2.lset (f := fun _ => #[]) (its := []) (its' := []) (ys := []) (t' := s1.toks) upd_same hL rfl .nil (Nat.zero_le _)
  rw [upd_upd] at I3
  refine wpAny_bind (wpAny_letGo ?_)
  obtain ⟨od, J⟩ := I3.instAt ea2
  obtain ⟨m0, hF⟩ := I3.fr
  unfold Builtin.List.listExtendWith
  refine wpAny_bind (J.type.here ?_)
  have r1 : Builtin.List.listSameRef (.ref L) (.ref a) = false := by simp [Builtin.List.listSameRef, aL]
  have r2 : (Value.ref C == Value.type "list") = false := rfl
  have r3 : (Value.ref C == Value.type "tuple") = false := rfl
  simp only [r1, r2, r3, Bool.or_false, Bool.false_eq_true, if_false]
  refine wpAny_bind (PySem.W.owit_iter hF I3.ok.mod.kin J mi.at_ mi.fn ?_)

  refine thn (run_one (E := E σ) FI hr.in1.in1 rfl hb (hx σ) I3 q0) ?_
  rintro u s4 ⟨v, H4, I4, rv, l, it, ys, dx1, fs1, rfl, ea4, eit, q4⟩
  cases rv
  unfold PySem.W.OwitIt
  have ty4 : s4.TypeIs (.ref it) "list_iterator" := ⟨_, itO_get I4 eit, rfl⟩
  refine wpAny_specialOf ty4 slot_listiter_next.lookup ?_
  dsimp only
  obtain ⟨od4, J4⟩ := I4.instAt ea4
  refine wpAny_bind (wpAny_holding ?_)
  unfold Builtin.List.listLengthHint
  refine wpAny_bind (wpAny_bind (J4.type.here ((PySem.W.looks_findIn I4.kIn ml.at_).here ?_)))
  refine PySem.W.KFB.if_not rfl ?_
  refine wpAny_ite_split (fun _ => ?_) (fun z => absurd rfl z)
  refine wpAny_bind (wpAny_rule ?_)
  refine wpAny_bind (wpAny_attempt (wpAny_mono (len_shut (E1 := fun _ _ => False) ml FL hr2.in1.in1 rfl hb2 hx2 I4 ea4 q4) ?_ fun _ _ z => z.elim))
  · rintro u s5 ⟨n, t, H5, rfl, n0, n1, I5, el, eit5, eL, nlL, q5⟩
    refine wpAny_bind (m := asInt? (.int n t)) (wpAny_pure ?_)
    dsimp only
    have small : Builtin.List.listTooLong n.toNat = false := notLongL (by rw [sizeLine_eq]; omega)
    rw [small]
    simp only [Bool.false_eq_true, if_false]
    refine wpAny_pure ?_
    obtain ⟨z, its, c, r3, hl3, e3⟩ := I5.lstM eL
    cases r3
    have n1 : l ≠ it := ne_of el eit5 (fun z => nomatch z)
    have n3 : it ≠ L := ne_of eit5 eL (fun z => nomatch z)
    have go : ∀ s' H', Inv X pins σ H' s' → H' = H5 → codeAny (model X.prog X.w) X.A.in1 (.builtin "list.extend.loop" ⟨[.ref L, .ref it, .none], []⟩) (wants (fun r s₂ => r = .none ∧ EP X pins σ Q (.ref L) s₂) X.xe) s' := fun s' H' I' eH => by
      subst eH
      exact it_loop (A1 := X.A.in1) (R := wants (fun r s₂ => r = .none ∧ EP X pins σ Q (.ref L) s₂) X.xe) (H0 := H') hh n1 nlL n3 (fun s'' H'' I'' same eq => ⟨rfl, .ref L, H'', I'', rfl, q5 H'' same eq⟩) ys.length 0 H' s' (Nat.sub_zero _) (Nat.zero_le _) I' (fun _ _ _ => rfl) el eit5 eL
    refine wpAny_ite_split (fun _ => ?_) (fun _ => wpAny_pure ⟨plainId_quiet PySem.F.plain_extend_loop _, go _ _ I5 rfl⟩)
    refine wpAny_bind (wpAny_rule (wpAny_bind ?_))
    show wpAny (model X.prog X.w) X.A.in1.in1 (updateSeq L (·.push .none) >>= fun _ => updateSeq L (·.pop)) _ _ _
    refine wpAny_bind (wpAny_updateSeq e3 rfl ?_)
    have I6 := I5.lset (f := (·.push Value.none)) (its' := [Value.none]) (ys := [.non]) (t' := s5.toks) eL e3 (by simp) (.cons rfl .nil) (by rw [List.length_singleton, sizeLine_eq]; decide)
    obtain ⟨z4, its4, c4, r4, hl4, e4⟩ := I6.lstM upd_same
    obtain ⟨u4, rfl, ru4⟩ := r4.one
    refine wpAny_updateSeq e4 rfl ?_ (by show 1 ≤ sizeLine; rw [sizeLine_eq]; decide) (by show 0 ≤ sizeLine + 1; exact Nat.zero_le _)
    have I7 := I6.lset (f := (·.pop)) (its := [u4]) (its' := []) (ys := []) (t' := s5.toks) upd_same e4 (by rfl) .nil (Nat.zero_le _)
    rw [upd_upd] at I7
    refine wpAny_pure ⟨plainId_quiet PySem.F.plain_extend_loop _, go _ _ I7 ?_⟩
    funext b
    by_cases hb : b = L
    · rw [hb, upd_same, eL]
    · rw [upd_ne hb]
end
end L2

/-! Facts for isinstance; code that is not reached; some more built-ins. -/
namespace Rz
open PySem PySem.Spec PyProof.Rows L2 He
def tyB (C : Str) : Fg → Bool := fun K => (Fa.cls C).ok K && (eqO (PySem.W.findIn K (.ref (ga K C)) "__class__") (some (some (.builtin "object.__class__"))) && (eqO (PySem.W.specialIn K (.builtin "object.__class__") "__get__") (some (some (.builtin "getset_descriptor.__get__"))) &&
  (decide (PySem.W.takesIn K (.builtin "object.__class__") = some true) && decide (PySem.W.mroIn K (ga K C) (.type "object") = some true))))
theorem tyB_ok {C : Str} {K : Fg} (h : tyB C K = true) : C8.InsC K (ga K C) := by
  obtain ⟨h0, h⟩ := ba h
  obtain ⟨h1, h⟩ := ba h
  obtain ⟨h2, h⟩ := ba h
  obtain ⟨h3, h4⟩ := ba h
  exact ⟨cls_ok h0, eqO_ok h1, eqO_ok h2, of_decide_eq_true h3, of_decide_eq_true h4, by unfold PySem.W.kitOne; simp⟩
/-- isinstance of an instance of C (a value of the built-in type T), asked for the built-in type U (the class D) -/
def kitCT (C : Str) (U : String) (r : Bool) : Fg → Bool := fun K => decide (PySem.W.kitOne K (.ref (ga K C)) (.type U) = some r)
def kitTC (T : String) (D : Str) (r : Bool) : Fg → Bool := fun K => decide (PySem.W.kitOne K (.type T) (.ref (ga K D)) = some r)
def kitCC (C D : Str) (r : Bool) : Fg → Bool := fun K => decide (PySem.W.kitOne K (.ref (ga K C)) (.ref (ga K D)) = some r)
theorem tyX_own {K : Fg} {C a dx : Addr} {fs : List (Str × V)} {H : Hp} (c : C8.InsC K C) (ea : H a = some (.ins C dx fs)) : TyX K H (.ref a) (.ref C) := .base (.ins ea c.cl c.ha c.hn c.htk c.hm)
end Rz
namespace L2
open PySem PySem.Spec PyProof.Rows
section
variable {X : Cx}
/-- what is never reached -/
def tDeadE : TE := fun _ _ _ => False
def tDead : TS := fun _ _ _ => False
theorem pe_dead {e : Expr} : PE X e tDeadE := ⟨fun _ _ _ _ _ _ z => z.elim⟩
theorem ps_dead {st : Stmt} : PS X st tDead := ⟨fun _ _ _ _ _ _ z => z.elim⟩
theorem pss_dead {st : List Stmt} : PSs X st tDead := ⟨fun _ _ _ _ _ _ z => z.elim⟩
def rMaxA (K : Frg) : List V → Hp → VK → Prop := rMax K
def rMinA (K : Frg) : List V → Hp → VK → Prop := rMin K
theorem c_max (hc : X.calm = true) : CallR X (.builtin "max") (rMaxA X.K) := cr_max hc
theorem c_min (hc : X.calm = true) : CallR X (.builtin "min") (rMinA X.K) := cr_min hc
def rAnyA (K : Frg) : List V → Hp → VK → Prop := rAny K
theorem c_any (hc : X.calm = true) : CallR X (.builtin "any") (rAnyA X.K) := cr_any hc
def rIterA (K : Frg) : List V → Hp → VK → Prop := rIter K
theorem c_iter : CallR X (.builtin "iter") (rIterA X.K) := call_iterL
def rInsertA : V → List V → Hp → VK → Prop := fun x vs H Q => ∃ (l : Addr) (xs : List V) (i : Int) (y : V), x = .ref l ∧ vs = [.int i, y] ∧ H l = some (.lst xs) ∧ xs.length < sizeLine ∧ 0 ≤ i ∧ i < 2 ^ 63 ∧ Q .non (upd H l (.lst (xs.take i.toNat ++ [y] ++ xs.drop i.toNat)))
theorem mt_insertA : MtR X "list.insert" rInsertA := mt_insert
end
end L2

/-! Operators, subscripts and slices over instances of the program's own classes. -/
namespace PySem.W
open PySem PySem.Calls PyProof.Rows Builtin
section
variable {prog : Program} {w : World} {A : Around} {E : Value → Shared → Prop} {s : Shared} {K : Frag} {x C L f : Addr} {h₀ : Heap} {m : Str → Option Value} {ox : Obj} {od : Option Obj}
theorem notImpl_of_CmpBack {Q : Value → Shared → Prop} {v : Value} {s' : Shared} (hv : v ≠ .notImplemented) (h : Q v s') : CmpBack Q v s' := by
  cases v <;> first | exact absurd rfl hv | exact h
/-- o[i:j] -/
theorem sub_KS {value : Expr} {lo hi : Option Expr} {p : Pos} {i : Value} {Q : Value → Shared → Prop} (F : Fr h₀ L s.heap m) (X₀ : K.In h₀) (I : InstAt s.heap x ox C od) (hs : findIn K (.ref C) "__getitem__" = some (some (.ref f))) (hf : fnIn K f = true) (hfn : isFn K (.ref f) = true) (hq : noSeq K C = true)
    (h : wpAny (model prog w) A (call (.ref f) [.ref x, i]) Q E s) :
    wpAny (model prog w) A (subscriptTail value (.Slice lo hi none p) (.ref x) i) Q E s := by
  have X := X₀.keeps F.keep
  unfold fnIn at hf
  split at hf
  · rename_i e
    unfold subscriptTail getitemInPython
    refine wpAny_bind (wpAny_bind (wpAny_bind (I.type.here ((looks_findIn X hs).here ?_))))
    dsimp only
    refine wpAny_bind (wpAny_load (X _ _ e) (wpAny_pure ?_))
    dsimp only
    show wpAny (model prog w) A (operate [i, .ref x] (getItem (.ref x) i) >>= _) Q E s
    refine wpAny_bind (wpAny_operate' (getItem_K F X₀ I hq hs hfn (wpAny_mono h (fun v s' z => ?_) fun _ _ z => z)))
    show wpAny (model prog w) A (letTemporaryGo value (.ref x) v >>= fun _ => pure v) Q E s'
    exact wpAny_bind (wpAny_letTemporaryGo (wpAny_pure z))
  · cases hf
/-- i * o of an int and an instance by its own __rmul__ -/
theorem rmul_K {i : Int} {t : Tok} {Q : Value → Shared → Prop} (np : ∀ v, ox.data ≠ .prim v) (F : Fr h₀ L s.heap m) (X₀ : K.In h₀) (I : InstAt s.heap x ox C od) (hc : selfFirst K C = true)
    (hs : findIn K (.ref C) "__rmul__" = some (some (.ref f))) (hl : findIn K (.ref C) "__mul__" = some none) (hf : isFn K (.ref f) = true)
    (hsub : subIn K (.ref C) (.type "int") = some false)
    (h : wpAny (model prog w) A (call (.ref f) [.ref x, .int i t]) (CmpBack Q) E s) : wpAny (model prog w) A (binaryOp .Mult (.int i t) (.ref x)) Q E s := by
  have X := X₀.keeps F.keep
  obtain ⟨cd, rest, hcd, hm⟩ := ksp_first hc
  have one := ksp_try (A := A) X I hs hf h
  obtain ⟨hh, g, d, tt, os⟩ := s
  have L1 : Looks (model prog w) hh (typeOf (.ref x)) (.ref C) := I.type
  have L3 : Looks (model prog w) hh (fillsNumberSlot (.ref C) "mul") true := by
    intro A Q E s k q
    have Xs := X.keeps k
    unfold fillsNumberSlot
    refine wpAny_bind ((looks_clsIn X hcd).andThen (f := fun cd => pure cd.mro) .now A _ E s k ?_)
    rw [hm, List.anyM_cons]
    refine wpAny_bind ?_
    show wpAny _ A (List.anyM _ [PySem.dunder "mul", dunderR "mul"]) _ _ _
    rw [List.anyM_cons]
    refine wpAny_bind (wpAny_bind (looks_findIn X (show findIn K (.ref C) (PySem.dunder "mul") = some none from hl) A _ E s k ?_))
    dsimp only
    refine wpAny_pure ?_
    simp only [Bool.false_eq_true, if_false]
    rw [List.anyM_cons]
    refine wpAny_bind (wpAny_bind (looks_findIn X (show findIn K (.ref C) (dunderR "mul") = some (some (.ref f)) from hs) A _ E s k ?_))
    dsimp only
    rw [if_pos (show (!ownNameWrapper (.ref f) (dunderR "mul")) = true from rfl)]
    refine wpAny_pure ?_
    rw [if_pos rfl]
    refine wpAny_pure ?_
    rw [if_pos rfl]
    exact wpAny_pure q
  have L2 : Looks (model prog w) hh (typeOf (.int i t)) (.type "int") := Looks.of_pure rfl
  have L4 : Looks (model prog w) hh (fillsNumberSlot (.type "int") "mul") true := Looks.of_pure PySem.F.fills_int_mul
  have L5 : Looks (model prog w) hh (isSubtype (.ref C) (.type "int")) false := looks_subIn X hsub
  have L6 : Looks (model prog w) hh (numberSlotInPython (.type "int") "mul") false := Looks.of_pure rfl
  have hne : (Value.type "int" == Value.ref C) = false := Bool.eq_false_iff.mpr fun q => by cases beq_iff_eq.mp q
  simp only [binaryOp, Operator.info]
  refine wpAny_holding (wpAny_bind ?_)
  unfold binaryOp1
  refine wpAny_bind (L2.at (wpAny_bind (L1.at (wpAny_bind (L4.at ?_)))))
  simp only [hne, Bool.false_eq_true, if_false]
  refine wpAny_bind (L3.at ?_)
  simp only [Bool.and_self, if_true]
  refine wpAny_bind (L5.at ?_)
  simp only [Bool.false_eq_true, if_false]
  refine wpAny_bind (L6.at ?_)
  simp only [Bool.false_eq_true, if_false]
  refine wpAny_bind (wpAny_mono (Q := fun r s' => r = none ∧ s' = ⟨hh, g, d, tt, os⟩) ?one ?two fun _ _ e => e)
  case one =>
    unfold tryMethod
    refine wpAny_bind (wpAny_callSpecial?_slot (s := ⟨hh, g, d, tt, os⟩) (typeIs_int _ i t) PySem.F.slot_int_mul (wpAny_call_entry PySem.F.slot_int_mul (typeIs_int _ i t) PySem.F.entry_int_mul ?_ (PySem.F.args_int_mul_2 _ _)))
    have e : (⟨hh, g, d, tt, os⟩ : Shared).heap.get? x = some ox := I.at_
    have fin : wpAny (model prog w) A.in1 (asInt? (.ref x)) (fun r s' => r = none ∧ s' = ⟨hh, g, d, tt, os⟩) E ⟨hh, g, d, tt, os⟩ := by
      unfold asInt?
      refine wpAny_bind (wpAny_load e ?_)
      cases q : ox.data with
      | prim v => exact absurd q (np v)
      | _ => exact wpAny_pure ⟨rfl, rfl⟩
    show wpAny (model prog w) A.in1 (asInt? (.ref x) >>= _) _ _ _
    refine wpAny_bind (wpAny_mono fin ?_ fun _ _ z => z)
    rintro r s' ⟨rfl, rfl⟩
    refine wpAny_bind (wpAny_rule ?_)
    exact wpAny_pure ⟨_, rfl, wpAny_pure ⟨rfl, rfl⟩⟩
  case two =>
    rintro r s' ⟨rfl, rfl⟩
    ksp_lk
    refine wpAny_mono one (fun r s' hr' => ?_) fun _ _ e => e
    obtain ⟨v, rfl, hq⟩ := hr'
    ksp_lk
    exact hq
end
end PySem.W
namespace L2
open PySem PySem.Spec PyProof.Rows
/-- a slice object with two ints -/
def Sli (a : Addr) (i j : Int) : HO := .ext fun h => ∃ t u, h.get? a = some { cls := .type "slice", data := .fields #[.int i t, .int j u, .none] }
/-- what a class has for its operators -/
structure OpC (K : PySem.W.Frag) (C : Addr) : Prop where
  first : PySem.W.selfFirst K C = true
  noseq : PySem.W.noSeq K C = true
section
variable {X : Cx} {CX : CXT} {k : Nat} {f C a dx : Addr} {fs : List (Str × V)} {fd : FuncData} {ps : List Str} {sp : Sp} {pins : List (Addr × Obj)} {σ : St} {H : Hp} {s : Shared} {pos : Pos} {e1 e2 e3 : Expr} {t1 t2 t3 : TE}
theorem rel_ni {x : V} {v : Value} (r : RelV x v) : v ≠ .notImplemented := by
  cases x with
  | non => intro e; rw [show v = Value.none from r] at e; cases e
  | bl b => intro e; rw [show v = Value.bool b from r] at e; cases e
  | int i => obtain ⟨t, rfl⟩ := r; intro e; cases e
  | str i => obtain ⟨t, rfl⟩ := r; intro e; cases e
  | byt i => obtain ⟨t, rfl⟩ := r; intro e; cases e
  | flt i => obtain ⟨t, rfl⟩ := r; intro e; cases e
  | ref i => intro e; rw [show v = Value.ref i from r] at e; cases e
  | ty i => intro e; rw [show v = Value.type i from r] at e; cases e
theorem EP.back {Q : VK} {v : Value} {s' : Shared} (h : EP X pins σ Q v s') : PySem.W.CmpBack (EP X pins σ Q) v s' := by
  obtain ⟨x, H', I, r, q⟩ := h
  exact PySem.W.notImpl_of_CmpBack (rel_ni r) ⟨x, H', I, r, q⟩
/-- a def of two arguments runs within an operator -/
theorem run_two {A' : Around} {Q : VK} {E : XK} {y : V} {u : Value} (F : FnOk X.prog X.w X.K X.mg X.base CX k f fd ps sp) (hr : Room k A') (hfr : A'.frames = X.A.frames) (hb : Binds X.K fd ps []) (hx : PassesAt CX X σ E) (I : Inv X pins σ H s) (ry : RelV y u) (h : sp [.ref a, y] H Q E) :
    wpAny (model X.prog X.w) A' (call (.ref f) [.ref a, u]) (EP X pins σ Q) X.xe s := run_in (vs := [.ref a, y]) (dvs := []) (ds := []) F hr hfr hb .nil hx I (.cons rfl (.cons ry .nil)) (by simpa using h)
def tOwn (C : Addr) (sp : Sp) (E : St → XK) (P : V → Hp → Prop) (ta tb : TE) : TE := fun σ H Q => ta σ H fun x H1 => tb σ H1 fun y H2 => ∃ a dx fs, x = .ref a ∧ H2 a = some (.ins C dx fs) ∧ P y H2 ∧ sp [.ref a, y] H2 Q (E σ)
def isIns (C : Addr) : V → Hp → Prop := fun y H => ∃ b dx fs, y = .ref b ∧ H b = some (.ins C dx fs)
def anyV : V → Hp → Prop := fun _ _ => True
def isIntV : V → Hp → Prop := fun y _ => ∃ i, y = .int i
/-- o + q of two instances of one class -/
theorem pe_addO {op : Operator} {E : St → XK} (m : Meth X.K C (PySem.dunder op.info.2) f) (c : OpC X.K C) (F : FnOk X.prog X.w X.K X.mg X.base CX k f fd ps sp) (hr : Room k X.A) (hb : Binds X.K fd ps []) (hx : ∀ σ, PassesAt CX X σ (E σ))
    (ha : PE X e1 t1) (hb2 : PE X e2 t2) : PE X (.BinOp e1 op e2 pos) (tOwn C sp E (isIns C) t1 t2) := by
  refine ⟨fun pins s σ H Q I h => wpAny_BinOp (binT ha hb2 I h fun v u s2 x y H2 I2 rx ry q => ?_)⟩
  obtain ⟨a, dx, fs, rfl, ea, ⟨b, dx2, fs2, rfl, eb⟩, q⟩ := q
  cases rx
  cases ry
  obtain ⟨od, J⟩ := I2.instAt ea
  obtain ⟨od2, J2⟩ := I2.instAt eb
  obtain ⟨m0, hF⟩ := I2.fr
  exact PySem.W.binop_K hF I2.ok.mod.kin J J2.type c.first m.at_ m.fn (thn (run_two (y := .ref b) F hr rfl hb (hx σ) I2 rfl q) fun _ _ z => z.back)
/-- x in o -/
def tInO (C : Addr) (sp : Sp) (E : St → XK) (ta tb : TE) : TE := fun σ H Q => ta σ H fun x H1 => tb σ H1 fun y H2 => ∃ a dx fs, y = .ref a ∧ H2 a = some (.ins C dx fs) ∧ sp [.ref a, x] H2 (fun v H' => ∃ b, v = .bl b ∧ Q (.bl b) H') (E σ)
theorem in_run {E : St → XK} {x : V} {u : Value} {Q : VK} (m : Meth X.K C "__contains__" f) (F : FnOk X.prog X.w X.K X.mg X.base CX k f fd ps sp) (hr : Room k X.A) (hb : Binds X.K fd ps []) (hx : ∀ σ, PassesAt CX X σ (E σ)) (I2 : Inv X pins σ H s) (rx : RelV x u) (ea : H a = some (.ins C dx fs))
    (q : sp [.ref a, x] H (fun v H' => ∃ b, v = .bl b ∧ Q (.bl b) H') (E σ)) : wpAny (model X.prog X.w) X.A (compareOp .In u (.ref a)) (EP X pins σ Q) X.xe s := by
  obtain ⟨od, J⟩ := I2.instAt ea
  obtain ⟨m0, hF⟩ := I2.fr
  refine PySem.W.in_K hF I2.ok.mod.kin J m.at_ m.fn (thn (run_two F hr rfl hb (hx σ) I2 rx q) ?_)
  rintro v s3 ⟨z, H3, I3, rz, b, rfl, q3⟩
  cases rz
  exact wpAny_truthy_bool ⟨.bl b, H3, I3, rfl, q3⟩
theorem pe_inO {E : St → XK} (m : Meth X.K C "__contains__" f) (F : FnOk X.prog X.w X.K X.mg X.base CX k f fd ps sp) (hr : Room k X.A) (hb : Binds X.K fd ps []) (hx : ∀ σ, PassesAt CX X σ (E σ))
    (ha : PE X e1 t1) (hb2 : PE X e2 t2) (hm : behindInMarks .In e2 = false) : PE X (.Compare e1 [.In] [e2] pos) (tInO C sp E t1 t2) := by
  refine ⟨fun pins s σ H Q I h => wpAny_Compare1 (binT ha hb2 I h fun v u s2 x y H2 I2 rx ry q => ?_) hm⟩
  obtain ⟨a, dx, fs, rfl, ea, q⟩ := q
  cases ry
  exact in_run m F hr hb hx I2 rx ea q
/-- o[i] by an own __getitem__ -/
theorem pe_getO {E : St → XK} (m : Meth X.K C "__getitem__" f) (hf : PySem.W.fnIn X.K f = true) (F : FnOk X.prog X.w X.K X.mg X.base CX k f fd ps sp) (hr : Room (k + 1) X.A) (hb : Binds X.K fd ps []) (hx : ∀ σ, PassesAt CX X σ (E σ))
    (ha : PE X e1 t1) (hb2 : PE X e2 t2) (hs : ∀ o i, subscripted e2 true o i = runValue (.builtin "lifetime.subscript" ⟨[o, i], []⟩)) : PE X (.Subscript e1 e2 pos) (tOwn C sp E anyV t1 t2) := by
  refine ⟨fun pins s σ H Q I h => Subscript_ (binT ha hb2 I h fun v u s2 x y H2 I2 rx ry q => ?_)⟩
  obtain ⟨a, dx, fs, rfl, ea, _, q⟩ := q
  cases rx
  obtain ⟨od, J⟩ := I2.instAt ea
  obtain ⟨m0, hF⟩ := I2.fr
  exact PySem.W.sub_K hF I2.ok.mod.kin J m.at_ hf m.fn (run_two F hr.in1 rfl hb (hx σ) I2 ry q) (hs _ _)
/-- i:j in a subscript -/
def tSli (ta tb : TE) : TE := fun σ H Q => ta σ H fun x H1 => tb σ H1 fun y H2 => ∃ i j, x = .int i ∧ y = .int j ∧ ∀ p, H2 p = none → Q (.ref p) (upd H2 p (Sli p i j))
theorem pe_sli {p2 : Pos} (ha : PE X e1 t1) (hb2 : PE X e2 t2) : PE X (.Slice (some e1) (some e2) none p2) (tSli t1 t2) := by
  refine ⟨fun pins s σ H Q I h => ?_⟩
  refine wpAny_Slice (thn (ha.run pins s σ H _ I h) fun vl s2 ⟨x, H2, I2, r1, q2⟩ => thn (hb2.run pins s2 σ H2 _ I2 q2) fun vu s3 ⟨y, H3, I3, r2, q3⟩ => ?_)
  obtain ⟨i, j, rfl, rfl, q⟩ := q3
  obtain ⟨t, rfl⟩ := r1
  obtain ⟨u, rfl⟩ := r2
  rw [evalPart_none]
  refine wpAny_pure ?_
  have fr : H3 s3.heap.objs.size = none := I3.hok.fresh (Nat.le_refl _)
  have I4 : Inv X pins σ (upd H3 s3.heap.objs.size (Sli s3.heap.objs.size i j)) { s3 with heap := s3.heap.push { cls := .type "slice", data := .fields #[.int i t, .int j u, .none] } } :=
    I3.laid (t' := s3.toks) (fun _ _ q => Heap.get?_push_of_some _ q) (Nat.le_refl _) ⟨⟨t, u, Heap.get?_push_size _ rfl⟩, ⟨_, Heap.get?_push_size _ rfl⟩, fun h1 h2 z k => let ⟨t, u, e⟩ := z; ⟨t, u, k _ e⟩⟩
  exact ⟨.ref s3.heap.objs.size, _, I4, rfl, q _ fr⟩
theorem pe_getOS {lo hi : Option Expr} {p2 : Pos} {E : St → XK} (m : Meth X.K C "__getitem__" f) (hf : PySem.W.fnIn X.K f = true) (c : OpC X.K C) (F : FnOk X.prog X.w X.K X.mg X.base CX k f fd ps sp) (hr : Room k X.A) (hb : Binds X.K fd ps []) (hx : ∀ σ, PassesAt CX X σ (E σ))
    (ha : PE X e1 t1) (hb2 : PE X (.Slice lo hi none p2) t2) : PE X (.Subscript e1 (.Slice lo hi none p2) pos) (tOwn C sp E anyV t1 t2) := by
  refine ⟨fun pins s σ H Q I h => Subscript_ (binT ha hb2 I h fun v u s2 x y H2 I2 rx ry q => ?_)⟩
  obtain ⟨a, dx, fs, rfl, ea, _, q⟩ := q
  cases rx
  obtain ⟨od, J⟩ := I2.instAt ea
  obtain ⟨m0, hF⟩ := I2.fr
  exact PySem.W.sub_KS hF I2.ok.mod.kin J m.at_ hf m.fn c.noseq (run_two F hr rfl hb (hx σ) I2 ry q)
/-- o[i] = v by an own __setitem__ -/
def gSubO (C : Addr) (sp : Sp) (E : St → XK) (to ti : TE) : TG := fun v σ H Q => to σ H fun x H1 => ti σ H1 fun i H2 => ∃ a dx fs, x = .ref a ∧ H2 a = some (.ins C dx fs) ∧ sp [.ref a, i, v] H2 (fun _ H3 => Q σ H3) (E σ)
theorem pg_subO {l : List Value → List Value} {E : St → XK} (m : Meth X.K C "__setitem__" f) (c : OpC X.K C) (F : FnOk X.prog X.w X.K X.mg X.base CX k f fd ps sp) (hr : Room k X.A) (hb : Binds X.K fd ps []) (hx : ∀ σ, PassesAt CX X σ (E σ))
    (ho : PE X e1 t1) (hi : PE X e2 t2)
    (ha : ∀ v, assign (.Subscript e1 e2 pos) X.env v = (do
      let ov ← holding [v] (eval e1 X.env)
      let iv ← holding [v, ov] (eval e2 X.env)
      standAt pos
      holding [v, ov, iv] (setItem ov iv v)
      release (l [v, ov, iv]) [])) : PG X (.Subscript e1 e2 pos) (gSubO C sp E t1 t2) := by
  refine ⟨fun pins s σ H v u Q I r h => ?_⟩
  rw [ha]
  refine wpAny_bind (wpAny_holding (thn (ho.run pins s σ H _ I h) fun ov s1 ⟨x, H1, I1, r1, q1⟩ => ?_))
  refine wpAny_bind (wpAny_holding (thn (hi.run pins s1 σ H1 _ I1 q1) fun iv s2 ⟨y, H2, I2, r2, a, dx, fs, ex, ea, q2⟩ => ?_))
  subst ex
  cases r1
  obtain ⟨od, J⟩ := I2.instAt ea
  obtain ⟨m0, hF⟩ := I2.fr
  refine wpAny_bind (wpAny_standAt (wpAny_bind (wpAny_holding (PySem.W.ksp_setItem hF I2.ok.mod.kin J c.noseq m.at_ m.fn (thn (run_in (vs := [.ref a, y, v]) (dvs := []) (ds := []) F hr rfl hb .nil (hx σ) I2 (.cons rfl (.cons r2 (.cons r .nil))) (by simpa using q2)) ?_)))))
  rintro z s3 ⟨zv, H3, I3, _, q3⟩
  exact wpAny_release ⟨σ, H3, I3, q3⟩
end
end L2

/-! Slices as values; operators of own classes with ints; += of own classes. -/
namespace L2
open PySem PySem.Spec PyProof.Rows
section
variable {X : Cx} {CX : CXT} {k : Nat} {f C a dx : Addr} {fs : List (Str × V)} {fd : FuncData} {ps : List Str} {sp : Sp} {pins : List (Addr × Obj)} {σ : St} {H : Hp} {s : Shared} {pos : Pos} {e1 e2 e3 : Expr} {t1 t2 t3 : TE}
theorem passE0 (σ : St) : PassesAt (L2.CX X.prog X.w) X σ E0 := fun _ _ _ _ _ _ h => by
  obtain ⟨_, _, _, _, _, _, _, _, _, _, _, _, z⟩ := h
  exact z.elim
theorem fnIn_D {K : Frg} {x qual : Str} {params : Arguments} {body : List Stmt} {scope : Scope} {dvs : List V} {kws : List (Str × V)} (F : FunD K x qual params body scope dvs kws f fd) : PySem.W.fnIn K f = true := by
  obtain ⟨oc, od, dV, kV, doc, pm, an, cdv, ct, osl, rfl, lk, _⟩ := F.ex
  unfold PySem.W.fnIn
  rw [lk]
theorem sli_of {p : Addr} {i j : Int} (I : Inv X pins σ H s) (h : H p = some (Sli p i j)) : ∃ t u, s.heap.IsSliceOf p (.int i t) (.int j u) .none := by
  obtain ⟨⟨t, u, e⟩, _⟩ := I.hok p _ h
  exact ⟨t, u, _, e, rfl, rfl⟩
/-- a[s], s a slice object -/
def rIxSl (r : SlV) : R2 := fun x y H Q => ∃ p i j, y = .ref p ∧ H p = some (Sli p i j) ∧ r x (some i) (some j) H Q
theorem ix_sli {r : SlV} (hr : SlR X r) : IxR X (rIxSl r) := by
  intro value slice pins s σ H x y v u Q I rx ry h hs
  obtain ⟨p, i, j, rfl, hp, q⟩ := h
  cases ry
  obtain ⟨t, u, e⟩ := sli_of I hp
  obtain ⟨T, id, hT, ht, hg⟩ := hr pins s σ H x v _ _ _ _ p Q I rx e (.int i t) (.int j u) q
  exact tail_any ht hT hg hs
/-- a[i], a[s] -/
def rIxW (K : Frg) : R2 := fun x y H Q => rIx K x y H Q ∨ rIxSl (rSlA K) x y H Q
theorem ix_W : IxR X (rIxW X.K) := ix_seq.or (ix_sli sl_A)
/-- a[s] = b of lists, s a slice object -/
def rSetSl : TSet := fun o i v H Q => ∃ l b p xs ys c d, o = .ref l ∧ i = .ref p ∧ v = .ref b ∧ H l = some (.lst xs) ∧ H b = some (.lst ys) ∧ l ≠ b ∧ H p = some (Sli p c d) ∧ 0 ≤ c ∧ c ≤ d ∧ d ≤ xs.length ∧ xs.length + ys.length ≤ sizeLine ∧ Q (upd H l (.lst (xs.take c.toNat ++ ys ++ xs.drop d.toNat)))
theorem set_sli : PSet X rSetSl := by
  intro pins s σ H o i v ov iv u Q I ro ri rv h
  obtain ⟨l, b, p, xs, ys, c, d, rfl, rfl, rfl, hl, hb, ne, hp, h0, hcd, hd, hz, q⟩ := h
  cases ro
  cases ri
  cases rv
  obtain ⟨t, w, e⟩ := sli_of I hp
  exact set_slice I hl hb ne e ⟨t, rfl⟩ ⟨w, rfl⟩ h0 hcd hd hz fun s' I' => ⟨_, I', q⟩
def rSetW : TSet := fun o i v H Q => rSetL o i v H Q ∨ rSetSl o i v H Q
theorem set_W : PSet X rSetW := by
  intro pins s σ H o i v ov iv u Q I ro ri rv h
  rcases h with h | h
  · exact set_list pins s σ H o i v ov iv u Q I ro ri rv h
  · exact set_sli pins s σ H o i v ov iv u Q I ro ri rv h
/-- i * o -/
structure RmC (K : PySem.W.Frag) (C : Addr) : Prop where
  no : PySem.W.findIn K (.ref C) "__mul__" = some none
  sub : PySem.W.subIn K (.ref C) (.type "int") = some false
def tRmul (C : Addr) (sp : Sp) (E : St → XK) (ta tb : TE) : TE := fun σ H Q => ta σ H fun x H1 => tb σ H1 fun y H2 => ∃ i a dx fs, x = .int i ∧ y = .ref a ∧ H2 a = some (.ins C dx fs) ∧ sp [.ref a, .int i] H2 Q (E σ)
theorem pe_rmulO {E : St → XK} (m : Meth X.K C "__rmul__" f) (c : OpC X.K C) (c2 : RmC X.K C) (F : FnOk X.prog X.w X.K X.mg X.base CX k f fd ps sp) (hr : Room k X.A) (hb : Binds X.K fd ps []) (hx : ∀ σ, PassesAt CX X σ (E σ))
    (ha : PE X e1 t1) (hb2 : PE X e2 t2) : PE X (.BinOp e1 .Mult e2 pos) (tRmul C sp E t1 t2) := by
  refine ⟨fun pins s σ H Q I h => wpAny_BinOp (binT ha hb2 I h fun v u s2 x y H2 I2 rx ry q => ?_)⟩
  obtain ⟨i, a, dx, fs, rfl, rfl, ea, q⟩ := q
  obtain ⟨t, rfl⟩ := rx
  cases ry
  obtain ⟨od, J⟩ := I2.instAt ea
  obtain ⟨m0, hF⟩ := I2.fr
  exact PySem.W.rmul_K (fun v z => by cases z) hF I2.ok.mod.kin J c.first m.at_ c2.no m.fn c2.sub (thn (run_two (y := .int i) F hr rfl hb (hx σ) I2 ⟨t, rfl⟩ q) fun _ _ z => z.back)
/-- o op i -/
structure BiC (K : PySem.W.Frag) (C : Addr) (nm : String) : Prop where
  r : PySem.W.findIn K (.ref C) (PySem.dunderR nm) = some none
  f1 : ∃ v, PySem.W.findIn K (.type "int") (PySem.dunder nm) = some v
  f2 : ∃ v, PySem.W.findIn K (.type "int") (PySem.dunderR nm) = some v
  sub : PySem.W.subIn K (.type "int") (.ref C) = some false
theorem pe_binI {op : Operator} {E : St → XK} (m : Meth X.K C (PySem.dunder op.info.2) f) (c : OpC X.K C) (c2 : BiC X.K C op.info.2) (F : FnOk X.prog X.w X.K X.mg X.base CX k f fd ps sp) (hr : Room k X.A) (hb : Binds X.K fd ps []) (hx : ∀ σ, PassesAt CX X σ (E σ))
    (ha : PE X e1 t1) (hb2 : PE X e2 t2) : PE X (.BinOp e1 op e2 pos) (tOwn C sp E isIntV t1 t2) := by
  refine ⟨fun pins s σ H Q I h => wpAny_BinOp (binT ha hb2 I h fun v u s2 x y H2 I2 rx ry q => ?_)⟩
  obtain ⟨a, dx, fs, rfl, ea, ⟨i, rfl⟩, q⟩ := q
  cases rx
  obtain ⟨t, rfl⟩ := ry
  obtain ⟨od, J⟩ := I2.instAt ea
  obtain ⟨m0, hF⟩ := I2.fr
  obtain ⟨v1, f1⟩ := c2.f1
  obtain ⟨v2, f2⟩ := c2.f2
  exact PySem.W.ksp_binT (T := "int") hF I2.ok.mod.kin J rfl c.first m.at_ m.fn c2.r (.inl rfl) f1 f2 c2.sub (thn (run_two (y := .int i) F hr rfl hb (hx σ) I2 ⟨t, rfl⟩ q) fun _ _ z => z.back)
/-- x op= q, x an instance with its own method -/
def rIpO (C : Addr) (sp : Sp) (E : XK) : TIp := fun x y H Q => ∃ a dx fs, x = .ref a ∧ H a = some (.ins C dx fs) ∧ sp [.ref a, y] H Q E
theorem ip_own {op : Operator} {E : XK} (m : Meth X.K C (PySem.dunderI op.info.2) f) (c : OpC X.K C) (F : FnOk X.prog X.w X.K X.mg X.base CX k f fd ps sp) (hr : Room k X.A) (hb : Binds X.K fd ps []) (hx : ∀ σ, PassesAt CX X σ E) : PIp X op (rIpO C sp E) := by
  intro pins s σ H x y v u Q I rx ry h
  obtain ⟨a, dx, fs, rfl, ea, q⟩ := h
  cases rx
  obtain ⟨od, J⟩ := I.instAt ea
  obtain ⟨m0, hF⟩ := I.fr
  exact PySem.W.ksp_inplace hF I.ok.mod.kin J c.first m.at_ m.fn (thn (run_two F hr rfl hb (hx σ) I ry q) fun _ _ z => z.back)
end
end L2
namespace Rz
open PySem PySem.Spec PyProof.Rows L2 He
def opB (C : Str) : Fg → Bool := fun K => PySem.W.selfFirst K (ga K C) && PySem.W.noSeq K (ga K C)
theorem opB_ok {C : Str} {K : Fg} (h : opB C K = true) : OpC K (ga K C) := ⟨(ba h).1, (ba h).2⟩
def rmB (C : Str) : Fg → Bool := fun K => eqO (PySem.W.findIn K (.ref (ga K C)) "__mul__") (some none) && decide (PySem.W.subIn K (.ref (ga K C)) (.type "int") = some false)
theorem rmB_ok {C : Str} {K : Fg} (h : rmB C K = true) : RmC K (ga K C) := ⟨eqO_ok (ba h).1, of_decide_eq_true (ba h).2⟩
def biB (C : Str) (nm : String) : Fg → Bool := fun K => (eqO (PySem.W.findIn K (.ref (ga K C)) (PySem.dunderR nm)) (some none) && decide (PySem.W.subIn K (.type "int") (.ref (ga K C)) = some false)) && ((PySem.W.findIn K (.type "int") (PySem.dunder nm)).isSome && (PySem.W.findIn K (.type "int") (PySem.dunderR nm)).isSome)
theorem biB_ok {C : Str} {nm : String} {K : Fg} (h : biB C nm K = true) : BiC K (ga K C) nm :=
  ⟨eqO_ok (ba (ba h).1).1, Option.isSome_iff_exists.mp (ba (ba h).2).1, Option.isSome_iff_exists.mp (ba (ba h).2).2, of_decide_eq_true (ba (ba h).1).2⟩
end Rz

/-! isinstance of a slice object. -/
namespace RzSl
open PySem PySem.F
theorem ga_entry : entryFor table "slice.__getattribute__" = some Builtin.«object.__getattribute__» := by
  refine entryFor_alias (id' := "object.__getattribute__") ?_ ?_ ?_ ?_
  · kernel_rfl
  · first | rfl | decide +kernel
  · decide +kernel
  · kernel_rfl
theorem ga_slot : Slot "slice" "__getattribute__" "slice.__getattribute__" := by
  refine Slot.of (owner := "slice") (n := "__getattribute__") ?_ ?_ ?_ ?_ ?_ ?_
  · rw [typeLookup_type, builtinLookup_eq_fast]
    kernel_rfl
  · decide +kernel
  · decide +kernel
  · decide +kernel
  · first | exact .inl (by decide +kernel) | exact .inr (by decide +kernel)
  · rw [isSubtype_type]
    kernel_rfl
theorem ga_args (a b : Value) : argsOk "slice.__getattribute__" ⟨[a, b], []⟩ := by
  unfold argsOk
  kernel_rfl
theorem cls_lk : typeLookup (.type "slice") "__class__" = pure (some (.builtin "object.__class__")) := by
  rw [typeLookup_type, builtinLookup_eq_fast]
  kernel_rfl
theorem cls_owner : isSubtype (.type "slice") (.type (".".intercalate ("object.__class__".cutAt '.').dropLast)) = pure true := by
  rw [owner_object_class]
  rw [isSubtype_type]
  kernel_rfl
section
variable {P : Program} {w : World} {A : Around} {E : Value → Shared → Prop} {h : Heap} {g : Array GenState} {d : Drawn} {t : Nat} {os : OsState} {a : Addr} {o : Obj}
theorem c_get {R : Result → Shared → Prop} (hx : h.get? a = some o) (hc : o.cls = .type "slice") (hq : R (.ok (.ret (.type "slice"))) ⟨h, g, d, t, os⟩) :
    codeAny (model P w) A (.call (.builtin "getset_descriptor.__get__") ⟨[.builtin "object.__class__", .ref a, .type "slice"], []⟩) R ⟨h, g, d, t, os⟩ := by
  have k1 : (⟨h, g, d, t, os⟩ : Shared).TypeIs (.ref a) "slice" := ⟨_, hx, hc⟩
  have k2 : (⟨h, g, d, t, os⟩ : Shared).TypeIs (.builtin "object.__class__") "getset_descriptor" := typeOf_object_class
  have k3 := cls_owner
  refine codeAny_call_builtin slot_gs_get.plain entry_gs_get ?_
  refine slot_gs_get.check _ _ _ _ _ _ _ _ k2 (args_gs_get _ _ _) ?_
  repeat (any_goals (first | assumption | wp_step))
  refine ⟨Code.quiet_builtin _ (by decide +kernel), ?_⟩
  refine codeAny_builtin entry_object_class ?_
  repeat (any_goals (first | assumption | wp_step))
theorem c_entry {tk : Tok} {Q : Fin → Shared → Prop} (hx : h.get? a = some o) (hc : o.cls = .type "slice") (hq : Q (.done (.ret (.type "slice"))) ⟨h, g, d, t, os⟩) :
    wpAny (model P w) A (Builtin.«object.__getattribute__» ⟨[.ref a, .str "__class__" tk], []⟩) Q E ⟨h, g, d, t, os⟩ := by
  have k1 : (⟨h, g, d, t, os⟩ : Shared).TypeIs (.ref a) "slice" := ⟨_, hx, hc⟩
  have k2 : (⟨h, g, d, t, os⟩ : Shared).TypeIs (.builtin "object.__class__") "getset_descriptor" := typeOf_object_class
  have k3 := cls_lk
  have k4 := typeOf_object_class
  have k5 := slot_gs_get.lookup
  have k6 := slot_gs_set.lookup
  repeat (any_goals (first | assumption | wp_step))
  refine c_get hx hc ?_
  repeat (any_goals (first | assumption | wp_step))
theorem c_by {tk : Tok} {Q : Value → Shared → Prop} (hx : h.get? a = some o) (hc : o.cls = .type "slice") (hq : Q (.type "slice") ⟨h, g, d, t, os⟩) : wpAny (model P w) A (getAttrBy (.ref a) (.str "__class__" tk) false) Q E ⟨h, g, d, t, os⟩ := by
  have k1 : (⟨h, g, d, t, os⟩ : Shared).TypeIs (.ref a) "slice" := ⟨_, hx, hc⟩
  have k2 := ga_slot.lookup
  have k3 := ga_slot.bind (.ref a)
  repeat (any_goals (first | assumption | wp_step))
  refine codeAny_call_builtin ga_slot.plain ga_entry ?_
  refine ga_slot.check _ _ _ _ _ _ _ _ k1 (ga_args _ _) ?_
  refine c_entry hx hc ?_
  repeat (any_goals (first | assumption | wp_step))
theorem c_attr {Q : Option Value → Shared → Prop} (hx : h.get? a = some o) (hc : o.cls = .type "slice") (hq : Q (some (.type "slice")) ⟨h, g, d, t + 1, os⟩) : wpAny (model P w) A (getAttr? (.ref a) "__class__") Q E ⟨h, g, d, t, os⟩ := by
  unfold getAttr? getAttrBy?
  repeat (any_goals (first | assumption | with_reducible apply c_by hx hc | wp_step))
end
theorem kit {K : PySem.W.Frag} {a : Addr} : PySem.W.KitX K (.ref a) (.type "slice") (PySem.W.KitAt a "slice") := by
  refine PySem.W.kitx_of PySem.W.kitAt_ty ?_
  intro P w A E Q s p k
  obtain ⟨h, g, d, t, os⟩ := s
  obtain ⟨o, h1, h2⟩ := p
  exact c_attr h1 h2 k
end RzSl
namespace L2
open PySem PySem.Spec PyProof.Rows
/-- isinstance, slice objects besides -/
def rIsiW (K : Frg) : RC := fun xs H Q => rIsi K xs H Q ∨ ∃ p i j c u b, xs = [.ref p, c] ∧ H p = some (Sli p i j) ∧ ClsV c u ∧ PySem.W.kitOne K (.type "slice") u = some b ∧ Q (.bl b) H
theorem c_isiW {X : Cx} : CallR X (.builtin "isinstance") (rIsiW X.K) := by
  intro pins s σ H xs us Q I r h
  rcases h with h | ⟨p, i, j, c, u, b, rfl, hp, k, e, q⟩
  · exact call_isi pins s σ H xs us Q I r h
  · obtain ⟨u1, u2, rfl, r1, r2⟩ := vals2 r
    have e2 := k.eq r2
    subst e2
    cases r1
    obtain ⟨⟨t, u, e3⟩, _⟩ := I.hok p _ hp
    exact PySem.W.kia_one RzSl.kit I.kIn ⟨_, e3, rfl⟩ e (fun z => nomatch z) fun tk => ⟨.bl b, H, I.tok tk, rfl, q⟩
end L2

/-! Calls with keywords; instances called. -/
namespace L2
open PySem PySem.Spec PyProof.Rows
section
variable {K : PySem.W.Frag} {x qual : Str} {params : Arguments} {body : List Stmt} {scope : Scope} {dvs : List V} {kws : List (Str × V)} {f : Addr} {fd : FuncData} {ps : List Str}
/-- a def with defaults, none of them keyword-only: keywords ks -/
theorem FunD.kbD (F : FunD K x qual params body scope dvs [] f fd) (n : Nat) (ks : List Str) (g : {α : Type} → List α → List α → List α → List α) (hd : dvs ≠ [])
    (hrel : ∀ {vs ds zs : List V} {us its ws : List Value}, Vals vs us → Vals ds its → Vals zs ws → Vals (g vs ds zs) (g us its ws))
    (h : ∀ (T : Addr) (kV doc pm : Value) (an : Option Addr) (cdv ct : Value) (us its ws : List Value), us.length = n → its.length = dvs.length → ws.length = ks.length →
      ∃ k, bindArgs (PySem.W.fnOf x qual params body scope (.ref T) kV doc pm an cdv ct) ⟨us, ks.zip ws⟩ = seqItems? (.ref T) >>= k ∧ k (some its.toArray) = pure (ps.zip (g us its ws))) :
    ∃ its : List Value, KBn K fd ps n ks (fun us ws => g us its ws) (fun vs zs => g vs dvs zs) := by
  obtain ⟨oc, od, dV, kV, doc, pm, an, cdv, ct, osl, rfl, lk, hcd, hD, hK⟩ := F.ex
  rcases hD with ⟨e, _⟩ | ⟨_, T, o, its, m, rfl, lT, oT, rT⟩
  · exact absurd e hd
  · refine ⟨its, ⟨fun s us ws X l1 l2 => ?_, fun r1 r2 => hrel r1 rT r2⟩⟩
    obtain ⟨k, e1, e2⟩ := h T kV doc pm an cdv ct us its ws l1 rT.length.symm l2
    refine BindsTo.of_looks fun M => ?_
    rw [e1]
    exact looks_items X lT oT (.of_pure e2)
/-- a def without defaults, or with keyword-only ones that are all written -/
theorem FunD.kbK (F : FunD K x qual params body scope [] kws f fd) (n : Nat) (ks : List Str) (g : {α : Type} → List α → List α → List α)
    (hrel : ∀ {vs zs : List V} {us ws : List Value}, Vals vs us → Vals zs ws → Vals (g vs zs) (g us ws))
    (h : ∀ (kV doc pm : Value) (an : Option Addr) (cdv ct : Value) (us ws : List Value), us.length = n → ws.length = ks.length →
      bindArgs (PySem.W.fnOf x qual params body scope .none kV doc pm an cdv ct) ⟨us, ks.zip ws⟩ = pure (ps.zip (g us ws))) :
    KBn K fd ps n ks (fun us ws => g us ws) (fun vs zs => g vs zs) := by
  obtain ⟨oc, od, dV, kV, doc, pm, an, cdv, ct, osl, rfl, lk, hcd, hD, hK⟩ := F.ex
  rcases hD with ⟨_, rfl⟩ | ⟨e, _⟩
  · exact ⟨fun s us ws X l1 l2 => BindsTo.of_eq (h kV doc pm an cdv ct us ws l1 l2), fun r1 r2 => hrel r1 r2⟩
  · exact absurd rfl e
/-- .. keyword-only defaults, those of ms lack -/
theorem FunD.kbM (F : FunD K x qual params body scope [] kws f fd) (n : Nat) (ks : List Str) (ms : List (Str × V)) (g : {α : Type} → List α → List α → List α → List α) (hk : kws ≠ []) (hms : ∀ q ∈ ms, q ∈ kws)
    (hrel : ∀ {vs mz zs : List V} {us mv ws : List Value}, Vals vs us → Vals mz mv → Vals zs ws → Vals (g vs mz zs) (g us mv ws))
    (h : ∀ (D : Addr) (doc pm : Value) (an : Option Addr) (cdv ct : Value) (us mv ws : List Value), us.length = n → mv.length = ms.length → ws.length = ks.length →
      KwChain D ((ms.map (·.1)).zip mv) (bindArgs (PySem.W.fnOf x qual params body scope .none (.ref D) doc pm an cdv ct) ⟨us, ks.zip ws⟩) (ps.zip (g us mv ws))) :
    ∃ mv : List Value, KBn K fd ps n ks (fun us ws => g us mv ws) (fun vs zs => g vs (ms.map (·.2)) zs) := by
  obtain ⟨oc, od, dV, kV, doc, pm, an, cdv, ct, osl, rfl, lk, hcd, hD, hK⟩ := F.ex
  rcases hD with ⟨_, rfl⟩ | ⟨e, _⟩
  · rcases hK with e | ⟨D, rfl, hq⟩
    · exact absurd e hk
    · obtain ⟨mv, hl, rk, hks⟩ := kwd_vals (ms := ms) fun q hm => hq q (hms q hm)
      exact ⟨mv, ⟨fun s us ws X l1 l2 => BindsTo.of_looks fun M => KwChain.looks X hks (h D doc pm an cdv ct us mv ws l1 hl l2), fun r1 r2 => hrel r1 rk r2⟩⟩
  · exact absurd rfl e
end
section
variable {X : Cx} {CX : CXT} {k n : Nat} {f C : Addr} {fd : FuncData} {ps ks : List Str} {sp : Sp} {dvs : List V} {ds : List Value} {E : St → XK} {x m : Str} {p pos apos : Pos} {e o : Expr} {es : List Expr} {kws : List Keyword} {ta : TE} {t tk : TA} {g : List Value → List Value → List Value} {gV : List V → List V → List V}
theorem run_fnNS {pins : List (Addr × Obj)} {σ : St} {H : Hp} {s : Shared} {Q : VK} {us ws : List Value} {vs zs : List V} (F : FnOk X.prog X.w X.K X.mg X.base CX k f fd ps sp) (hr : Room k X.A) (hb : KBn X.K fd ps n ks g gV) (hx : PassesAt CX X σ (E σ))
    (I : Inv X pins σ H s) (r : Vals vs us) (rz : Vals zs ws) (l1 : vs.length = n) (l2 : zs.length = ks.length) (h : sp (gV vs zs) H Q (E σ)) : codeAny (model X.prog X.w) X.A (.call (.ref f) ⟨us, ks.zip ws⟩) (wants (EP X pins σ Q) X.xe) s := by
  refine codeAny_mono (F.run X.A X.stack s H ⟨us, ks.zip ws⟩ (g us ws) (gV vs zs) Q (E σ) hr I.env0 (hb.to s us ws I.kIn (r.length.symm.trans l1) (rz.length.symm.trans l2)) (hb.rel r rz) h) ?_
  intro res s' hq
  match res, hq with
  | .error e, hq => exact hx pins H s e s' I hq
  | .ok (.ret u), hq => exact I.after hq
  | .ok .next, hq => exact hq.elim
  | .ok .brk, hq => exact hq.elim
  | .ok .cont, hq => exact hq.elim
def tCallNS (n m : Nat) (sp : Sp) (gV : List V → List V → List V) (E : St → XK) (t tk : TA) : TE := fun σ H Q => t σ H fun vs H1 => tk σ H1 fun zs H2 => vs.length = n ∧ zs.length = m ∧ sp (gV vs zs) H2 Q (E σ)
/-- f(e, .., k = v, ..) -/
theorem pe_callNS (F : FnOk X.prog X.w X.K X.mg X.base CX k f fd ps sp) (hr : Room k X.A) (hg : Gl X x) (hm : X.mg x = some (.ref f)) (hk : PySem.W.keepIn X.K (.ref f) = true) (hb : KBn X.K fd ps n ks g gV) (hx : ∀ σ, PassesAt CX X σ (E σ))
    (ha : PA X (e :: es) t) (hkw : PK X kws tk) (hall : (backToKw pos (keywordEach kws X.env)).all (·.1.isSome) = true := by rfl) (hks : (backToKw pos (keywordEach kws X.env)).filterMap (·.1) = ks := by rfl)
    (hdb : (x == ("__debug__" : Str)) = false := by decide) (he : starEach (e :: es) X.env = (false, eval e X.env) :: starEach es X.env := by rfl)
    (hpl : ((backTo pos (starEach (e :: es) X.env)).any (·.1) || (backToKw pos (keywordEach kws X.env)).any (·.1.isNone)) = false := by rfl) :
    PE X (.Call (.Name x p) (e :: es) kws pos) (tCallNS n ks.length sp gV E t tk) := by
  refine ⟨fun pins s σ H Q I h => ?_⟩
  refine wpAny_Call_Name_kw (ld_glob I hg hm ?_ hdb)
  refine PySem.W.callWith_KW (h₀ := X.base) I.ok.mod.kin hk hall (thn (ha.run pos pins s σ H _ I h) fun us s1 ⟨vs, H1, I1, r, q⟩ => ?_) hpl he
  refine thn (hkw.run pos pins s1 σ H1 _ I1 q) fun ws s2 ⟨zs, H2, I2, rz, l1, l2, q2⟩ => ⟨I2.kIn, ?_⟩
  rw [hks]
  exact wpAny_call (run_fnNS F hr hb (hx σ) I2 r rz l1 l2 q2)
/-- an instance called, positional -/
structure CaC (K : PySem.W.Frag) (C g : Addr) : Prop where
  m : Meth K C "__call__" g
  fi : PySem.W.fnIn K g = true
def tCaO (C : Addr) (sp : Sp) (dvs : List V) (E : St → XK) (ta : TE) (t : TA) : TE := fun σ H Q => ta σ H fun y H1 => ∃ a, y = .ref a ∧ t σ H1 fun vs H2 => ∃ dx fs, H2 a = some (.ins C dx fs) ∧ sp (.ref a :: (vs ++ dvs)) H2 Q (E σ)
theorem caO_with {M : Model} {A : Around} {E' : Value → Shared → Prop} {s : Shared} {a : Addr} {Q : Value → Shared → Prop} {args : List (Bool × Sem Value)} {kw : List (Option Str × Sem Value)} (hpl : (args.any (·.1) || kw.any (·.1.isNone)) = false)
    (h : wpAny M A (evalArgs (.ref a) true args kw) (fun z s₁ => (∃ C ox od, PySem.W.InstAt s₁.heap a ox C od ∧ ox.data = .plain) ∧ wpAny M A (call (.ref a) z.pos z.kw) Q E' s₁) E' s) : wpAny M A (callWith pos (.ref a) [] args kw) Q E' s := by
  unfold callWith
  refine wpAny_bind (wpAny_holding (wpAny_mono h ?_ fun _ _ y => y))
  rintro z s₁ ⟨⟨C, ox, od, J, hd⟩, h₁⟩
  refine wpAny_bind (wpAny_standAt ?_)
  simp only [hpl]
  refine wpAny_bind ((PySem.W.kco_keeper (M := M) J hd).here ?_)
  refine wpAny_bind (wpAny_mono (wpAny_operateT h₁) ?_ fun _ _ y => y)
  intro r s₂ hr
  exact wpAny_bind (wpAny_holding (wpAny_point (wpAny_pure hr)))
theorem pe_caO {fe : Expr} (hf : PE X fe ta) (c : CaC X.K C f) (F : FnOk X.prog X.w X.K X.mg X.base CX k f fd ps sp) (hr : Room k X.A) (hb : Binds X.K fd ps ds) (hd : Vals dvs ds) (hx : ∀ σ, PassesAt CX X σ (E σ)) (ha : PA X (e :: es) t)
    (ht : eval (.Call fe (e :: es) [] pos) X.env = (do callWith pos (← eval fe X.env) [] (backTo pos (starEach (e :: es) X.env)) (backToKw pos (keywordEach [] X.env))) := by rfl)
    (he : starEach (e :: es) X.env = (false, eval e X.env) :: starEach es X.env := by rfl) (hpl : (backTo pos (starEach es X.env)).any (·.1) = false := by rfl) : PE X (.Call fe (e :: es) [] pos) (tCaO C sp dvs E ta t) := by
  refine ⟨fun pins s σ H Q I h => ?_⟩
  refine Call_ (thn (hf.run pins s σ H _ I h) ?_) ht
  rintro u s1 ⟨y, H1, I1, ry, a, rfl, q⟩
  cases ry
  have hpl2 : ((backTo pos (starEach (e :: es) X.env)).any (·.1) || (backToKw pos (keywordEach [] X.env)).any (·.1.isNone)) = false := by
    rw [he]
    show ((false || (backTo pos (starEach es X.env)).any (·.1)) || false) = false
    rw [hpl]
    rfl
  refine caO_with hpl2 ?_
  have run := ha.run pos pins s1 σ H1 _ I1 q
  rw [he] at run ⊢
  refine PySem.Calls.evalArgs_plain (thn run ?_)
  rintro us s2 ⟨vs, H2, I2, r, dx, fs, ea, q2⟩
  obtain ⟨od, J⟩ := I2.instAt ea
  refine ⟨⟨C, _, _, J, rfl⟩, ?_⟩
  refine wpAny_call (PySem.W.kco_code I2.kIn J rfl c.m.at_ c.m.fn c.fi ?_)
  have rr : Vals (.ref a :: (vs ++ dvs)) (Value.ref a :: us ++ ds) := .cons rfl (r.append hd)
  refine codeAny_mono (F.run X.A X.stack s2 H2 ⟨Value.ref a :: us, []⟩ _ _ Q (E σ) hr I2.env0 (hb s2 (Value.ref a :: us) I2.kIn (rr.length.symm.trans (F.len _ _ _ _ q2))) rr q2) ?_
  intro res s' hq
  match res, hq with
  | .error e, hq => exact hx σ pins H2 s2 e s' I2 hq
  | .ok (.ret u), hq => exact I2.after hq
  | .ok .next, hq => exact hq.elim
  | .ok .brk, hq => exact hq.elim
  | .ok .cont, hq => exact hq.elim
/-- an instance called, with keywords -/
def tCaK (C : Addr) (n m : Nat) (sp : Sp) (gV : List V → List V → List V) (E : St → XK) (ta : TE) (t tk : TA) : TE := fun σ H Q => ta σ H fun y H1 => ∃ a, y = .ref a ∧ t σ H1 fun vs H2 => tk σ H2 fun zs H3 => ∃ dx fs, H3 a = some (.ins C dx fs) ∧ vs.length = n ∧ zs.length = m ∧ sp (gV (.ref a :: vs) zs) H3 Q (E σ)
theorem pe_caK {fe : Expr} (hf : PE X fe ta) (c : CaC X.K C f) (F : FnOk X.prog X.w X.K X.mg X.base CX k f fd ps sp) (hr : Room k X.A) (hb : KBn X.K fd ps (n + 1) ks g gV) (hx : ∀ σ, PassesAt CX X σ (E σ)) (ha : PA X (e :: es) t) (hkw : PK X kws tk)
    (ht : eval (.Call fe (e :: es) kws pos) X.env = (do callWith pos (← eval fe X.env) [] (backTo pos (starEach (e :: es) X.env)) (backToKw pos (keywordEach kws X.env))) := by rfl)
    (hall : (backToKw pos (keywordEach kws X.env)).all (·.1.isSome) = true := by rfl) (hks : (backToKw pos (keywordEach kws X.env)).filterMap (·.1) = ks := by rfl)
    (he : starEach (e :: es) X.env = (false, eval e X.env) :: starEach es X.env := by rfl) (hpl : ((backTo pos (starEach (e :: es) X.env)).any (·.1) || (backToKw pos (keywordEach kws X.env)).any (·.1.isNone)) = false := by rfl) : PE X (.Call fe (e :: es) kws pos) (tCaK C n ks.length sp gV E ta t tk) := by
  refine ⟨fun pins s σ H Q I h => ?_⟩
  rw [ht]
  refine wpAny_bind (thn (hf.run pins s σ H _ I h) ?_)
  rintro u s1 ⟨y, H1, I1, ry, a, rfl, q⟩
  cases ry
  refine caO_with hpl ?_
  refine evalArgs_kw2 hall (thn (ha.run pos pins s1 σ H1 _ I1 q) ?_) he
  rintro us s2 ⟨vs, H2, I2, r, q2⟩
  refine thn (hkw.run pos pins s2 σ H2 _ I2 q2) ?_
  rintro ws s3 ⟨zs, H3, I3, rz, dx, fs, ea, l1, l2, q3⟩
  obtain ⟨od, J⟩ := I3.instAt ea
  refine ⟨⟨C, _, _, J, rfl⟩, ?_⟩
  rw [hks]
  refine wpAny_call (PySem.W.kco_code I3.kIn J rfl c.m.at_ c.m.fn c.fi ?_)
  exact run_fnNS (us := Value.ref a :: us) (vs := .ref a :: vs) F hr hb (hx σ) I3 (.cons rfl r) rz (by rw [List.length_cons, l1]) l2 q3
end
end L2

/-! a law's end where the defs' world of exceptions hangs on the program -/
namespace Rz
open PySem PySem.Spec PyProof.Rows L2
variable {l : PySem.W.OpenLaw} {n k : Nat} {q : Program} {loose : List Str} {XP : (Str → Option Value) → Heap → Prop} {YP : World → Heap → Prop} {d : DefRec} {x : Str}
/-- what the end asks of the head's facts -/
def Given (l : PySem.W.OpenLaw) (n k : Nat) (x : Str) (w : World) (mg : Str → Option Value) (fa : Addr) (h : Heap) : Prop :=
  ∃ (K : PySem.W.Frag) (fd : FuncData) (sp : Sp), K.In h ∧ (∀ (s : Shared) (u : Value), BindsTo s fd ⟨[u], []⟩ [(x, u)]) ∧
    (∀ (H : Hp) (a : Addr) (ns : List Int), ns.length ≤ n → SqL K H a (ns.map V.int) → sp [.ref a] H (fun v _ => v = .bl true) fun _ _ _ => False) ∧
    ∀ base : Heap, K.In base → base.Ns mainGlobals mg → FnOk l.prog w K mg base (L2.CX l.prog w) k fa fd [x] sp
theorem endX (hn : l.most = some n) (hn2 : n ≤ sizeLine) (hdf : d.params.defaults = []) (hr : Room k callerA)
    (F : ∀ (w : World) (mg : Str → Option Value) (fa : Addr) (h : Heap), YP w h → h.Ns mainGlobals mg → mg d.name = some (.ref fa) → Given l n k x w mg fa h) :
    PySem.W.WalkO q loose XP YP l.row.toRowW d [] (fun f vs => PySem.call f vs) := by
  refine Att.attach_call hn hdf ?_
  intro w s₀ s₁ mg mb fa o pm cd doc a vs ns G Y ho hd hcd hmg hobj hints hlen hg
  have T := G.T
  obtain ⟨K, fd, sp, KX, hb, hsp, hF⟩ := F w mg fa _ Y T.g hmg
  refine law_call KX T.g T.b T.builtins T.nolimit hg hobj hints (Nat.le_trans hlen hn2) hr hF hb ?_ ?_
  · exact fun H _ hS => hsp H a ns hlen hS
  · rintro H e s' ⟨_, _, _, _, _, _, _, _, _, _, _, _, z⟩
    exact z
/-- one function object stands at an address -/
theorem fd_one {K : PySem.W.Frag} {y qual y2 qual2 : Str} {ps ps2 : Arguments} {body body2 : List Stmt} {sc sc2 : Scope} {dv dv2 : List V} {kw kw2 : List (Str × V)} {f : Addr} {fd fd2 : FuncData}
    (a : FunD K y qual ps body sc dv kw f fd) (b : FunD K y2 qual2 ps2 body2 sc2 dv2 kw2 f fd2) : fd = fd2 := by
  obtain ⟨_, _, _, _, _, _, _, _, _, _, _, la, _⟩ := a.ex
  obtain ⟨_, _, _, _, _, _, _, _, _, _, _, lb, _⟩ := b.ex
  have e := Option.some.inj (la.symm.trans lb)
  cases e
  rfl
end Rz

/-! The top's run, looked at in parts: each part is a theorem of its own, so that the kernel's memory serves a larger top. -/
namespace Rz
open PySem PySem.Spec PySem.W PyProof.Rows L2 He HandSHeadRun
section
variable {r : OpenRow} {q : Program} {M n : Nat} {loose : List PySem.Str} {w : World} {fa fb : List (Fg → Bool)} {fn gn : List Dq}
/-- the state behind the top -/
noncomputable abbrev endS (r : OpenRow) (M : Nat) (w : World) (os : OsState) : Option SharedT := endF (stepQ (denQ tabQ) r.prog w) M r.prog w os
def LkEq (r : OpenRow) (M : Nat) (w : World) : Prop := ∀ os : OsState, (endS r M w os).map (fun s => looksF r.prog (boot_heap w.params) s.abs) = some true
def SnEq (r : OpenRow) (q : Program) (M : Nat) (loose : List PySem.Str) (w : World) : Prop := ∀ os : OsState, (endS r M w os).map (fun s => seenQ q loose (importedModules r.prog.main.body) (fun s => xlAt q [] s && recOk r.toRowW.records s) s.abs) = some (openGood q loose)
def ObEq (r : OpenRow) (M n : Nat) (fa : List (Fg → Bool)) (fn : List Dq) (w : World) : Prop := ∀ os : OsState, (endS r M w os).map (fun s => obsRG n fa fn (getT s)) = some (valR fn)
theorem obsR_app {K : Fg} (h1 : obsR fa fn K = valR fn) (h2 : obsR fb gn K = valR gn) : obsR (fa ++ fb) (fn ++ gn) K = valR (fn ++ gn) := by
  have a1 := ba (show ((fa.all fun f => f K) && fn.all fun d => d.ok K) = true from congrArg Prod.fst h1)
  have a2 := ba (show ((fb.all fun f => f K) && gn.all fun d => d.ok K) = true from congrArg Prod.fst h2)
  have b1 : fn.map (fun d => fnQ K (d.at_ K)) = fn.map Dq.val := congrArg Prod.snd h1
  have b2 : gn.map (fun d => fnQ K (d.at_ K)) = gn.map Dq.val := congrArg Prod.snd h2
  unfold obsR valR
  rw [List.all_append, List.all_append, a1.1, a1.2, a2.1, a2.2, List.map_append, List.map_append, b1, b2]
  rfl
theorem some_of {α β : Type} {o : Option α} {f : α → β} {b : β} (h : o.map f = some b) : ∃ s, o = some s ∧ f s = b := Option.map_eq_some_iff.mp h
theorem ObEq.app (a : ObEq r M n fa fn w) (b : ObEq r M n fb gn w) : ObEq r M n (fa ++ fb) (fn ++ gn) w := fun os => by
  obtain ⟨s, e, h⟩ := some_of (a os)
  obtain ⟨s2, e2, h2⟩ := some_of (b os)
  rw [e] at e2
  cases e2
  rw [e]
  exact congrArg some (obsR_app h h2)
theorem run_all (l : LkEq r M w) (c : SnEq r q M loose w) (o : ObEq r M n fa fn w) : RunEq r q (hookR n fa fn) (fun s => obsRG n fa fn (getT s)) M loose w := fun os => by
  obtain ⟨s, e, h⟩ := some_of (l os)
  obtain ⟨s2, e2, h2⟩ := some_of (c os)
  obtain ⟨s3, e3, h3⟩ := some_of (o os)
  rw [e] at e2 e3
  cases e2
  cases e3
  show (endS r M w os).map _ = _
  rw [e]
  exact congrArg some (Prod.ext h (Prod.ext h2 h3))
end
end Rz

/-! Defs with a star parameter, classmethods, calls with a starred list. -/
namespace L2
open PySem PySem.Spec PyProof.Rows StX ClX
/-- a def with n parameters and a star parameter behind them, called by positional values -/
def spStar (n : Nat) (sp : Sp) : Sp := fun vs H Q E => ∃ ws rest, vs = ws ++ rest ∧ ws.length = n ∧ rest.length ≤ sizeLine ∧ ∀ p, H p = none → sp (ws ++ [.ref p]) (upd H p (.tup rest)) Q E
section
variable {P : Program} {w : World} {mg : Str → Option Value} {base : Heap} {K : PySem.W.Frag} {x qual : Str} {params : Arguments} {body : List Stmt} {scope : Scope} {f : Addr} {fd : FuncData} {ps : List Str}
theorem FunD.okStar {CX : CXT} {N : List Str} {pv : Str} {k : Nat} {sp : Sp} (F : FunD K x qual params body scope [] [] f fd) (S : FnScope N (ps ++ [pv]) scope) (hCX : CXUp CX)
    (hb : ∀ (kV doc pm : Value) (an : Option Addr) (cdv ct : Value) (us rest : List Value), us.length = ps.length → bindArgs (PySem.W.fnOf x qual params body scope .none kV doc pm an cdv ct) ⟨us ++ rest, []⟩ = (newTuple rest >>= fun t => pure (ps.zip us ++ [(pv, t)])))
    (hbody : ∀ (cdv : Value) (A : Around) (outer : List Env) (s : Shared) (H : Hp) (vs : List V) (Q : VK) (E : XK), Room k (A.deeper (envOfC qual scope s.heap.objs.size f cdv)) → sp vs H Q E →
      ∃ t, PSs (cxOf CX P w K mg base N qual scope f cdv A outer s H E) body t ∧ t { nx := fun _ H' => Q .non H', rt := Q } (start N vs) H) : FnR P w K mg base CX (k + 1) f (spStar ps.length sp) := by
  obtain ⟨oc, od, dV, kV, doc, pm, an, cdv, ct, osl, rfl, lk, hcd, hD, _⟩ := F.ex
  rcases hD with ⟨_, rfl⟩ | ⟨e, _⟩
  · exact fn_star lk hcd S hCX (hb kV doc pm an cdv ct) fun A outer s H vs Q E hr hsp => hbody cdv A outer s H vs Q E hr hsp
  · exact absurd rfl e
end
section
variable {X : Cx} {CX : CXT} {k : Nat} {f C g p : Addr} {mc : Value} {sp : Sp} {E : St → XK} {x m : Str} {np pos apos sp_ : Pos} {e o fe : Expr} {es : List Expr} {ta te : TE} {t : TA}
theorem run_fnRS {pins : List (Addr × Obj)} {σ : St} {H : Hp} {s : Shared} {Q : VK} {us : List Value} {vs : List V} (F : FnR X.prog X.w X.K X.mg X.base CX k f sp) (hr : Room k X.A) (hx : PassesAt CX X σ (E σ)) (I : Inv X pins σ H s) (r : Vals vs us) (h : sp vs H Q (E σ)) :
    codeAny (model X.prog X.w) X.A (.call (.ref f) ⟨us, []⟩) (fun r s' => match r with | .ok (.ret v) => EP X pins σ Q v s' | .ok _ => False | .error e => X.xe e s') s := by
  refine codeAny_mono (F X.A X.stack s H us vs Q (E σ) hr I.env0 r h) fun r s' hq => ?_
  match r, hq with
  | .error e, hq => exact hx pins H s e s' I hq
  | .ok (.ret u), hq => exact I.after hq
  | .ok .next, hq => exact hq.elim
  | .ok .brk, hq => exact hq.elim
  | .ok .cont, hq => exact hq.elim
theorem run_makeRS {pins : List (Addr × Obj)} {σ : St} {H : Hp} {s : Shared} {Q : VK} {us : List Value} {vs : List V} (M : Mk X.K C f) (F : FnR X.prog X.w X.K X.mg X.base CX k f sp) (hr : Room (k + 1) X.A) (hx : PassesAt CX X σ (E σ)) (I : Inv X pins σ H s) (r : Vals vs us)
    (h : ∀ y dx, H y = none → H dx = none → dx ≠ y → sp (.ref y :: (vs ++ [])) (upd (upd H dx (.own y)) y (.ins C dx [])) (fun v H2 => v = .non ∧ Q (.ref y) H2) (E σ)) :
    wpAny (model X.prog X.w) X.A (call (.ref C) us) (EP X pins σ Q) X.xe s := by
  have hq := h (s.heap.objs.size + 1) s.heap.objs.size (I.hok.fresh (Nat.le_succ _)) (I.hok.fresh (Nat.le_refl _)) (Nat.ne_of_lt (Nat.lt_succ_self _))
  rw [List.append_nil] at hq
  have I2 := Inv.made (C := C) I
  have r2 : Vals (V.ref (s.heap.objs.size + 1) :: vs) (Value.ref (s.heap.objs.size + 1) :: us) := .cons rfl r
  refine wpAny_call (make_map (f := f) I.kIn M.makes M.init (beq_iff_eq.mp M.fn) (codeAny_mono (F _ X.stack _ _ (Value.ref (s.heap.objs.size + 1) :: us) _ _ (E σ) (hr.make C us []) (I2.env0.make C us []) r2 hq) fun r s' hq' => ?_))
  match r, hq' with
  | .error e, hq' => exact hx pins _ _ e s' I2 hq'
  | .ok (.ret u), hq' =>
    obtain ⟨v, H', I3, rv, ev, q3⟩ := I2.after hq'
    subst ev
    exact ⟨rv, ⟨V.ref (s.heap.objs.size + 1), H', I3, rfl, q3⟩⟩
  | .ok .next, hq' => exact hq'.elim
  | .ok .brk, hq' => exact hq'.elim
  | .ok .cont, hq' => exact hq'.elim
/-- C(e, ..), __init__ with a star parameter -/
theorem pe_makeRS (M : Mk X.K C f) (F : FnR X.prog X.w X.K X.mg X.base CX k f sp) (hr : Room (k + 1) X.A) (hg : Gl X x) (hm : X.mg x = some (.ref C)) (hx : ∀ σ, PassesAt CX X σ (E σ))
    (ha : PA X (e :: es) t) (hdb : (x == ("__debug__" : Str)) = false := by decide) (he : starEach (e :: es) X.env = (false, eval e X.env) :: starEach es X.env := by rfl) (hpl : (backTo pos (starEach es X.env)).any (·.1) = false := by rfl) :
    PE X (.Call (.Name x np) (e :: es) [] pos) (tMakeS C sp [] E t) := by
  constructor
  intro pins s σ H Q I h
  refine wpAny_Call_Name_kw (ld_glob I hg hm (PySem.W.callWith_K (h₀ := X.base) I.ok.mod.kin M.kp (thn (ha.run pos pins s σ H _ I h) ?_) he hpl) hdb)
  rintro us s1 ⟨vs, H1, I1, r, q⟩
  exact ⟨I1.kIn, run_makeRS M F hr (hx σ) I1 r q⟩
theorem pe_make0RS (M : Mk X.K C f) (F : FnR X.prog X.w X.K X.mg X.base CX k f sp) (hr : Room (k + 1) X.A) (hg : Gl X x) (hm : X.mg x = some (.ref C)) (hx : ∀ σ, PassesAt CX X σ (E σ))
    (hdb : (x == ("__debug__" : Str)) = false := by decide) : PE X (.Call (.Name x np) [] [] pos) (tMakeS C sp [] E tNil) :=
  ⟨fun _ _ σ _ _ I h => wpAny_Call_Name_kw (ld_glob I hg hm (PySem.W.callWith_K0 I.kIn M.kp (run_makeRS (us := []) M F hr (hx σ) I .nil h)) hdb)⟩
/-- cls(*xs), cls a variable that holds the class at C -/
def tMakeSt (K : PySem.W.Frag) (C : Addr) (sp : Sp) (E : St → XK) (ta te : TE) : TE := fun σ H Q => ta σ H fun y H1 => y = .ref C ∧ te σ H1 fun z H2 => ∃ a xs, z = .ref a ∧ (SqT K H2 a xs ∨ SqL K H2 a xs) ∧ tMakeS C sp [] E (fun _ H' Q' => Q' xs H') σ H2 Q
theorem pe_makeSt (hf : PE X fe ta) (M : Mk X.K C f) (F : FnR X.prog X.w X.K X.mg X.base CX k f sp) (hr : Room (k + 1) X.A) (hx : ∀ σ, PassesAt CX X σ (E σ)) (he : PE X e te)
    (ht : eval (.Call fe [.Starred e sp_] [] pos) X.env = (do callWith pos (← eval fe X.env) [] (backTo pos (starEach [.Starred e sp_] X.env)) (backToKw pos (keywordEach [] X.env))) := by rfl)
    (hst : starEach [.Starred e sp_] X.env = [(true, eval e X.env)] := by rfl) : PE X (.Call fe [.Starred e sp_] [] pos) (tMakeSt X.K C sp E ta te) := by
  refine ⟨fun pins s σ H Q I h => ?_⟩
  refine Call_ (thn (hf.run pins s σ H _ I h) ?_) ht
  rintro u s1 ⟨y, H1, I1, ry, rfl, q⟩
  cases ry
  refine PySem.W.callWith_S (h₀ := X.base) I1.ok.mod.kin M.kp (thn (he.run pins s1 σ H1 _ I1 q) ?_) hst
  rintro v s2 ⟨z, H2, I2, rz, a, xs, rfl, hxs, q2⟩
  cases rz
  exact star_any I2 hxs fun us s3 I3 rv => ⟨I3.kIn, run_makeRS M F hr (hx σ) I3 rv q2⟩
/-- C.m(e, ..), m a classmethod -/
def tCMS (C : Addr) (sp : Sp) (E : St → XK) (ta : TE) (t : TA) : TE := fun σ H Q => ta σ H fun x H1 => x = .ref C ∧ t σ H1 fun vs H2 => sp (.ref C :: vs) H2 Q (E σ)
theorem run_cmS {pins : List (Addr × Obj)} {σ : St} {H : Hp} {s : Shared} {q : Addr} {Q : VK} {us : List Value} {vs : List V} (F : FnR X.prog X.w X.K X.mg X.base CX k g sp) (hr : Room k X.A) (hx : PassesAt CX X σ (E σ)) (I : Inv X ((q, PySem.W.methodObj (.ref g) (.ref C)) :: pins) σ H s)
    (r : Vals vs us) (h : sp (.ref C :: vs) H Q (E σ)) : wpAny (model X.prog X.w) X.A (call (.ref q) us) (EP X pins σ Q) X.xe s := by
  have z : wpAny (model X.prog X.w) X.A (call (.ref q) us) (EP X ((q, PySem.W.methodObj (.ref g) (.ref C)) :: pins) σ Q) X.xe s :=
    wpAny_call (PySem.W.method_call (ClX.pin_at I) (run_fnRS (us := .ref C :: us) (vs := .ref C :: vs) F hr hx I (.cons rfl r) h))
  exact thn z fun _ _ y => ClX.unpinE y
theorem _root_.L2.FnOk.rawN {P : Program} {w : World} {K : PySem.W.Frag} {mg : Str → Option Value} {base : Heap} {fd : FuncData} {ps : List Str} (F : FnOk P w K mg base CX k f fd ps sp) (hb : Binds K fd ps []) : FnR P w K mg base CX k f sp :=
  (F.raw hb .nil).imp fun vs H Q E h => by rw [List.append_nil]; exact h
/-- what of the text a class and a classmethod of it must have -/
def CmC (K : PySem.W.Frag) (C : Addr) (m : Str) (p g : Addr) : Prop := ∃ mc, ClX.CRead K C mc ∧ ClX.CMet K C mc m p g
theorem pe_cmS {pl : Sem Bool} (he : PE X o ta) (c : CmC X.K C m p g) (F : FnR X.prog X.w X.K X.mg X.base CX k g sp) (hr : Room k X.A) (hx : ∀ σ, PassesAt CX X σ (E σ)) (ha : PA X (e :: es) t)
    (hst : starEach (e :: es) X.env = (false, eval e X.env) :: starEach es X.env := by rfl) (hpl : (backTo pos (starEach es X.env)).any (·.1) = false := by rfl)
    (ht : eval (.Call (.Attribute o m apos) (e :: es) [] pos) X.env = (do
      let ov ← eval o X.env
      standAt apos.atName
      let (f, first) ← holding [ov] (getMethod ov m pl)
      callWith pos f first (backTo pos (starEach (e :: es) X.env)) (backToKw pos (keywordEach [] X.env))) := by rfl) :
    PE X (.Call (.Attribute o m apos) (e :: es) [] pos) (tCMS C sp E ta t) := by
  obtain ⟨mc, r, c⟩ := c
  refine ⟨fun pins s σ H Q I h => ?_⟩
  refine PySem.W.methodCall_KW (pl := pl) (thn (he.run pins s σ H _ I h) fun u s1 ⟨x, H1, I1, rx, ex, q⟩ => ?_) ht
  subst ex
  obtain rfl : u = Value.ref C := rx
  refine ClX.getmethcm_ok I1 r c fun s2 I2 => ?_
  refine ClX.callwith_cm I2 (base_none I1 (Nat.le_refl _)) c.fi (thn (ha.run pos _ s2 σ H1 _ I2 q) fun us s3 ⟨vs, H2, I3, rv, q2⟩ => ⟨⟨ClX.pin_at I3, I3.kIn⟩, ?_⟩) hst hpl
  exact run_cmS F hr (hx σ) I3 rv q2
end
end L2
namespace Rz
open PySem PySem.Spec PyProof.Rows L2 He
def cmB (C m : Str) : Fg → Bool := fun K => PySem.W.readsIn K (ga K C) (.type "type") && (eqO (PySem.W.specialIn K (.ref (ga K C)) "__getattribute__") (some (some (.builtin "type.__getattribute__"))) &&
  ((match PySem.W.findCls K (.ref (ga K C)) (.type "type") m with
    | some (.get a b c d) => decide (a = .builtin "classmethod.__get__") && (decide (b = .ref (recAt C m K)) && (decide (c = .none) && decide (d = .ref (ga K C))))
    | _ => false) && (firstB "classmethod" (recAt C m K) K && PySem.W.fnIn K (pC C m K))))
theorem cmB_ok {C m : Str} {K : Fg} (h : cmB C m K = true) : CmC K (ga K C) m (recAt C m K) (pC C m K) := by
  obtain ⟨h1, h⟩ := ba h
  obtain ⟨h2, h⟩ := ba h
  obtain ⟨h3, h⟩ := ba h
  obtain ⟨h4, h5⟩ := ba h
  refine ⟨.type "type", ⟨h1, eqO_ok h2⟩, ⟨?_, firstB_ok h4, h5⟩⟩
  cases e : PySem.W.findCls K (.ref (ga K C)) (.type "type") m with
  | none => rw [e] at h3; cases h3
  | some r =>
    rw [e] at h3
    cases r with
    | get a b c d =>
      obtain ⟨a1, h3⟩ := ba h3
      obtain ⟨a2, h3⟩ := ba h3
      obtain ⟨a3, a4⟩ := ba h3
      rw [of_decide_eq_true a1, of_decide_eq_true a2, of_decide_eq_true a3, of_decide_eq_true a4]
    | _ => cases h3
end Rz

/-! split; x op= y by an own method that may raise; a walk over an instance whose __iter__ gives a list's iterator. -/
namespace L2
open PySem PySem.Spec PyProof.Rows
/-- a statement that is never reached -/
def tDeadS : TS := fun _ _ _ => False
theorem ps_deadS {X : Cx} {st : Stmt} : PS X st tDeadS := ⟨fun _ _ _ _ _ _ h => False.elim h⟩
/-- x.split(sep) -/
def rSplitS : V → List V → Hp → VK → Prop := fun x xs H Q => ∃ a b, x = .str a ∧ xs = [.str b] ∧ (b.length == 0) = false ∧ a.length + 2 ≤ sizeLine ∧ rNewStrs (Txt.split a b) H Q
def tSplit (to te : TE) : TE := tM1 rSplitS to te
theorem pe_splitS {X : Cx} {o e : Expr} {to te : TE} {apos pos : Pos} (ho : PE X o to) (he : PE X e te) (hs : starEach [e] X.env = [(false, eval e X.env)] := by rfl)
    (hbase : attributeBase o "split" X.env (eval o X.env) = eval o X.env := by rfl) (hline : (apos.endLine == pos.line) = true := by rfl) : PE X (.Call (.Attribute o "split" apos) [e] [] pos) (tSplit to te) :=
  pe_m1 PySem.F.slot_str_split PySem.F.type_str_split mt_split ho he hs hbase hline
section
variable {X : Cx} {CX : CXT} {k : Nat} {f C : Addr} {fd : FuncData} {ps : List Str} {sp : Sp}
/-- x op= e, x a variable that holds an instance with its own method -/
def tAugO (i : Nat) (te : TE) (C : Addr) (sp : Sp) (E : St → XK) : TS := fun D σ H => ∃ x, σ[i]? = some (some x) ∧ te σ H fun y H1 => rIpO C sp (E σ) x y H1 fun z H2 => D.nx (σ.set i (some z)) H2
theorem ps_augO {i : Nat} {x : Str} {e : Expr} {te : TE} {op : Operator} {E : St → XK} {pos' pos : Pos} (hN : X.N.Nodup) (hi : X.N[i]? = some x) (hx : Loc X.env.scope x) (he : PE X e te)
    (m : Meth X.K C (PySem.dunderI op.info.2) f) (c : OpC X.K C) (F : FnOk X.prog X.w X.K X.mg X.base CX k f fd ps sp) (hr : Room k X.A) (hb : Binds X.K fd ps []) (hE : ∀ σ, PassesAt CX X σ (E σ))
    (hf : X.fn x = true ∨ X.env.scope.names.lookup x = some .local := by first | exact .inl rfl | exact .inr rfl | assumption) :
    PS X (.AugAssign (.Name x pos') op e pos) (tAugO i te C sp E) := by
  refine ⟨fun pins s σ H D I h => ?_⟩
  obtain ⟨v, e1, h⟩ := h
  obtain ⟨m0, hn, hl⟩ := I.loc
  have vis : Vis X.env.scope x := by rcases hx with k | k; exact .inl k; exact .inr (.inl k)
  obtain ⟨u, r, l⟩ := hl i x v hi e1 vis
  refine wpAny_AugAssign_Name ?_
  have go : wpAny (model X.prog X.w) X.A (eval e X.env) (fun w s₂ => wpAny (model X.prog X.w) X.A (inplaceOp op u w) (fun r s₃ => wpAny (model X.prog X.w) X.A (storeName X.env x r) (fun _ => SP X pins D .next) X.xe s₃) X.xe s₂) X.xe s := by
    refine thn (he.run pins s σ H _ I h) fun w s1 ⟨y, H1, I1, r1, q1⟩ => ?_
    have key : wpAny (model X.prog X.w) X.A (inplaceOp op u w) (EP X pins σ (fun z H2 => D.nx (σ.set i (some z)) H2)) X.xe s1 := by
      obtain ⟨a, dx, fs, rfl, ea, q⟩ := q1
      cases r
      obtain ⟨od, J⟩ := I1.instAt ea
      obtain ⟨m1, hF⟩ := I1.fr
      exact PySem.W.ksp_inplace hF I1.ok.mod.kin J c.first m.at_ m.fn (thn (run_two F hr rfl hb (hE σ) I1 r1 q) fun _ _ z => z.back)
    refine thn key fun z s2 ⟨zv, H2, I2, r2, q2⟩ => ?_
    exact store_ok I2 hN hi hx r2 (fun s3 I3 => ⟨_, H2, I3, q2⟩) hf
  rcases l with ⟨hk, hm⟩ | ⟨hk, c, hc, hcell⟩
  · exact wpAny_loadName_local I.ok.kind hk hn hm go
  · rcases hk with hk | hk
    · exact wpAny_loadName_cell I.ok.kind hk hc hcell go
    · rcases hx with k | k
      · have : X.env.scope.names.lookup x = some .free := hk
        rw [k] at this; cases this
      · have : X.env.scope.names.lookup x = some .free := hk
        rw [k] at this; cases this
def ipMul : TIp := fun x y H Q => ∃ i j, x = .int i ∧ y = .int j ∧ CMul i j ∧ Q (.int (i * j)) H
theorem ip_mul : PIp X .Mult ipMul := by
  intro pins s σ H x y v u Q I r1 r2 h
  obtain ⟨i, j, e1, e2, hc, q⟩ := h
  subst e1; subst e2
  obtain ⟨t, rfl⟩ := r1
  obtain ⟨t', rfl⟩ := r2
  exact imul_int ⟨.int _, H, I.tok _, ⟨_, rfl⟩, q⟩ hc.ok
def rSumA (K : PySem.W.Frag) : List V → Hp → VK → Prop := rSum K
theorem c_sum (hc : X.calm = true) : CallR X (.builtin "sum") (rSumA X.K) := cr_sum hc
/-! ### an object that is no longer spoken of -/
def dropH (H : Hp) (it : Addr) : Hp := fun b => if b = it then none else H b
theorem dropH_at {H : Hp} {it : Addr} : dropH H it it = none := if_pos rfl
theorem dropH_ne {H : Hp} {it b : Addr} (h : b ≠ it) : dropH H it b = H b := if_neg h
theorem dropH_none {H : Hp} {it b : Addr} (h : H b = none) : dropH H it b = none := by unfold dropH; split <;> trivial
theorem dropH_upd {H : Hp} {it : Addr} {o : HO} (h : H it = none) : dropH (upd H it o) it = H := by
  funext b
  unfold dropH
  by_cases e : b = it
  · rw [if_pos e, e, h]
  · rw [if_neg e, upd_ne e]
theorem dropH_some {H : Hp} {it b : Addr} {o : HO} {φ : Heap → Prop} (ei : H it = some (.ext φ)) (e : H b = some o) (n : ∀ ψ, o ≠ .ext ψ) : dropH H it b = some o := by
  rw [dropH_ne (fun z => by rw [z, ei] at e; exact n φ (Option.some.inj e).symm)]
  exact e
theorem objOk_drop {P : Program} {w : World} {H : Hp} {h : Heap} {it b : Addr} {φ : Heap → Prop} (ei : H it = some (.ext φ)) : ∀ o : HO, ObjOk P w H h b o → ObjOk P w (dropH H it) h b o
  | .lst _, x => x
  | .tup _, x => x
  | .dK _, x => x
  | .dT _, ⟨a, c, xs, p, r⟩ => ⟨a, c, xs, Paired.mono (fun _ _ ⟨h1, h2, h3⟩ => ⟨h1, dropH_some ei h2 (fun _ z => nomatch z), h3⟩) p, r⟩
  | .set _ _, x => x
  | .ins _ _ _, ⟨a, r⟩ => ⟨dropH_some ei a (fun _ z => nomatch z), r⟩
  | .own _, x => x
  | .xd _, x => x
  | .met _ _, x => x
  | .rng _ _, x => x
  | .frz _ u, ⟨a, r⟩ => ⟨a, objOk_drop ei u r⟩
  | .tbl _, x => x
  | .ext _, x => x
variable {pins : List (Addr × Obj)} {σ : St} {H : Hp} {s : Shared}
theorem Inv.dropped {it : Addr} {φ : Heap → Prop} (I : Inv X pins σ H s) (ei : H it = some (.ext φ)) : Inv X pins σ (dropH H it) s where
  ok := I.ok
  os := I.os
  bare := I.bare
  base := ⟨I.base.keep, I.base.slot, fun b o q n hx => dropH_none (I.base.free b o q n hx), I.base.there, fun b xs q => dropH_some ei (I.base.tups b xs q) (fun _ z => nomatch z), fun b o u q => dropH_some ei (I.base.frzs b o u q) (fun _ z => nomatch z),
    fun b ps q => let ⟨m, e⟩ := I.base.tbls b ps q; ⟨m, dropH_some ei e (fun _ z => nomatch z)⟩⟩
  loc := I.loc
  cell := I.cell
  free := dropH_none I.free
  freeC := fun x c e => dropH_none (I.freeC x c e)
  pin := fun p hp => let ⟨a, b, c⟩ := I.pin p hp; ⟨a, dropH_none b, c⟩
  hok := fun b o e => by
    by_cases z : b = it
    · rw [z, dropH_at] at e; cases e
    · rw [dropH_ne z] at e
      exact objOk_drop ei o (I.hok b o e)
  len := I.len
/-- a def of one argument runs within a built-in; what it puts where nothing was known is new -/
theorem run_oneN {A' : Around} {a : Addr} {Q : VK} {E : XK} (F : FnOk X.prog X.w X.K X.mg X.base CX k f fd ps sp) (hr : Room k A') (hfr : A'.frames = X.A.frames) (hb : Binds X.K fd ps []) (hx : PassesAt CX X σ E) (I : Inv X pins σ H s) (h : sp [.ref a] H Q E) :
    wpAny (model X.prog X.w) A' (call (.ref f) [.ref a]) (EP X pins σ fun v H' => (∀ b, H b = none → H' b ≠ none → s.heap.get? b = none) ∧ Q v H') X.xe s := by
  have e0 := I.env0
  have e1 : Env0 X.prog X.w X.K X.mg X.base A' X.stack s H := ⟨hfr.trans e0.frames, e0.mod, e0.bs, e0.bsz, e0.funs, e0.frf, e0.hok, e0.bare⟩
  have rr : Vals [V.ref a] [Value.ref a] := .cons rfl .nil
  refine wpAny_call (codeAny_mono (F.run A' X.stack s H ⟨[.ref a], []⟩ [.ref a] [.ref a] Q E hr e1 (by simpa using hb s [.ref a] I.kIn (by have := F.len _ _ _ _ h; simpa using this)) rr h) ?_)
  intro res s' hq
  match res, hq with
  | .error e, hq => exact hx pins H s e s' I hq
  | .ok (.ret u), hq =>
    obtain ⟨v, H', os, bare, un, hok, r, q⟩ := hq
    refine I.after ⟨v, H', os, bare, un, hok, r, fun b n1 n2 => ?_, q⟩
    cases e : s.heap.get? b with
    | none => rfl
    | some o => exact absurd (un.free b o e n1 (by simp)) n2
  | .ok .next, hq => exact hq.elim
  | .ok .brk, hq => exact hq.elim
  | .ok .cont, hq => exact hq.elim
end
/-! ### the addresses that were freed when the frame began -/
def freed (h : Heap) : List Addr := (List.range h.objs.size).filter fun b => (h.get? b).isNone
theorem mem_freed {h : Heap} {b : Addr} : b ∈ freed h ↔ b < h.objs.size ∧ h.get? b = none := by
  unfold freed
  rw [List.mem_filter, List.mem_range, Option.isNone_iff_eq_none]
def Cx.yg (X : Cx) : Cx := { X with ex := X.ex ++ freed X.s_0.heap }
section
variable {X : Cx} {CX : CXT} {k : Nat} {f C : Addr} {fd : FuncData} {ps : List Str} {sp : Sp} {pins : List (Addr × Obj)} {σ : St} {H : Hp} {s : Shared}
theorem Cx.Ok.yg (ok : X.Ok) (hc : X.env.cells = []) : X.yg.Ok where
  mod := ok.mod
  kind := ok.kind
  glob := ok.glob
  blt := ok.blt
  above := ok.above
  inj := ok.inj
  has := ok.has
  cab := ok.cab
  hd := ok.hd
  frames := ok.frames
  stk := ok.stk
  exf := fun b hb => by
    refine ⟨fun z => ?_, fun x c e => ?_⟩
    · rcases List.mem_append.mp hb with h | h
      · exact (ok.exf b h).1 z
      · have h1 := (mem_freed.mp h).1
        have h2 : X.s_0.heap.objs.size ≤ X.env.locals := ok.above
        have h3 : b = X.env.locals := z
        rw [h3] at h1
        exact absurd h1 (Nat.not_lt.mpr h2)
    · have e' : X.env.cells.lookup x = some c := e
      rw [hc] at e'
      cases e'
  bs := ok.bs
  bsz := ok.bsz
  noex := fun b o e hb => by
    rcases List.mem_append.mp hb with h | h
    · exact ok.noex b o e h
    · have h1 := (ok.bs b o e).1
      rw [(mem_freed.mp h).2] at h1
      cases h1
  exfs := fun b hb hf => by
    rcases List.mem_append.mp hb with h | h
    · exact ok.exfs b h hf
    · obtain ⟨_, o, h1, _⟩ := ok.funs.mem hf
      rw [(mem_freed.mp h).2] at h1
      cases h1
  funs := ok.funs
  frf := ok.frf
theorem Inv.yg (hc : X.env.cells = []) (I : Inv X pins σ H s) : Inv X.yg pins σ H s where
  ok := I.ok.yg hc
  os := I.os
  bare := I.bare
  base := ⟨fun b o q n h1 h2 => I.base.keep b o q n h1 (fun z => h2 (List.mem_append_left _ z)), fun b o q n h1 h2 => I.base.slot b o q n h1 (fun z => h2 (List.mem_append_left _ z)), fun b o q n h => I.base.free b o q n (fun z => h (List.mem_append_left _ z)),
    fun b o q h => I.base.there b o q (fun z => h (List.mem_append_left _ z)), I.base.tups, I.base.frzs, I.base.tbls⟩
  loc := I.loc
  cell := I.cell
  free := I.free
  freeC := I.freeC
  pin := I.pin
  hok := I.hok
  len := I.len
theorem not_yg {b : Addr} {o : Obj} (q : X.s_0.heap.get? b = some o) (h : b ∉ X.ex) : b ∉ X.yg.ex := fun z => by
  rcases List.mem_append.mp z with z | z
  · exact h z
  · rw [(mem_freed.mp z).2] at q
    cases q
theorem Inv.unyg (ok : X.Ok) (I : Inv X.yg pins σ H s) : Inv X pins σ H s where
  ok := ok
  os := I.os
  bare := I.bare
  base := ⟨fun b o q n h1 h2 => I.base.keep b o q n h1 (not_yg q h2), fun b o q n h1 h2 => I.base.slot b o q n h1 (not_yg q h2), fun b o q n h => I.base.free b o q n (not_yg q h), fun b o q h => I.base.there b o q (not_yg q h), I.base.tups, I.base.frzs, I.base.tbls⟩
  loc := I.loc
  cell := I.cell
  free := I.free
  freeC := I.freeC
  pin := I.pin
  hok := I.hok
  len := I.len
theorem EP.unyg (ok : X.Ok) {Q : VK} {u : Value} (z : EP X.yg pins σ Q u s) : EP X pins σ Q u s := let ⟨v, H', I, r, q⟩ := z; ⟨v, H', I.unyg ok, r, q⟩
theorem PE.young {e : Expr} {te : TE} (hc : X.env.cells = []) (h : PE X.yg e te) : PE X e te := ⟨fun pins s σ H Q I q => thn (h.run pins s σ H Q (I.yg hc) q) fun _ _ z => z.unyg I.ok⟩
theorem SP.unyg (ok : X.Ok) {D : Ends} {fl : Flow} (z : SP X.yg pins D fl s) : SP X pins D fl s := by
  cases fl with
  | next => obtain ⟨σ', H', J, q⟩ := z; exact ⟨σ', H', J.unyg ok, q⟩
  | brk => obtain ⟨σ', H', J, q⟩ := z; exact ⟨σ', H', J.unyg ok, q⟩
  | cont => obtain ⟨σ', H', J, q⟩ := z; exact ⟨σ', H', J.unyg ok, q⟩
  | ret u => obtain ⟨v, σ', H', J, r, q⟩ := z; exact ⟨v, σ', H', J.unyg ok, r, q⟩
theorem PS.young {st : Stmt} {t : TS} (hc : X.env.cells = []) (h : PS X.yg st t) : PS X st t := ⟨fun pins s σ H D I q => wpAny_mono (h.run pins s σ H D (I.yg hc) q) (fun _ _ z => z.unyg I.ok) fun _ _ z => z⟩
theorem fpOk_young (hc : X.env.cells = []) {b : Addr} {H' : Hp} (I : Inv X.yg pins σ H s) (e : s.heap.get? b = none) (hn : H' b = none) : FpOk X.yg pins H' b := by
  refine ⟨hn, fun z => ?_, fun z => ?_, ?_, fun x c q z => ?_, fun p hp z => ?_⟩
  · obtain ⟨m, hN, _⟩ := I.loc
    obtain ⟨_, _, _, ho, _⟩ := hN
    have z' : b = X.env.locals := z
    rw [z'] at e
    have ho' : s.heap.get? X.env.locals = some _ := ho
    rw [e] at ho'
    cases ho'
  · have z' : b ∈ X.fs := z
    obtain ⟨_, o, h1, _⟩ := Cx.Ok.funs (X := X.yg) I.ok |>.mem z'
    have hx : b ∉ X.yg.ex := fun w => I.ok.exfs b w z
    obtain ⟨o', e'⟩ := I.base.there b o h1 hx
    rw [e] at e'
    cases e'
  · cases q : X.s_0.heap.get? b with
    | some o =>
      by_cases hx : b ∈ X.yg.ex
      · exact .inl hx
      · obtain ⟨o', e'⟩ := I.base.there b o q hx
        rw [e] at e'
        cases e'
    | none =>
      rcases Nat.lt_or_ge b X.s_0.heap.objs.size with lt | ge
      · exact .inl (List.mem_append_right _ (mem_freed.mpr ⟨lt, q⟩))
      · exact .inr ge
  · have q' : X.env.cells.lookup x = some c := q
    rw [hc] at q'
    cases q'
  · have := (I.pin p hp).1
    rw [z, e] at this
    cases this
/-- for .. in o: o's __iter__ gives a list's iterator -/
def iOwn (K : PySem.W.Frag) (C : Addr) (sp : Sp) (E : St → XK) (ta : TE) : TI := fun σ H R => ta σ H fun x H1 => ∃ a dx fs, x = .ref a ∧ H1 a = some (.ins C dx fs) ∧
  sp [.ref a] H1 (fun v H2 => ∃ l it, v = .ref it ∧ H1 it = none ∧ H2 it = some (ItO l it 0) ∧ (∃ xs, SqL K H2 l xs) ∧ R (Itl K l) (dropH H2 it)) (E σ)
theorem pi_own {tg e : Expr} {ta : TE} {E : St → XK} (hcl : X.env.cells = []) (m : Meth X.K C "__iter__" f) (F : FnOk X.prog X.w X.K X.mg X.base CX k f fd ps sp) (hr : Room (k + 1) X.A) (hb : Binds X.K fd ps []) (hx : ∀ σ, PassesAt CX X.yg σ (E σ)) (ha : PE X.yg e ta) :
    PI X.yg tg e (iOwn X.K C sp E ta) := by
  refine ⟨fun pins s σ H R I h => ?_⟩
  refine thn (ha.run pins s σ H _ I h) ?_
  rintro v s1 ⟨x, H1, I1, r1, a, dx, fs, rfl, ea, q⟩
  cases r1
  obtain ⟨od, J⟩ := I1.instAt ea
  obtain ⟨m0, hF⟩ := I1.fr
  refine PySem.W.owit_iter hF I1.ok.mod.kin J m.at_ m.fn ?_
  refine thn (run_oneN (X := X.yg) (E := E σ) F (hr.mono (Nat.le_succ k)) rfl hb (hx σ) I1 q) ?_
  rintro u s4 ⟨v, H4, I4, rv, new, l, it, rfl, n1, eit, ⟨xs, hxs⟩, q4⟩
  cases rv
  unfold PySem.W.OwitIt
  have ty4 : s4.TypeIs (.ref it) "list_iterator" := ⟨_, itO_get I4 eit, rfl⟩
  refine wpAny_specialOf ty4 slot_listiter_next.lookup ?_
  dsimp only
  refine ⟨it, [it], _, _, dropH H4 it, rfl, I4.dropped eit, turn_list l it, ⟨_, itO_get I4 eit, rfl, rfl⟩, fun b hb => ?_, q4⟩
  have eb : b = it := by simpa using hb
  rw [eb]
  exact fpOk_young hcl I1 (new it n1 (by rw [eit]; exact fun z => nomatch z)) dropH_at
/-- o.m(e, .., k = v, ..) -/
def tMethK (C : Addr) (m : Str) (n j : Nat) (sp : Sp) (gV : List V → List V → List V) (E : St → XK) (ta : TE) (t tk : TA) : TE := fun σ H Q => ta σ H fun y H1 => ∃ a dx fs, y = .ref a ∧ H1 a = some (.ins C dx fs) ∧ fs.lookup m = none ∧
  t σ H1 fun vs H2 => tk σ H2 fun zs H3 => vs.length = n ∧ zs.length = j ∧ sp (gV (y :: vs) zs) H3 Q (E σ)
theorem pe_methK {o e : Expr} {es : List Expr} {kws : List Keyword} {m : Str} {n : Nat} {ks : List Str} {g : List Value → List Value → List Value} {gV : List V → List V → List V} {E : St → XK} {apos pos : Pos} {ta : TE} {t tk : TA} {pl : Sem Bool} (he : PE X o ta) (c : Cls X.K C) (hm : Meth X.K C m f)
    (F : FnOk X.prog X.w X.K X.mg X.base CX k f fd ps sp) (hr : Room k X.A) (hb : KBn X.K fd ps (n + 1) ks g gV) (hx : ∀ σ, PassesAt CX X σ (E σ)) (ha : PA X (e :: es) t) (hkw : PK X kws tk)
    (hall : (backToKw pos (keywordEach kws X.env)).all (·.1.isSome) = true := by rfl) (hks : (backToKw pos (keywordEach kws X.env)).filterMap (·.1) = ks := by rfl)
    (hst : starEach (e :: es) X.env = (false, eval e X.env) :: starEach es X.env := by rfl) (hpl : ((backTo pos (starEach (e :: es) X.env)).any (·.1) || (backToKw pos (keywordEach kws X.env)).any (·.1.isNone)) = false := by rfl)
    (ht : eval (.Call (.Attribute o m apos) (e :: es) kws pos) X.env = (eval o X.env >>= fun ov => standAt apos.atName >>= fun _ => holding [ov] (getMethod ov m pl) >>= fun ff => callWith pos ff.1 ff.2 (backTo pos (starEach (e :: es) X.env)) (backToKw pos (keywordEach kws X.env))) := by rfl) :
    PE X (.Call (.Attribute o m apos) (e :: es) kws pos) (tMethK C m n ks.length sp gV E ta t tk) := by
  constructor
  intro pins s σ H Q I h
  refine PySem.W.methodCall_KW (pl := pl) (thn (he.run pins s σ H _ I h) ?_) ht
  rintro u s1 ⟨y, H1, I1, ry, a, dx, fs, rfl, ea, l, q⟩
  cases ry
  refine getmeth_ok I1 ea c hm l (PySem.W.callWith_KW (first := [.ref a]) (h₀ := X.base) I.ok.mod.kin hm.kp hall (thn (ha.run pos pins s1 σ H1 _ I1 q) ?_) hpl hst)
  rintro us s2 ⟨vs, H2, I2, r, q2⟩
  refine thn (hkw.run pos pins s2 σ H2 _ I2 q2) fun ws s3 ⟨zs, H3, I3, rz, l1, l2, q3⟩ => ⟨I3.kIn, ?_⟩
  rw [hks]
  exact wpAny_call (run_fnNS (us := .ref a :: us) (vs := .ref a :: vs) F hr hb (hx σ) I3 (.cons rfl r) rz (by rw [List.length_cons, l1]) l2 q3)
end
end L2

/-! x.replace("..."[i], y[j]): both arguments are new texts of one sign. -/
namespace L2
open PySem PySem.Spec PyProof.Rows
def tReplIx (to : TE) (a : Str) (ti tB tj : TE) : TE := fun σ H Q => to σ H fun v H1 => ∃ x, v = .str x ∧ ti σ H1 fun iv H2 => ∃ i c, iv = .int i ∧ a.length ≤ sizeLine ∧ atI a.cps.toList i = some c ∧ tB σ H2 fun bv H3 => tj σ H3 fun jv H4 =>
  ∃ b j d, bv = .str b ∧ jv = .int j ∧ b.length ≤ sizeLine ∧ atI b.cps.toList j = some d ∧ c ≠ d ∧ x.length ≤ 1000000 ∧ Q (.str (Txt.replace x ⟨#[c]⟩ ⟨#[d]⟩)) H4
theorem sub_str {X : Cx} {value slice : Expr} {z : Str} {t t' : Tok} {i : Int} {c : Nat} {s : Shared} {A : Around} {E : Value → Shared → Prop} {Q : Value → Shared → Prop} (hz : z.length ≤ sizeLine) (he : atI z.cps.toList i = some c)
    (hs : subscripted slice false (.str z t) (.int i t') = operate [.str z t, .int i t'] (getItem (.str z t) (.int i t'))) (q : Q (.str ⟨#[c]⟩ s.toks) { s with toks := s.toks + 1 }) :
    wpAny (model X.prog X.w) A (subscriptTail value slice (.str z t) (.int i t')) Q E s := by
  obtain ⟨j, h1, h2, h3, h4, h5⟩ := atI_get he
  have hl : z.cps.toList.length = z.length := by simp [Str.length]
  rw [hl] at h1 h4 h5
  have hn := line63
  exact tail_any (typeIs_str s z t) slot_str_getitem.lookup (getItem_str (c := c) (by
    have e1 : decide (i < -(2 ^ 63 : Int)) = false := decide_eq_false (by omega)
    have e2 : decide (i ≥ 2 ^ 63) = false := decide_eq_false (by omega)
    rw [e1, e2, Bool.or_false]) (by rw [h1]; simpa using h2) q) hs
section
variable {X : Cx} {o i B j : Expr} {to ti tB tj : TE} {a : Str} {k : Nat} {c0 p1 p2 apos pos : Pos}
theorem pe_replIx (ho : PE X o to) (hi : PE X i ti) (hB : PE X B tB) (hj : PE X j tj) (s1 : PlainIx i) (s2 : PlainIx j)
    (hst : starEach [.Subscript (.Constant (.str a) k c0) i p1, .Subscript B j p2] X.env = [(false, eval (.Subscript (.Constant (.str a) k c0) i p1) X.env), (false, eval (.Subscript B j p2) X.env)] := by rfl)
    (hbase : attributeBase o "replace" X.env (eval o X.env) = eval o X.env := by rfl) (hline : (apos.endLine == pos.line) = true := by rfl) :
    PE X (.Call (.Attribute o "replace" apos) [.Subscript (.Constant (.str a) k c0) i p1, .Subscript B j p2] [] pos) (tReplIx to a ti tB tj) := by
  refine ⟨fun pins s σ H Q I h => ?_⟩
  refine PySem.Call_method2 hbase hst hline (thn (ho.run pins s σ H _ I h) ?_)
  rintro v s1' ⟨v', H1, I1, r1, x, rfl, q⟩
  obtain ⟨tx, rfl⟩ := r1
  refine ⟨"str", _, PySem.F.plainAttrs_str, PySem.F.slot_str_replace, PySem.F.type_str_replace, typeIs_str _ _ _, (fun _ e => nomatch e), Calls.callWith_builtin rfl (Calls.evalArgs_plain (Calls.spliced_cons ?_))⟩
  refine Subscript_ (Calls.Constant_str (wpAny_mono (PySem.wpAny_toks (hi.run pins _ σ H1 _ (I1.tok _) q)) ?_ fun _ _ z => z.2))
  rintro u s2' ⟨k1, iv, H2, I2, ri, n, c, rfl, hz, hc, q2⟩
  obtain ⟨ti', rfl⟩ := ri
  have k1 : s1'.toks + 1 ≤ s2'.toks := k1
  refine sub_str (X := X) hz hc (s1 _ _) (Calls.spliced_cons (Subscript_ (wpAny_mono (PySem.wpAny_toks (hB.run pins _ σ H2 _ (I2.tok _) q2)) ?_ fun _ _ z => z.2)))
  rintro w3 s3' ⟨k2, bv, H3, I3, rb, q3⟩
  have k2 : s2'.toks + 1 ≤ s3'.toks := k2
  refine wpAny_mono (PySem.wpAny_toks (hj.run pins _ σ H3 _ I3 q3)) ?_ fun _ _ z => z.2
  rintro w4 s4' ⟨k3, jv, H4, I4, rj, b, m, d, rfl, rfl, hzb, hd, hne, hx, q4⟩
  obtain ⟨tb, rfl⟩ := rb
  obtain ⟨tj', rfl⟩ := rj
  refine sub_str (X := X) hzb hd (s2 _ _) (Calls.spliced_nil ?_)
  have hyz : ((⟨#[c]⟩ : Str) == ⟨#[d]⟩) = false := by
    apply beq_eq_false_iff_ne.mpr
    intro e
    have e2 := congrArg (fun y : Str => y.cps.toList) e
    simp at e2
    exact hne e2
  refine PySem.SC.replace (by show s2'.toks ≠ 0; omega) (by show s4'.toks ≠ 0; omega) (by show s2'.toks ≠ s4'.toks; omega) hyz ?_ fun t' k => ⟨.str (Txt.replace x ⟨#[c]⟩ ⟨#[d]⟩), H4, I4.tok k, ⟨t', rfl⟩, q4⟩
  show x.length + (x.length + 1) * 1 ≤ 16777216
  omega
end
end L2

/-! if and for in a generator's body. -/
namespace L2
open PySem PySem.Spec PyProof.Rows
section
variable {X : Cx}
def tGIf (tc : TT) (ta tb : TGn) : TGn := fun D ys σ H => tc σ H fun k H1 => if k = true then ta D ys σ H1 else tb D ys σ H1
theorem gs_if {c : Expr} {a b : List Stmt} {pos : Pos} {tc : TT} {ta tb : TGn} (hc : PT X c tc) (ha : GSs X a ta) (hb : GSs X b tb) : GS X (.If c a b pos) (tGIf tc ta tb) := by
  refine ⟨fun A S ip R n ys s₀ cd fs K J gd lv s σ H D g hn k hI ht => ?_⟩
  show Seg _ A R _ n s₀ cd (.at pos fun _ => ((isTrue c X.env (eval c X.env)) >>= fun b' => if b' = true then execs a X.env else execs b X.env).wrap K J gd lv) fs s
  refine seg_at ?_
  rw [Sem.bind_eq_wrap', Sem.wrap_wrap]
  refine seg_wrap ?_
  rw [g.over]
  obtain ⟨acc, cc, r, I⟩ := hI
  refine wpAny_mono (hc.run _ s σ H _ I ht) ?_ fun x s' hx => k.exc n s₀ x s' hx
  rintro b' s' ⟨H2, I2, q2⟩
  cases b' with
  | true =>
    rw [if_pos rfl] at q2
    exact ha.run A S ip R n ys s₀ cd fs K J gd lv s' σ H2 D g hn k ⟨acc, cc, r, I2⟩ q2
  | false =>
    rw [if_neg Bool.false_ne_true] at q2
    exact hb.run A S ip R n ys s₀ cd fs K J gd lv s' σ H2 D g hn k ⟨acc, cc, r, I2⟩ q2
end
section
variable {M : Model} {A : Around} {R : GenEnd} {Y : Protocol} {n : Nat} {s₀ : Shared} {c : Code} {fs : List Frame} {s : Shared} {env : Env} {K : Flow → Sem PySem.Fin} {H : Value → Sem PySem.Fin} {gd : Bool → Bool} {lv : List Value → List Value}
theorem seg_For {target iter : Expr} {body orelse : List Stmt} {pos : Pos} (hs : ∀ x, foldedSetIterable iter env x = pure x)
    (h : wpAny M (A.over c fs) (eval iter env) (fun v s1 => wpAny M (A.over c fs) (pyIter v) (fun it s2 => ∀ p, Seg M A R Y n s₀ (.forLoop target it body orelse env) (M.den (.forLoop target it body orelse env))
      (.ret (fun r => ((match r with | .ok f => (.pure f : Sem Flow) | .error e => .raise e).onRaise fun (x : Value) => do
        if (← field x 1) == Value.none then unsupported "frame.own-activation:exception-without-traceback"
        setFlight x env.frame).wrap K H gd lv) none (gd false) (lv []) c p [] :: fs) s2) (fun x s' => Seg M A R Y n s₀ c (H x) fs s') s1) (fun x s' => Seg M A R Y n s₀ c (H x) fs s') s) :
    Seg M A R Y n s₀ c ((exec (.For target iter body orelse pos) env).wrap K H gd lv) fs s := by
  show Seg M A R Y n s₀ c (.at pos fun _ => ((eval iter env) >>= fun v => (foldedSetIterable iter env v >>= fun x => (standAt iter.pos >>= fun _ => (holding [x] (pyIter x) >>= fun it => runOwn (.forLoop target it body orelse env) env)))).wrap K H gd lv) fs s
  refine seg_at ?_
  rw [Sem.bind_eq_wrap', Sem.wrap_wrap]
  refine seg_wrap (wpAny_mono h (fun v s1 h1 => ?_) fun _ _ x => x)
  rw [hs]
  show Seg M A R Y n s₀ c (.at iter.pos fun _ => (holding [v] (pyIter v) >>= fun it => runOwn (.forLoop target it body orelse env) env).wrap K H gd lv) fs s1
  refine seg_at ?_
  rw [Sem.bind_eq_wrap', Sem.wrap_wrap]
  refine seg_wrap (wpAny_mono (wpAny_holding h1) (fun it s2 h2 => ?_) fun _ _ x => x)
  exact seg_call h2
end
section
variable {prog : Program} {w : World} {A : Around} {R : GenEnd} {Y : Protocol} {n : Nat} {s₀ : Shared} {fs : List Frame} {s : Shared} {env : Env}
/-- what a loop's turn does with an exception -/
def errT (env : Env) (x : Value) : Sem PySem.Fin := (do noteFrame x env; theTreesLotGoes x : Sem Unit).wrap (fun _ => .raise x) .raise id id
def bodyK (target : Expr) (it : Value) (body : List Stmt) (env : Env) : Flow → Sem PySem.Fin := fun f => match f with
  | .next | .cont => .pure (.again (.forLoop target it body [] env))
  | .brk => .pure (.done .next)
  | .ret v => .pure (.done (.ret v))
def forG (target : Expr) (it : Value) (body : List Stmt) (env : Env) : Option Value → Sem PySem.Fin := fun r => match r with
  | none => again (.block [] env)
  | some v => letOwnedTupleGo target it v >>= fun _ => assign target env v >>= fun _ => execs body env >>= fun f => match f with
    | .next | .cont => again (.forLoop target it body [] env)
    | .brk => pure (.done .next)
    | .ret v => pure (.done (.ret v))
abbrev errB (env : Env) (e : Value) : Sem PySem.Fin := (do noteFrame e env; theTreesLotGoes e : Sem Unit).bind fun _ => .raise e
theorem errB_eq (env : Env) (e : Value) : errB env e = errT env e := Sem.bind_eq_wrap _ _
theorem seg_forLoop {target : Expr} {it : Value} {body : List Stmt}
    (h : wpAny (model prog w) (A.over (.forLoop target it body [] env) fs) (pyNext it) (fun r s1 => match r with
      | none => Seg (model prog w) A R Y n s₀ (.block [] env) (leafOf (.ok .next)) fs s1
      | some v => wpAny (model prog w) (A.over (.forLoop target it body [] env) fs) (letOwnedTupleGo target it v) (fun _ s2 => wpAny (model prog w) (A.over (.forLoop target it body [] env) fs) (assign target env v) (fun _ s3 =>
          Seg (model prog w) A R Y n s₀ (.forLoop target it body [] env) ((execs body env).wrap (bodyK target it body env) (errT env) id id) fs s3)
        (fun x s' => Seg (model prog w) A R Y n s₀ (.forLoop target it body [] env) (errT env x) fs s') s2) (fun x s' => Seg (model prog w) A R Y n s₀ (.forLoop target it body [] env) (errT env x) fs s') s1)
      (fun x s' => Seg (model prog w) A R Y n s₀ (.forLoop target it body [] env) (errT env x) fs s') s) :
    Seg (model prog w) A R Y n s₀ (.forLoop target it body [] env) ((model prog w).den (.forLoop target it body [] env)) fs s := by
  show Seg _ A R Y n s₀ _ ((forTurn target it body [] env).onRaise (fun x => do noteFrame x env; theTreesLotGoes x)) fs s
  unfold forTurn
  rw [Sem.onRaise_eq_wrap]
  refine seg_at ?_
  show Seg _ A R Y n s₀ _ ((((pyNext it).onRaise (fun _ => standAt { target.pos with line := 0 })) >>= (forG target it body env)).wrap .pure (errB env) id id) fs s
  rw [Sem.bind_eq_wrap', Sem.wrap_wrap]
  refine seg_wrap (wpAny_onRaise (wpAny_mono h (fun r s1 h1 => ?_) fun x s' hx => wpAny_standAt ?_))
  · cases r with
    | none => exact seg_again rfl h1
    | some v =>
      show Seg _ A R Y n s₀ _ ((letOwnedTupleGo target it v >>= fun _ => assign target env v >>= fun _ => execs body env >>= fun f => (match f with
        | .next | .cont => again (.forLoop target it body [] env)
        | .brk => pure (.done .next)
        | .ret v => pure (.done (.ret v)) : Sem PySem.Fin)).wrap .pure (errB env) id id) fs s1
      rw [Sem.bind_eq_wrap', Sem.wrap_wrap]
      refine seg_wrap (wpAny_mono h1 (fun _ s2 h2 => ?_) fun x s' hx => ?_)
      · rw [Sem.bind_eq_wrap', Sem.wrap_wrap]
        refine seg_wrap (wpAny_mono h2 (fun _ s3 h3 => ?_) fun x s' hx => ?_)
        · rw [Sem.bind_eq_wrap', Sem.wrap_wrap]
          have ee : ∀ {K1 K2 : Flow → Sem PySem.Fin} {H1 H2 : Value → Sem PySem.Fin}, K1 = K2 → H1 = H2 → Seg (model prog w) A R Y n s₀ (.forLoop target it body [] env) ((execs body env).wrap K2 H2 id id) fs s3 →
              Seg (model prog w) A R Y n s₀ (.forLoop target it body [] env) ((execs body env).wrap K1 H1 id id) fs s3 := by
            rintro _ _ _ _ rfl rfl h
            exact h
          exact ee (funext fun f => by cases f <;> rfl) (funext fun e => errB_eq env e) h3
        · show Seg _ A R Y n s₀ _ (errB env x) fs s'
          rw [errB_eq]
          exact hx
      · show Seg _ A R Y n s₀ _ (errB env x) fs s'
        rw [errB_eq]
        exact hx
  · show Seg _ A R Y n s₀ _ (errB env x) fs s'
    rw [errB_eq]
    exact hx
end
section
variable {X : Cx}
/-- for in a generator's body: W i n: n bounds the turns that are left -/
def tGFor (wi : TI) (g : TG) (tb : TGn) : TGn := fun D ys σ H => wi σ H fun J H0 => ∃ W : Nat → Nat → List V → St → Hp → Prop, (∃ m, W 0 m ys σ H0) ∧ ∀ i n ys σ H, W i n ys σ H →
  (J.stop i H ∧ D.nx ys σ H) ∨ (J.go i H ∧ ∃ N : List V → St → Hp → Prop, (∀ ys' σ' H', N ys' σ' H' → ∃ m, m < n ∧ W (i + 1) m ys' σ' H') ∧
    ∀ x H', J.yld i H x H' → g x σ H' fun σ1 H1 => tb { D with nx := N, ct := N, bk := D.nx } ys σ1 H1)
theorem gs_for {tg iter : Expr} {body : List Stmt} {wi : TI} {g : TG} {tb : TGn} {pos : Pos} (hp : PassesOwn (model X.prog X.w) X.A X.env X.xe) (hc : X.calm = true) (hi : PI X tg iter wi) (hg : PG X tg g) (hb : GSs X body tb)
    (hs : ∀ x, foldedSetIterable iter X.env x = pure x := by intro _; rfl) : GS X (.For tg iter body [] pos) (tGFor wi g tb) := by
  refine ⟨fun A S ip R n ys s₀ c fs K J' gd lv s σ H D gc hn k hI ht => ?_⟩
  obtain ⟨acc, cc, r, I⟩ := hI
  refine seg_For hs ?_
  rw [gc.over]
  refine wpAny_mono (hi.run _ s σ H _ I ht) (fun v s1 h1 => ?_) fun x s' hx => k.exc n s₀ x s' hx
  refine wpAny_mono h1 (fun itv s2 h2 => ?_) fun x s' hx => k.exc n s₀ x s' hx
  obtain ⟨it, fp, tn, J, H2, rfl, I2, T, st2, f2, W, ⟨m0, w0⟩, turn⟩ := h2
  intro p
  have gl := fun (kk : Result → Sem PySem.Fin) => gc_loop (k := kk) (c' := .forLoop tg (.ref it) body [] X.env) (l := lv []) (kp := []) (p := p) gc rfl rfl
  have stat : ∀ {H' : Hp} {acc' : Array Value} {cc' : Nat}, (∀ b ∈ fp, H' b = none) → ∀ b ∈ fp, FpOk X ((S, lstObj acc' cc') :: ip) H' b := fun {H' acc' cc'} hnn b hb => by
    obtain ⟨a0, a1, a2, a3, a4, a5⟩ := f2 b hb
    refine ⟨hnn b hb, a1, a2, a3, a4, fun q hq => ?_⟩
    rcases List.mem_append.mp hq with z | z
    · exact a5 q (List.mem_append_left _ z)
    · rcases List.mem_cons.mp z with z | z
      · rw [z]
        exact a5 (S, lstObj acc cc) (List.mem_append_right _ List.mem_cons_self)
      · exact a5 q (List.mem_append_right _ (List.mem_cons_of_mem _ z))
  have notS : ∀ b ∈ fp, S ≠ b := fun b hb => (f2 b hb).2.2.2.2.2 (S, lstObj acc cc) (List.mem_append_right _ List.mem_cons_self)
  have glp := fun (kk : Result → Sem PySem.Fin) (h : Heap) => (⟨(gl kk).pn, fun q hq => by
    rcases List.mem_append.mp hq with z | z
    · exact (gl kk).ip q z
    · exact fun e => notS _ (of_pinsAt z).1 e.symm, (gl kk).apart, (gl kk).over, (gl kk).split, (gl kk).guard, (gl kk).gd⟩ : GC X S (ip ++ pinsAt fp h) A (Code.forLoop tg (Value.ref it) body [] X.env) (Frame.ret kk none (gd false) (lv []) c p [] :: fs) id)
  have ee : ∀ (n : Nat) (s₀ : Shared) (x : Value) (s' : Shared), X.xe x s' → Seg (model X.prog X.w) A R (GY X S) n s₀ (.forLoop tg (.ref it) body [] X.env) (errT X.env x)
      (.ret (fun r => ((match r with | .ok f => (.pure f : Sem Flow) | .error e => .raise e).onRaise (cameBack X.env)).wrap K J' gd lv) none (gd false) (lv []) c p [] :: fs) s' := fun n s₀ x s' hx => by
    refine seg_wrap ?_
    rw [(gl _).over]
    refine wpAny_bind (wpAny_mono (hp x s' hx) (fun _ s'' hcb => wpAny_theTreesLotGoes ?_) fun y s'' hcb => ?_)
    · exact seg_leaf (.error x) (seg_cameBack gc k hcb)
    · exact seg_leaf (.error y) (seg_cameBack gc k hcb)
  have loop : ∀ (m i n : Nat) (ys : List V) (s₀ s : Shared) (σ : St) (H : Hp), n + ys.length = sizeLine → W i m ys σ H → GI X S ip ys σ H s → tn i s.heap → (∀ b ∈ fp, H b = none) →
      Seg (model X.prog X.w) A R (GY X S) n s₀ (.forLoop tg (.ref it) body [] X.env) ((model X.prog X.w).den (.forLoop tg (.ref it) body [] X.env))
        (.ret (fun r => ((match r with | .ok f => (.pure f : Sem Flow) | .error e => .raise e).onRaise (cameBack X.env)).wrap K J' gd lv) none (gd false) (lv []) c p [] :: fs) s := by
    intro m
    induction m using Nat.strongRecOn with
    | ind m ih =>
      intro i n ys s₀ s σ H hn w hI st fr
      refine seg_forLoop ?_
      rw [(gl _).over]
      obtain ⟨acc, cc, r, I⟩ := hI
      rcases turn i m ys σ H w with ⟨stop, qn⟩ | ⟨go, N, hN, step⟩
      · refine wpAny_mono (T.done X rfl rfl rfl hc i _ s σ H X.xe I (stat fr) st stop) (fun rr s4 h4 => ?_) fun x s' hx => ee n s₀ x s' hx
        obtain ⟨rfl, I4⟩ := h4
        exact seg_leaf (.ok .next) (k.ok n ys s₀ s4 .next hn ⟨σ, H, ⟨acc, cc, r, I4⟩, qn⟩)
      · refine wpAny_mono (T.item X rfl rfl rfl hc i _ s σ H X.xe I (stat fr) st go) (fun rr s4 h4 => ?_) fun x s' hx => ee n s₀ x s' hx
        obtain ⟨u, rfl, h4⟩ := h4
        refine wpAny_mono h4 (fun _ s5 h5 => ?_) fun x s' hx => ee n s₀ x s' hx
        obtain ⟨x, H5, I5, r5, y5, st5, fr5⟩ := h5
        have I5' := I5.pinned (stat fr5) (T.obj _ _ st5)
        refine wpAny_mono (hg.run _ s5 σ H5 x u _ I5' r5 (step x H5 y5)) (fun _ s6 h6 => ?_) fun x s' hx => ee n s₀ x s' hx
        obtain ⟨σ6, H6, I6, q6⟩ := h6
        refine hb.run A S (ip ++ pinsAt fp s5.heap) R n ys s₀ _ _ _ _ id id s6 σ6 H6 { D with nx := N, ct := N, bk := D.nx } (glp _ _) hn ⟨fun n' ys' s₀' s7 f hn' hs => ?_, fun n' s₀' x s7 hx => ee n' s₀' x s7 hx⟩ ⟨acc, cc, r, I6⟩ q6
        have again : ∀ {σ7 : St} {H7 : Hp}, GI X S (ip ++ pinsAt fp s5.heap) ys' σ7 H7 s7 → N ys' σ7 H7 → Seg (model X.prog X.w) A R (GY X S) n' s₀' (.forLoop tg (.ref it) body [] X.env) (.pure (.again (.forLoop tg (.ref it) body [] X.env)))
            (.ret (fun r => ((match r with | .ok f => (.pure f : Sem Flow) | .error e => .raise e).onRaise (cameBack X.env)).wrap K J' gd lv) none (gd false) (lv []) c p [] :: fs) s7 := by
          rintro σ7 H7 ⟨acc7, cc7, r7, I7⟩ n7
          obtain ⟨m', hm, w7⟩ := hN ys' σ7 H7 n7
          have I7' : Inv X (((S, lstObj acc7 cc7) :: ip) ++ pinsAt fp s5.heap) σ7 H7 s7 := I7
          refine seg_again rfl (ih m' hm (i + 1) n' ys' s₀' s7 σ7 H7 hn' w7 ⟨acc7, cc7, r7, I7'.unpinned⟩ (T.keep _ _ _ st5 fun b hb o e => (I7'.pin (b, o) (List.mem_append_right _ (List.mem_append_right _ (mem_pinsAt hb e)))).1) fun b hb => ?_)
          obtain ⟨o, e, d⟩ := T.obj _ _ st5 b hb
          exact (I7'.pin (b, o) (List.mem_append_right _ (List.mem_append_right _ (mem_pinsAt hb e)))).2.1
        have back : ∀ {σ7 : St} {H7 : Hp}, GI X S (ip ++ pinsAt fp s5.heap) ys' σ7 H7 s7 → GI X S ip ys' σ7 H7 s7 := by
          rintro σ7 H7 ⟨acc7, cc7, r7, I7⟩
          have I7' : Inv X (((S, lstObj acc7 cc7) :: ip) ++ pinsAt fp s5.heap) σ7 H7 s7 := I7
          exact ⟨acc7, cc7, r7, I7'.unpinned⟩
        cases f with
        | next => obtain ⟨σ7, H7, I7, n7⟩ := hs; exact again I7 n7
        | cont => obtain ⟨σ7, H7, I7, n7⟩ := hs; exact again I7 n7
        | brk => obtain ⟨σ7, H7, I7, q7⟩ := hs; exact seg_leaf (.ok .next) (k.ok n' ys' s₀' s7 .next hn' ⟨σ7, H7, back I7, q7⟩)
        | ret v => obtain ⟨x7, σ7, H7, I7, r7, q7⟩ := hs; exact seg_leaf (.ok (.ret v)) (k.ok n' ys' s₀' s7 (.ret v) hn' ⟨x7, σ7, H7, back I7, r7, q7⟩)
  exact loop m0 0 n ys s₀ s2 σ H2 hn w0 ⟨acc, cc, r, I2⟩ st2 fun b hb => (f2 b hb).1
end
section
variable {P : Program} {w : World} {mg : Str → Option Value} {base : Heap} {K : PySem.W.Frag} {x qual : Str} {params : Arguments} {body : List Stmt} {scope : Scope} {dvs : List V} {kws : List (Str × V)} {f : Addr} {fd : FuncData}
theorem FunD.okGen {N ps : List Str} {k : Nat} {sp : SpG} (F : FunD K x qual params body scope dvs kws f fd) (S : GScope N ps scope) (len : ∀ vs H Q E, sp vs H Q E → vs.length = ps.length)
    (hbody : ∀ (cdv : Value) (A : Around) (outer : List Env) (s : Shared) (H : Hp) (vs : List V) (Q : List V → Hp → Prop) (E : XK) (pn : List (Addr × Obj)), Room k (A.deeper (envOfC qual scope s.heap.objs.size f cdv)) → sp vs H Q E →
      ∃ t, GSs (gcxOf P w K mg base N qual scope f cdv A outer s H E pn) body t ∧ t { nx := fun ys _ H' => Q ys H', rt := fun ys v H' => v = .non ∧ Q ys H' } [] (start N vs) H) : GFn P w K mg base (k + 1) f fd ps sp := by
  obtain ⟨oc, od, dV, kV, doc, pm, an, cdv, ct, osl, rfl, lk, hcd, _, _⟩ := F.ex
  exact gfn_of lk hcd S len fun A outer s H vs Q E pn hr hsp => hbody cdv A outer s H vs Q E pn hr hsp
theorem passesE0 {X : Cx} : Passes (CX X.prog X.w) X E0 := fun pins σ H s e s' I c => passE0 σ pins H s e s' I c
theorem nostopE0 {K : PySem.W.Frag} : NoStop K E0 := fun _ _ _ z => False.elim z
end
end L2

/-! try: .. except X as n: raise Y(..) from n. The exceptions of the body have no context (L2N). -/
namespace Rz
open PySem PySem.W PySem.Calls PyProof.Rows PySem.HandSPX
/-- the record of an exception as it is made -/
abbrev xVs (t1 : Addr) : Array Value := #[.ref t1, .none, .none, .none, .bool false, .none]
structure Mk1 (h h' : Heap) (e C d : Addr) (f : Str) (v : Value) : Prop where
  keep : ∀ b o, h.get? b = some o → h'.get? b = some o
  new : h.objs.size ≤ e
  obj : ∃ t1 : Addr, h'.get? e = some { cls := .ref C, dict := some d, data := .fields (xVs t1) }
  dbig : h.objs.size ≤ d
  dne : d ≠ e
  ns : h'.Ns1 d (fun y => if y = f then some v else none)
structure Mk0 (h h' : Heap) (e C : Addr) : Prop where
  keep : ∀ b o, h.get? b = some o → h'.get? b = some o
  new : h.objs.size ≤ e
  obj : ∃ t1 : Addr, h'.get? e = some { cls := .ref C, dict := none, data := .fields (xVs t1) }
section
variable {prog : Program} {w : World} {A : Around} {E : Value → Shared → Prop} {R : Result → Shared → Prop} {s : Shared} {K : Frag} {mg : Str → Option Value} {C : Addr} {f : Str}
theorem exc_mk1 (T : ExOne prog K C f) {v : Value} (X : K.In s.heap) (G : Gls s.heap mg) (hlim : s.heap.NoLimit) (hroom : A.depth + 1 < recursionLimit)
    (hq : ∀ h' tk e d, Mk1 s.heap h' e C d f v → R (.ok (.ret (.ref e))) { s with heap := h', toks := tk }) :
    codeAny (model prog w) A (.call (.ref C) ⟨[v], []⟩) R s := by
  obtain ⟨fI, cc, cda, params, msg, g, j, p0, p1, p2, p3, p4, p5, q0, q1, q2, q3, scope, TF, S, hev, hgen, hco, hbind⟩ := T.ex
  obtain ⟨nm, q, N, bs, bm, sn, sub, ab, col, dd, k0, k1, k2, k3, k5, hC, hbm⟩ := T.c.cls
  obtain ⟨hp, gg, dr, tk, os⟩ := s
  have k : ∀ b o, hp.get? b = some o → ((hp.push (kdv_tup [v])).push (excO C hp.objs.size)).get? b = some o := fun b o e => Heap.get?_push_of_some _ (Heap.get?_push_of_some _ e)
  have hget : ((hp.push (kdv_tup [v])).push (excO C hp.objs.size)).get? (hp.objs.size + 1) = some (excO C hp.objs.size) := by heap_get
  have hnx : K.lookup (hp.objs.size + 1) = none := by
    cases e : K.lookup (hp.objs.size + 1) with
    | none => rfl
    | some o =>
      have z : hp.get? (hp.objs.size + 1) = some o := X _ _ e
      exact absurd (Nat.lt_of_succ_lt (Heap.lt_size z)) (Nat.lt_irrefl _)
  refine call_own F.excBase_ValueError (fun X => refsVE_contains X bm hbm) (X _ _ hC) (looks_findIn X TF.iC) (fun self => bind_fn X self TF.tI) (one_size v) ?_
  refine exc_init1 (mg := mg) (s := ⟨(hp.push (kdv_tup [v])).push (excO C hp.objs.size), gg, dr, tk, os⟩) T.c TF S hev T.no hgen hco (fun name qual body kV doc pm ct an => hbind _ _ name qual body kV doc pm ct an) (X.keeps k) (G.keeps k) (hlim.keeps k) hget hnx ?_ fun h' tk' dx t1 ⟨k', hx, dn, dne, hns⟩ => ?_
  · show A.depth + 1 < recursionLimit
    exact hroom
  · have old : ∀ b o, hp.get? b = some o → h'.get? b = some o := fun b o e => k' b o (Nat.ne_of_lt (Nat.lt_succ_of_lt (Heap.lt_size e))) (k b o e)
    have z : hp.objs.size + 1 + 1 ≤ dx := by
      first
        | (simpa only [Heap.size_push] using dn)
        | exact dn
        | (have q := dn; rw [Heap.size_push, Heap.size_push] at q; exact q)
    exact ⟨rfl, hq h' tk' (hp.objs.size + 1) dx ⟨old, Nat.le_succ _, ⟨t1, hx⟩, Nat.le_trans (Nat.le_trans (Nat.le_succ _) (Nat.le_succ _)) z, dne, hns⟩⟩
theorem exc_mk0 (T : ExZero prog K C) (X : K.In s.heap) (G : Gls s.heap mg) (hlim : s.heap.NoLimit) (hroom : A.depth + 1 < recursionLimit)
    (hq : ∀ h' tk e, Mk0 s.heap h' e C → R (.ok (.ret (.ref e))) { s with heap := h', toks := tk }) :
    codeAny (model prog w) A (.call (.ref C) ⟨[], []⟩) R s := by
  obtain ⟨fI, cc, cda, params, msg, j, p0, p1, p2, p3, p4, p5, scope, TF, S, hev, hgen, hco, hbind⟩ := T.ex
  obtain ⟨nm, q, N, bs, bm, sn, sub, ab, col, dd, k0, k1, k2, k3, k5, hC, hbm⟩ := T.c.cls
  obtain ⟨hp, gg, dr, tk, os⟩ := s
  have k : ∀ b o, hp.get? b = some o → ((hp.push (kdv_tup [])).push (excO C hp.objs.size)).get? b = some o := fun b o e => Heap.get?_push_of_some _ (Heap.get?_push_of_some _ e)
  have hget : ((hp.push (kdv_tup [])).push (excO C hp.objs.size)).get? (hp.objs.size + 1) = some (excO C hp.objs.size) := by heap_get
  have hnx : K.lookup (hp.objs.size + 1) = none := by
    cases e : K.lookup (hp.objs.size + 1) with
    | none => rfl
    | some o =>
      have z : hp.get? (hp.objs.size + 1) = some o := X _ _ e
      exact absurd (Nat.lt_of_succ_lt (Heap.lt_size z)) (Nat.lt_irrefl _)
  refine call_own F.excBase_ValueError (fun X => refsVE_contains X bm hbm) (X _ _ hC) (looks_findIn X TF.iC) (fun self => bind_fn X self TF.tI) (by show 0 ≤ sizeLine; exact Nat.zero_le _) ?_
  refine exc_init0 (mg := mg) (s := ⟨(hp.push (kdv_tup [])).push (excO C hp.objs.size), gg, dr, tk, os⟩) T.c TF S hev hgen hco (fun name qual body kV doc pm ct an => hbind _ name qual body kV doc pm ct an) (X.keeps k) (G.keeps k) (hlim.keeps k) hget hnx ?_ fun h' tk' t1 ⟨k', hx⟩ => ?_
  · show A.depth + 1 < recursionLimit
    exact hroom
  · have old : ∀ b o, hp.get? b = some o → h'.get? b = some o := fun b o e => k' b o (Nat.ne_of_lt (Nat.lt_succ_of_lt (Heap.lt_size e))) (k b o e)
    exact ⟨rfl, hq h' tk' (hp.objs.size + 1) ⟨old, Nat.le_succ _, ⟨t1, hx⟩⟩⟩
end
end Rz

namespace L2
open PySem PySem.Spec PyProof.Rows
/-- an expression that makes an exception, told to its fields -/
def MkF (X : Cx) (pins : List (Addr × Obj)) (σ : St) (Q : XK) (u : Value) (s' : Shared) : Prop :=
  ∃ (a t1 : Addr) (sI : Shared) (H' : Hp) (cls : Value) (d : Option Addr), u = .ref a ∧ Inv X pins σ H' sI ∧ (∀ b o, sI.heap.get? b = some o → s'.heap.get? b = some o) ∧ sI.heap.get? a = none ∧
    s'.heap.get? a = some { cls := cls, dict := d, data := .fields (Rz.xVs t1) } ∧ H' a = none ∧ s'.os = sI.os ∧ AllBare s'.gens ∧ Raises X cls ∧ Q cls d H'
theorem Room.d5 {k : Nat} {A : Around} (r : Room k A) : A.depth + 5 < recursionLimit := by have := r.dp; omega
def PMkF (X : Cx) (e : Expr) (t : St → Hp → XK → Prop) : Prop :=
  ∀ (pins : List (Addr × Obj)) (s : Shared) (σ : St) (H : Hp) (Q : XK), Inv X pins σ H s → t σ H Q → wpAny (model X.prog X.w) X.A (eval e X.env) (MkF X pins σ Q) X.xe s
theorem PMkF.n {X : Cx} {e : Expr} {t : St → Hp → XK → Prop} (h : PMkF X e t) : L2N.PMk X e t := fun pins s σ H Q I q => thn (h pins s σ H Q I q) fun u s' ⟨a, t1, sI, H', cls, d, e, J, k, hne, ha, na, os, ag, r, q⟩ =>
  ⟨a, _, _, sI, H', cls, d, e, J, k, hne, ha, ⟨rfl, rfl, fun vs z => by cases z; rfl⟩, rfl, rfl, na, os, ag, r, q⟩
section
variable {X : Cx} {C : Addr}
theorem pmkF_sup1 {x f : Str} {a : Expr} {ta : TA} {p pos : Pos} (T : Rz.ExOne X.prog X.K C f) (hs : X.mg "super" = none) (hr : X.A.depth + 5 < recursionLimit) (hg : Gl X x) (hm : X.mg x = some (.ref C)) (ha : PA X [a] ta)
    (hdb : (x == ("__debug__" : Str)) = false := by decide)
    (he : starEach (a :: []) X.env = (false, eval a X.env) :: starEach [] X.env := by rfl) (hpl : (backTo pos (starEach [] X.env)).any (·.1) = false := by rfl) :
    PMkF X (.Call (.Name x p) [a] [] pos) (tMkX C f ta) := by
  intro pins s σ H Q I h
  refine wpAny_Call_Name_kw (ld_glob I hg hm ?_ hdb)
  refine PySem.W.callWith_K (h₀ := X.base) I.ok.mod.kin T.c.kC (thn (ha.run pos pins s σ H _ I h) fun us s1 hh => ?_) he hpl
  obtain ⟨vs, H1, I1, r1, v, ev, q1⟩ := hh
  subst ev
  refine ⟨I1.kIn, ?_⟩
  cases r1 with
  | cons rv rn =>
    rename_i v' us'
    cases rn
    show wpAny _ _ (call (.ref C) [v']) _ _ _
    have hlim := I1.nolimit
    have G := I1.gls hs
    obtain ⟨hp, g, dr, tk, os⟩ := s1
    refine wpAny_call (Rz.exc_mk1 (mg := X.mg) T I1.kIn G hlim (by have := hr; omega) fun h' tk' e d M => ?_)
    show MkF X pins σ Q (.ref e) ⟨h', g, dr, tk', os⟩
    obtain ⟨t1, hoe⟩ := M.obj
    have hns := M.ns
    obtain ⟨G', g1, g2⟩ := restrict h' fun b => decide (b ≠ e)
    have gk : ∀ b, b ≠ e → G'.get? b = h'.get? b := fun b hb => g1 b (decide_eq_true hb)
    have ge : G'.get? e = none := g2 e (by simp)
    have old : ∀ b o, hp.get? b = some o → G'.get? b = some o := fun b o q => (gk b (Nat.ne_of_lt (Nat.lt_of_lt_of_le (Heap.lt_size q) M.new))).trans (M.keep b o q)
    have hns' : G'.Ns1 d (fun y => if y = f then some v' else none) := by
      obtain ⟨o, es, ep, ho, r⟩ := hns
      exact ⟨o, es, ep, (gk d M.dne).trans ho, r⟩
    have J : Inv X pins σ (upd H1 d (.xd [(f, v)])) ⟨G', g, dr, tk', os⟩ := I1.laid (t' := tk') old M.dbig ⟨_, hns', relO_one rv f⟩
    refine ⟨e, t1, ⟨G', g, dr, tk', os⟩, _, .ref C, some d, rfl, J, fun b o q => ?_, ge, hoe, ?_, rfl, J.bare, raises_own T.c.exC T.c.tyC, q1 d (I1.hok.fresh M.dbig)⟩
    · by_cases hb : b = e
      · have q' : G'.get? b = some o := q
        rw [hb, ge] at q'; cases q'
      · exact (gk b hb).symm.trans q
    · rw [upd_ne (Ne.symm M.dne)]
      exact I1.hok.fresh M.new
theorem pmkF_sup0 {x : Str} {p pos : Pos} (T : Rz.ExZero X.prog X.K C) (hs : X.mg "super" = none) (hr : X.A.depth + 5 < recursionLimit) (hg : Gl X x) (hm : X.mg x = some (.ref C))
    (hdb : (x == ("__debug__" : Str)) = false := by decide) : PMkF X (.Call (.Name x p) [] [] pos) (tMkX0 C) := by
  intro pins s σ H Q I h
  refine wpAny_Call_Name_kw (ld_glob I hg hm ?_ hdb)
  refine PySem.W.callWith_K0 I.kIn T.c.kC ?_
  have hlim := I.nolimit
  have G := I.gls hs
  obtain ⟨hp, g, dr, tk, os⟩ := s
  refine wpAny_call (Rz.exc_mk0 (mg := X.mg) T I.kIn G hlim (by have := hr; omega) fun h' tk' e M => ?_)
  show MkF X pins σ Q (.ref e) ⟨h', g, dr, tk', os⟩
  obtain ⟨t1, hoe⟩ := M.obj
  obtain ⟨G', g1, g2⟩ := restrict h' fun b => decide (b ≠ e)
  have gk : ∀ b, b ≠ e → G'.get? b = h'.get? b := fun b hb => g1 b (decide_eq_true hb)
  have ge : G'.get? e = none := g2 e (by simp)
  have old : ∀ b o, hp.get? b = some o → G'.get? b = some o := fun b o q => (gk b (Nat.ne_of_lt (Nat.lt_of_lt_of_le (Heap.lt_size q) M.new))).trans (M.keep b o q)
  have J : Inv X pins σ H ⟨G', g, dr, tk', os⟩ := I.kept (t' := tk') old
  refine ⟨e, t1, ⟨G', g, dr, tk', os⟩, H, .ref C, none, rfl, J, fun b o q => ?_, ge, hoe, I.hok.fresh M.new, rfl, J.bare, raises_own T.c.exC T.c.tyC, h⟩
  by_cases hb : b = e
  · have q' : G'.get? b = some o := q
    rw [hb, ge] at q'; cases q'
  · exact (gk b hb).symm.trans q
end
end L2

namespace HotX
open PySem PySem.Spec PyProof.Rows
/-- the heap behind «from x1» -/
def fromAt (h : Heap) (a x1 : Addr) : Heap := (h.update a (Obj.mapFields (·.setIfInBounds 3 (.ref x1)))).update a (Obj.mapFields (·.setIfInBounds 4 (.bool true)))
theorem fromAt_at {h : Heap} {a x1 : Addr} {oe : Obj} {vs : Array Value} (ha : h.get? a = some oe) (hd : oe.data = .fields vs) :
    (fromAt h a x1).get? a = some ((oe.mapFields (·.setIfInBounds 3 (.ref x1))).mapFields (·.setIfInBounds 4 (.bool true))) ∧ ((oe.mapFields (·.setIfInBounds 3 (.ref x1))).mapFields (·.setIfInBounds 4 (.bool true))).data = .fields ((vs.setIfInBounds 3 (.ref x1)).setIfInBounds 4 (.bool true)) := by
  have q3 := Obj.data_mapFields hd (·.setIfInBounds 3 (Value.ref x1))
  have g3 := Heap.get?_update_self (Obj.mapFields (·.setIfInBounds 3 (Value.ref x1))) ha (Obj.isFreed_of_fields q3)
  have q4 := Obj.data_mapFields q3 (·.setIfInBounds 4 (.bool true))
  exact ⟨Heap.get?_update_self (Obj.mapFields (·.setIfInBounds 4 (.bool true))) g3 (Obj.isFreed_of_fields q4), q4⟩
theorem fromAt_other {h : Heap} {a b x1 : Addr} (hne : a ≠ b) : (fromAt h a x1).get? b = h.get? b := by
  unfold fromAt
  rw [Heap.get?_update_other _ _ hne, Heap.get?_update_other _ _ hne]
section
variable {prog : Program} {w : World} {A : Around} {E : Value → Shared → Prop} {s : Shared}
theorem efv {b : Addr} {ob : Obj} {us : Array Value} {msg : String} {Q : Value → Shared → Prop} (hb : s.heap.get? b = some ob) (db : ob.data = .fields us) (L : PySem.W.Looks (model prog w) s.heap (isInstance (.ref b) (.type "BaseException")) true) (q : Q (.ref b) s) :
    wpAny (model prog w) A (excFromValue (.ref b) msg) Q E s := by
  have nt : ∀ {Q' : Bool → Shared → Prop}, Q' false s → wpAny (model prog w) A (isType (.ref b)) Q' E s := by
    intro Q' z
    simp only [isType, loadHead]
    refine wpAny_bind (wpAny_loadPart hb ?_)
    rw [db]
    exact wpAny_pure z
  unfold excFromValue isExcClass
  refine wpAny_bind (wpAny_bind (nt ?_))
  simp only [Bool.false_eq_true, if_false]
  refine wpAny_pure ?_
  simp only [Bool.false_eq_true, if_false]
  refine wpAny_bind (L.here ?_)
  simp only [if_true]
  exact wpAny_pure q
theorem raise_made_from {env : Env} {x c : Sem Value} {Q : Flow → Shared → Prop} {x1 : Addr}
    (h : wpAny (model prog w) A x (fun v s₁ => ∃ a oe vs cls, v = .ref a ∧ s₁.heap.get? a = some oe ∧ oe.cls = cls ∧ oe.data = .fields vs ∧ vs[1]? = some .none ∧ 4 < vs.size ∧ x1 ≠ a ∧ HotAt A x1 s₁.heap ∧
      (∀ Q' : Value → Shared → Prop, Q' (.ref x1) s₁ → wpAny (model prog w) A c Q' E s₁) ∧ PySem.W.Looks (model prog w) s₁.heap (isInstance (.ref x1) (.type "BaseException")) true ∧
      PySem.W.Looks (model prog w) s₁.heap (isSubtype cls (.type "BaseException")) true ∧ PySem.W.Looks (model prog w) (fromAt s₁.heap a x1) (typeOf cls) (.type "type") ∧
      E (.ref a) { s₁ with heap := (fromAt s₁.heap a x1).update a (Obj.mapFields (·.setIfInBounds 2 (.ref x1))) }) E s) :
    wpAny (model prog w) A (raiseStmt env (some x) (some c)) Q E s := by
  unfold raiseStmt
  dsimp only
  refine wpAny_bind (wpAny_mono h (fun v s₁ h₁ => ?_) fun _ _ x => x)
  obtain ⟨a, oe, vs, cls, rfl, ha, hcls, hd, h1, hi, hne, hot, hc, LX, L1, L3, hE⟩ := h₁
  have LT : PySem.W.Looks (model prog w) s₁.heap (typeOf (.ref a)) cls := fun A Q E s k q => wpAny_typeOf_ref (k _ _ ha) (by rw [hcls]; exact q)
  have LI : PySem.W.Looks (model prog w) s₁.heap (isInstance (.ref a) (.type "BaseException")) true := LT.andThen L1
  obtain ⟨hh1, o1, vs1, g1, d1, c1⟩ := id hot
  have q3 := Obj.data_mapFields hd (·.setIfInBounds 3 (Value.ref x1))
  have g3 := Heap.get?_update_self (Obj.mapFields (·.setIfInBounds 3 (Value.ref x1))) ha (Obj.isFreed_of_fields q3)
  obtain ⟨ga, qa⟩ := fromAt_at (x1 := x1) ha hd
  have z3 : 3 < vs.size := by omega
  have z4 : 4 < (vs.setIfInBounds 3 (Value.ref x1)).size := by rw [set_size]; exact hi
  have z2 : 2 < ((vs.setIfInBounds 3 (Value.ref x1)).setIfInBounds 4 (Value.bool true)).size := by rw [set_size, set_size]; omega
  have f1 : ((vs.setIfInBounds 3 (Value.ref x1)).setIfInBounds 4 (Value.bool true))[1]? = some Value.none := set_other (by decide) (set_other (by decide) h1)
  have cA : ((oe.mapFields (·.setIfInBounds 3 (.ref x1))).mapFields (·.setIfInBounds 4 (.bool true))).cls = cls := by rw [Obj.cls_mapFields, Obj.cls_mapFields]; exact hcls
  have LA : PySem.W.Looks (model prog w) (fromAt s₁.heap a x1) (typeOf (.ref a)) cls := fun A Q E s k q => wpAny_typeOf_ref (k _ _ ga) (by rw [cA]; exact q)
  have ntA : ∀ {Q' : Bool → Shared → Prop}, Q' false { s₁ with heap := fromAt s₁.heap a x1 } → wpAny (model prog w) A (isType (.ref a)) Q' E { s₁ with heap := fromAt s₁.heap a x1 } := by
    intro Q' z
    simp only [isType, loadHead]
    refine wpAny_bind (wpAny_loadPart ga ?_)
    rw [qa]
    exact wpAny_pure z
  have hotA : HotAt A x1 (fromAt s₁.heap a x1) := ⟨hh1, o1, vs1, by rw [fromAt_other (Ne.symm hne)]; exact g1, d1, c1⟩
  have rest : wpAny (model prog w) A (do
      let b ← isType (.ref a)
      if b = true then do
        let e ← holding [.ref a] (raisedFor (.ref a) (.ref a))
        setFlight e none
        raiseNew e
      else do
        let e ← raisedInstance (.ref a)
        setFlight e none
        raiseNew e : Sem Flow) Q E { s₁ with heap := fromAt s₁.heap a x1 } := by
    refine wpAny_bind (ntA ?_)
    simp only [Bool.false_eq_true, if_false]
    unfold raisedInstance
    refine wpAny_bind (wpAny_bind (LA.here (wpAny_bind (L3.here ?_))))
    rw [if_pos (beq_self_eq_true _)]
    refine wpAny_pure ?_
    unfold setFlight
    refine wpAny_bind (wpAny_bind (wpAny_field ga qa f1 ?_))
    rw [if_neg (by decide)]
    refine wpAny_pure ?_
    exact raiseNew_hot hotA hne ga qa z2 hE
  refine wpAny_bind (wpAny_holding (hc _ (wpAny_bind (wpAny_pure ?_))))
  dsimp only
  refine wpAny_bind (wpAny_holding (efv ha hd LI ?_))
  have nn : ¬ ((Value.ref x1 == Value.none) = true) := by simp
  first
  | rw [if_neg nn]
  | (show wpAny _ _ (if (Value.ref x1 == Value.none) = true then _ else _) _ _ _; rw [if_neg nn])
  | simp only [nn, if_false]
  refine wpAny_bind (wpAny_holding (efv g1 d1 LX ?_))
  refine wpAny_bind (wpAny_setField ha hd z3 (wpAny_bind (wpAny_setField g3 q3 z4 ?_)))
  first
  | exact rest
  | (dsimp only; exact rest)
  | (refine wpAny_pure ?_; exact rest)
end
end HotX

namespace L2
open PySem PySem.Spec PyProof.Rows HotX
theorem ns_up {h h' : Heap} {L : Addr} {m : Str → Option Value} (n : h.Ns L m) (up : h.UpToSlots h') : h'.Ns L m := by
  obtain ⟨o, es, ep, ho, hd, r⟩ := n
  obtain ⟨sl, e⟩ := up L o ho (fun vs z => by rw [hd] at z; cases z)
  exact ⟨_, es, ep, e, hd, r⟩
section
variable {X : Cx} {pins : List (Addr × Obj)} {σ : St} {H : Hp} {s : Shared}
/-- a name goes from the frame's map -/
theorem Inv.unset {i : Nat} {n : Str} {m : Str → Option Value} {v : Option Value} {h' : Heap} {t' : Nat} (I : Inv X pins σ H s) (hN : X.N.Nodup) (hi : X.N[i]? = some n)
    (hlk : ∀ (j : Nat) (y : Str) (v : V), X.N[j]? = some y → σ[j]? = some (some v) → Vis X.env.scope y → ∃ u, RelV v u ∧ Look X.env s.heap m y u)
    (hoL : ∃ o, s.heap.get? X.env.locals = some o) (hn' : h'.Ns X.env.locals (fun x => if x = n then v else m x)) (hs : Heap.SameBut X.env.locals s.heap h') : Inv X pins (σ.set i none) H { s with heap := h', toks := t' } := by
  have neL : ∀ b o, X.s_0.heap.get? b = some o → b ≠ X.env.locals := fun b o e => Nat.ne_of_lt (Nat.lt_of_lt_of_le (Heap.lt_size e) I.ok.above)
  refine ⟨I.ok, I.os, I.bare, ⟨fun b o e n hb hx => ?_, fun b o e n hb hx => ?_, I.base.free, fun b o e hx => ?_, I.base.tups, I.base.frzs, I.base.tbls⟩, ⟨_, hn', fun j y v' e1 e2 e3 => ?_⟩, fun y c e => ?_, I.free, I.freeC, fun p hp => ?_, fun b ob e => ?_, by simpa using I.len⟩
  · exact (hs.2 b (neL b o e)).trans (I.base.keep b o e n hb hx)
  · obtain ⟨sl, e1⟩ := I.base.slot b o e n hb hx
    exact ⟨sl, (hs.2 b (neL b o e)).trans e1⟩
  · obtain ⟨o', e1⟩ := I.base.there b o e hx
    exact ⟨o', (hs.2 b (neL b o e)).trans e1⟩
  · by_cases hj : j = i
    · subst hj
      by_cases hlt : j < σ.length
      · rw [List.getElem?_set_self hlt] at e2; cases e2
      · rw [List.getElem?_eq_none (by simpa using hlt)] at e2; cases e2
    · rw [List.getElem?_set_ne (Ne.symm hj)] at e2
      obtain ⟨u', r', q⟩ := hlk j y v' e1 e2 e3
      refine ⟨u', r', ?_⟩
      rcases q with ⟨k, e⟩ | ⟨k, c, e, z⟩
      · have ny : y ≠ n := fun e => hj (nodup_ix hN e1 (e ▸ hi))
        exact .inl ⟨k, (if_neg ny).trans e⟩
      · exact .inr ⟨k, c, e, z.sameBut hs (I.cne y c e)⟩
  · obtain ⟨w', z⟩ := I.cell y c e
    exact ⟨w', z.sameBut hs (I.cne y c e)⟩
  · obtain ⟨e, n, ne, nf, d⟩ := I.pin p hp
    exact ⟨(hs.2 p.1 ne).trans e, n, ne, nf, d⟩
  · refine (I.hok b ob e).stay (fun c w' hc q => (hs.2 c ?_).trans q) (fun _ q => q) fun _ _ q => q
    intro z
    have fr := I.free
    rcases hc with hc | hc
    · rw [← z, hc, e] at fr; cases fr
    · rw [← z, hc] at fr; cases fr
/-- an exception leaves a suite whose name goes -/
theorem XE.unnamed {A : Around} {i : Nat} {n : Str} {pos : Pos} {W W' : WX} {u : Value} {s' : Shared} (hs : X.stack = X.env :: X.outer) (hf : X.env.frame = some X.env.locals) (hfr : A.frames = some (X.env :: X.outer)) (hN : X.N.Nodup) (hi : X.N[i]? = some n)
    (hln : X.env.kindOf n = some .local) (x : XE X W u s') (hW : ∀ cls d σ H, W cls d σ H → W' cls d (σ.set i none) H) (tk : Takes X W') :
    AsSuiteRaised (model X.prog X.w) A X.env n pos (notedBy (model X.prog X.w) A X.env (cameBackBy (model X.prog X.w) X.A X.env X.xe)) u s' := by
  obtain ⟨a, B, sI, pins, σ, H, cls, d, rfl, I, nb, up, sky, na, os, ag, w⟩ := x
  rw [hs] at sky
  have hcls : (X.env.scope.kind == .class || (X.env.scope.kind == .module && X.env.locals != X.env.globals)) = false := by rw [I.ok.kind]; rfl
  have land : ∀ {Q : Unit → Shared → Prop} {E : Value → Shared → Prop}, (∀ h1, HandSPX.HeldZ B (X.env :: X.outer) a (Zc cls d) X.env.locals h1 → s'.heap.UpToSlots h1 → Q () { s' with heap := h1 }) → wpAny (model X.prog X.w) A (noteFrame (.ref a) X.env) Q E s' := by
    intro Q E fin
    rcases sky with ⟨hB, hn, hl, oe, vs, he, hz, hd, h1⟩ | fl | hh
    · exact HandSPX.look_newZ Zc.steady hfr hl hf he hB hn hd h1 hz fin
    · exact HandSPX.looks_onZ Zc.steady hfr hf fl fin
    · exact HandSPX.againZ hf hh.2.2.2 (fin s'.heap hh (Heap.UpToSlots.refl _))
  refine land fun h1 hh up1 => ?_
  have up01 := up.trans up1
  obtain ⟨m, hn, hlk⟩ := id I.loc
  have hn1 := ns_up hn up01
  refine wpAny_nameGoes_keeps (s := { s' with heap := h1 }) hln hn1 hcls fun h' v hn' hsb => ?_
  obtain ⟨oL', esL, epL, hoL', hdL', rL⟩ := id hn'
  obtain ⟨oL, _, _, hoL, hdL, _⟩ := id hn
  obtain ⟨o1, _, _, ho1, hd1, _⟩ := id hn1
  have frz : oL'.isFreed = false := by
    cases hfz : oL'.isFreed with
    | false => rfl
    | true => exact absurd (Heap.get?_some_iff.mp hoL').2 (by rw [hfz]; decide)
  obtain ⟨G, eG⟩ : ∃ G : Heap, G = sI.heap.update X.env.locals (fun _ => oL') := ⟨_, rfl⟩
  have gL : G.get? X.env.locals = some oL' := by rw [eG]; exact Heap.get?_update_self (fun _ => oL') hoL frz
  have gO : ∀ b, b ≠ X.env.locals → G.get? b = sI.heap.get? b := fun b hb => by rw [eG]; exact Heap.get?_update_other _ _ (Ne.symm hb)
  have hsG : Heap.SameBut X.env.locals sI.heap G := by rw [eG]; exact Heap.SameBut.update _ _ _
  have hnG : G.Ns X.env.locals (fun x => if x = n then v else m x) := ⟨oL', esL, epL, gL, hdL', rL⟩
  have J := I.unset (t' := sI.toks) hN hi hlk ⟨_, hoL⟩ hnG hsG
  have upG : G.UpToSlots h' := fun b o e hnf => by
    by_cases hb : b = X.env.locals
    · subst hb
      rw [gL] at e
      cases e
      exact ⟨oL'.slots, hoL'⟩
    · rw [gO b hb] at e
      obtain ⟨sl, q⟩ := up01 b o e hnf
      exact ⟨sl, (hsb.2 b hb).trans q⟩
  obtain ⟨k1, k2, k3, oe, vs, T, oT, ts, he, hz, hd, hv1, hnT, hTe, hT, hdT, h3⟩ := hh
  have mL : X.env.locals ∈ frs (X.env :: X.outer) := List.mem_filterMap.mpr ⟨X.env, List.mem_cons_self, hf⟩
  have BL : B.get? X.env.locals = none := (k3.mem mL).1
  have neRec : ∀ {b : Addr} {o : Obj} {us : Array Value}, h1.get? b = some o → o.data = .fields us → b ≠ X.env.locals := fun {b o us} e dd z => by
    rw [z, ho1] at e
    cases e
    rw [hd1] at dd
    cases dd
  have aL := neRec he hd
  have TL := neRec hT hdT
  have ff : h'.FunFrames B (X.env :: X.outer) := by
    have q := J.stack
    rw [hs] at q
    exact funFrames_none (q.of_keeps fun b o e hnf => let ⟨sl, z⟩ := upG b o e hnf; ⟨_, z, rfl⟩) fun b hb => (k3.mem hb).1
  have kB : B.StaysIn h' := fun b o e => (hsb.2 b (fun z => by rw [z, BL] at e; cases e)).trans (k1 b o e)
  have he' := (hsb.2 a aL).trans he
  have tr : HandSPX.TracedZ h' B a (Zc cls d) (rawInt X.env.locals) := ⟨oe, vs, T, oT, ts, he', hz, hd, hv1, hnT, hTe, (hsb.2 T TL).trans hT, hdT, h3⟩
  have nbG : ∀ b o, G.get? b = some o → b ∉ frs X.stack → B.get? b = some o := fun b o e hb => by
    have nz : b ≠ X.env.locals := fun z => hb (by rw [hs, z]; exact mL)
    rw [gO b nz] at e
    exact nb b o e hb
  have nT : ∀ {T : Addr}, ¬ ((Value.ref T == Value.none) = true) := by simp
  -- what comes back to the frame
  have back : ∀ (h4 : Heap) (t4 : Nat), B.StaysIn h4 → h4.FunFrames B (X.env :: X.outer) → HandSPX.TracedZ h4 B a (Zc cls d) (rawInt X.env.locals) → h'.UpToSlots h4 →
      notedBy (model X.prog X.w) A X.env (cameBackBy (model X.prog X.w) X.A X.env X.xe) (.ref a) { s' with heap := h4, toks := t4 } := fun h4 t4 q1 q2 q3 q4 => by
    refine HandSPX.againZ hf q3 ?_
    obtain ⟨oe4, vs4, T4, oT4, ts4, he4, hz4, hd4, hv4, _⟩ := id q3
    show wpAny (model X.prog X.w) X.A (do
      if (← field (.ref a) 1) == .none then unsupported "frame.own-activation:exception-without-traceback"
      setFlight (.ref a) X.env.frame) (fun _ s'' => X.xe (.ref a) s'') X.xe _
    refine wpAny_bind (wpAny_field he4 hd4 hv4 ?_)
    rw [if_neg nT]
    have fin : wpAny (model X.prog X.w) X.A (setFlight (.ref a) X.env.frame) (fun _ s'' => X.xe (.ref a) s'') X.xe { s' with heap := h4, toks := t4 } := by
      rw [hf]
      refine HandSPX.setFlight_anyZ (fr := some X.env.locals) q1 q2 q3 fun h5 p1 p2 p3 p4 => tk _ _ ?_
      exact ⟨a, B, { sI with heap := G, toks := sI.toks }, pins, σ.set i none, H, cls, d, rfl, J, nbG, (upG.trans q4).trans p4, .inr (.inr (by rw [hs]; exact ⟨p1, k2, p2, p3⟩)), na, os, ag, hW _ _ _ _ w⟩
    first
      | exact fin
      | exact wpAny_bind (wpAny_pure fin)
  unfold PySem.passOn
  refine wpAny_bind (wpAny_field he' hd hv1 ?_)
  rw [if_neg nT]
  have fin : wpAny (model X.prog X.w) A (setFlight (.ref a) X.env.frame) (fun _ s4 => wpAny (model X.prog X.w) A (throw (.ref a) : Sem Flow) (fun _ _ => False) (notedBy (model X.prog X.w) A X.env (cameBackBy (model X.prog X.w) X.A X.env X.xe)) s4) (notedBy (model X.prog X.w) A X.env (cameBackBy (model X.prog X.w) X.A X.env X.xe)) { s' with heap := h', toks := s'.toks + 1 } := by
    rw [hf]
    exact HandSPX.setFlight_anyZ (fr := some X.env.locals) kB ff tr fun h4 q1 q2 q3 q4 => wpAny_throw (back h4 _ q1 q2 q3 q4)
  first
    | exact wpAny_bind fin
    | exact wpAny_bind (wpAny_pure (wpAny_bind fin))
end
/-- what is wished of an exception of the body -/
def wFrom (K : PySem.W.Frag) (c : Value) (i : Nat) (tmk : St → Hp → XK → Prop) (Wout : WX) : WX := fun cls d σ H => ∃ b, PySem.W.exmOne K cls c = some b ∧
  (b = true → PySem.W.subIn K cls (.type "BaseException") = some true ∧ ∀ a : Addr, H a = none → tmk (σ.set i (some (.ref a))) H fun cls' d' H' => Wout cls' d' (σ.set i none) H') ∧ (b = false → Wout cls d σ H)
def tTryF (K : PySem.W.Frag) (c : Value) (i : Nat) (tmk : St → Hp → XK → Prop) (Wout : WX) (tb : WX → TS) : TS := fun D σ H => tb (wFrom K c i tmk Wout) D σ H
theorem ps_try_from {X : Cx} {body : List Stmt} {x n : Str} {c : Value} {i : Nat} {e : Expr} {tmk : St → Hp → XK → Prop} {tb : WX → TS} {Wout : WX} {np p2 rp pos' pos : Pos} (hs : X.stack = X.env :: X.outer) (hf : X.env.frame = some X.env.locals) (hN : X.N.Nodup) (tk : Takes X Wout)
    (hi : X.N[i]? = some n) (hln : X.env.kindOf n = some .local) (hc : Names X x c) (hnd : (n == ("__debug__" : Str)) = false)
    (hb : ∀ (W : WX) (pn : List (Addr × Obj)) (xe : Value → Shared → Prop), L2N.Takes (X.tr pn xe) W → PassesOwn (model X.prog X.w) X.A X.env xe → PSs (X.tr pn xe) body (tb W))
    (hmk : ∀ (a : Addr) (pn : List (Addr × Obj)), PMkF (X.suite a pn) e tmk) :
    PS X (.Try body [.ExceptHandler (some (.Name x np)) (some n) [.Raise (some e) (some (.Name n p2)) rp] pos'] [] [] pos) (tTryF X.K c i tmk Wout tb) := by
  constructor
  intro pins s σ H D I h
  have ok := I.ok
  have hfr : X.A.frames = some (X.env :: X.outer) := by rw [ok.frames, hs]
  refine wpAny_Try_except (wpAny_mono ((hb (wFrom X.K c i tmk Wout) (X.pn ++ pins) _ ?_ PassesOwn.looking).run [] s σ H D (I.toTry _) h) (fun f s1 z => ?_) fun _ _ z => z)
  · rintro u s' ⟨a, B, sI, pins', σ', H', cls, d, rfl, J', nb, up, sky, na, os, ag, b, hb1, hyes, hno⟩
    have J : Inv X pins σ' H' sI := J'.ofTry ok
    have sky' : Sky B (X.env :: X.outer) a (L2N.Zn cls d) X.env.locals s'.heap := by
      rw [← hs]
      exact sky
    show wpAny (model X.prog X.w) X.A (noteFrame (.ref a) X.env) _ _ _
    refine L2N.Sky.land L2N.Zn.steady hfr hf sky' fun h3 fl3 up3 => ?_
    have g : Got X pins σ' H' B sI { s' with heap := h3 } a cls d := ⟨J, nb, L2H.flyingZ_imp (fun o z => z.zc) fl3, up.trans up3, na, os, ag⟩
    refine wpAny_handleBy_cons (codeAny_handlers_test (g.asked hf hc hb1 ?_)) (by intro q; cases q)
    cases b with
    | false => exact g.passes hs hf tk (hno rfl)
    | true =>
      obtain ⟨sub, yes⟩ := hyes rfl
      refine codeAny_handlers_suite_as ?_
      refine HandSPX.lands_againZ fl3 fun h4 fl4 up4 => ?_
      have J4 : Inv X pins σ' H' { s' with heap := h4 } := J.landed nb fl4.1 ((up.trans up3).trans up4) os ag
      obtain ⟨oe4, vs4, he4, hz4, hd4⟩ := fl4.there
      obtain ⟨nL, nF⟩ := g.apart hf
      have S4 := J4.suite he4 hd4 na nL nF
      refine store_ok (X := X.suite a ((a, oe4) :: (X.pn ++ pins))) (v := .ref a) S4 hN hi (.inl hln) rfl (fun s5 S5 => ?_) (.inr hln)
      have hiσ : i < σ'.length := by rw [J.len]; exact (List.getElem?_eq_some_iff.mp hi).1
      refine wpAny_execs_cons ?_
      show wpAny _ _ (do standAt rp; raiseStmt X.env (some (do let v ← eval e X.env; standAt rp; pure v)) (some (do let v ← eval (.Name n p2) X.env; standAt rp; pure v))) _ _ _
      refine wpAny_bind (wpAny_standAt (raise_made_from (x1 := a) (wpAny_bind (wpAny_mono (hmk a ((a, oe4) :: (X.pn ++ pins)) [] s5 _ H' _ S5 (yes a na)) (fun u s6 hu => wpAny_bind (wpAny_standAt (wpAny_pure ?_))) fun _ _ z => z.elim))))
      obtain ⟨eb, t1, sI6, H6, cls6, d6, rfl, J6, k6, hne, hb6, na6, os6, ag6, r6, q6⟩ := hu
      have P := J6.pin (a, oe4) (List.mem_append_left _ List.mem_cons_self)
      have ga : s6.heap.get? a = some oe4 := k6 _ _ P.1
      have nab : a ≠ eb := fun z => by
        have p1 : sI6.heap.get? a = some oe4 := P.1
        rw [z, hne] at p1
        cases p1
      obtain ⟨gb, qb⟩ := fromAt_at (x1 := a) hb6 rfl
      have K6 : X.K.In s6.heap := J6.kIn.keeps k6
      have kA : ∀ b o, sI6.heap.get? b = some o → (fromAt s6.heap eb a).get? b = some o := fun b o z => by
        have nz : eb ≠ b := fun y => by
          rw [← y, hne] at z
          cases z
        rw [fromAt_other nz]
        exact k6 b o z
      have LT : PySem.W.Looks (model X.prog X.w) s6.heap (typeOf (.ref a)) cls := fun A Q E s k q => wpAny_typeOf_ref (k _ _ ga) (by rw [hz4.1]; exact q)
      refine ⟨eb, _, _, cls6, rfl, hb6, rfl, rfl, rfl, (by show (4 : Nat) < 6; decide), nab, ⟨rfl, oe4, vs4, ga, hd4, hz4.2.2 vs4 hd4⟩, fun Q' q' => ?_, LT.andThen (PySem.W.looks_subIn K6 sub), (r6 _ _ K6).1, (r6 _ _ (J6.kIn.keeps kA)).2, ?_⟩
      · obtain ⟨m6, hn6, hlk6⟩ := J6.loc
        obtain ⟨u', r', lk⟩ := hlk6 i n (.ref a) hi (by rw [List.getElem?_set_self hiσ]) (.inl hln)
        cases r'
        rcases lk with ⟨_, e6⟩ | ⟨kk, _⟩
        · exact wpAny_bind (Rz.ldX (hn6.keeps k6) e6 (wpAny_bind (wpAny_standAt (wpAny_pure q'))) ok.kind hln hnd)
        · rcases kk with kk | kk
          · have kk' : X.env.kindOf n = some .cell := kk
            rw [hln] at kk'
            cases kk'
          · have kk' : X.env.kindOf n = some .free := kk
            rw [hln] at kk'
            cases kk'
      · have e7 := Heap.get?_update_self (Obj.mapFields (·.setIfInBounds 2 (Value.ref a))) gb (Obj.isFreed_of_fields (Obj.data_mapFields qb _))
        refine XE.unnamed (i := i) (W := fun cls' d' σ7 H7 => σ7 = σ'.set i (some (.ref a)) ∧ Wout cls' d' (σ'.set i none) H7) hs hf hfr hN hi hln ?_ (fun cls' d' σ7 H7 z => ?_) tk
        · refine XE.new (s' := { s6 with heap := (fromAt s6.heap eb a).update eb (Obj.mapFields (·.setIfInBounds 2 (.ref a))) }) (J6.unsuite ok) (fun b o z => ?_) hne e7 ⟨by rw [Obj.cls_mapFields, Obj.cls_mapFields, Obj.cls_mapFields], by rw [HandSPX.dict_mapFields, HandSPX.dict_mapFields, HandSPX.dict_mapFields]⟩ (Obj.data_mapFields qb _) (set_other (by decide) (set_other (by decide) (set_other (by decide) rfl))) na6 os6 ag6 ⟨rfl, q6⟩
          have nz : eb ≠ b := fun y => by
            rw [← y, hne] at z
            cases z
          show ((fromAt s6.heap eb a).update eb (Obj.mapFields (·.setIfInBounds 2 (.ref a)))).get? b = some o
          rw [Heap.get?_update_other _ _ nz]
          exact kA b o z
        · obtain ⟨e7, z⟩ := z
          rw [e7, List.set_set]
          exact z
  · have z' := z.ofTry ok
    cases f with
    | next => exact wpAny_execs_nil z'
    | brk => exact z'
    | cont => exact z'
    | ret u => exact z'
/-- promises over L2N.CX, passed on where any exception is taken -/
theorem Takes.toN {X : Cx} {W : WX} (t : Takes X W) : L2N.Takes X W := fun u s' ⟨a, B, sI, pins, σ, H, cls, d, e, I, nb, up, sky, na, os, ag, w⟩ =>
  t u s' ⟨a, B, sI, pins, σ, H, cls, d, e, I, nb, up, by
    rcases sky with ⟨hB, hn, hl, oe, vs, he, hz, r⟩ | fl | ⟨q1, q2, q3, q4⟩
    · exact .inl ⟨hB, hn, hl, oe, vs, he, hz.zc, r⟩
    · exact .inr (.inl (L2H.flyingZ_imp (fun o z => z.zc) fl))
    · exact .inr (.inr ⟨q1, q2, q3, L2H.tracedZ_imp (fun o z => z.zc) q4⟩), na, os, ag, w⟩
theorem passN {X : Cx} {W : WX} (tk : Takes X W) (σ : St) : PassesAt (L2N.CX X.prog X.w) X σ (WE W σ) := L2N.passAt tk.toN σ
end L2
namespace L2
open PySem PySem.Spec PyProof.Rows
theorem ps_raiseN {X : Cx} {W : WX} {e : Expr} {t : St → Hp → XK → Prop} {pos : Pos} (hc : X.calm = true) (tk : L2N.Takes X W) (he : PMkF X e t) : PS X (.Raise (some e) none pos) (tRaise t W) := L2N.ps_raise hc tk he.n
theorem passE0N {X : Cx} (σ : St) : PassesAt (L2N.CX X.prog X.w) X σ E0 := fun _ _ _ _ _ _ h => by
  obtain ⟨_, _, _, _, _, _, _, _, _, _, _, _, z⟩ := h
  exact z.elim
theorem passLN {X : Cx} : Passes (L2N.CX X.prog X.w) X E0 := fun _ _ _ _ _ _ _ h => by
  obtain ⟨_, _, _, _, _, _, _, _, _, _, _, _, z⟩ := h
  exact z.elim
theorem shut_CXN {P : Program} {w : World} : Shut (L2N.CX P w) := fun _ _ _ _ _ ⟨_, _, _, _, _, _, _, _, _, _, _, _, z⟩ => z
end L2

/-! dicts: what gen.py names for them -/
namespace L2
open PySem PySem.Spec PyProof.Rows
theorem Room.u1 {k : Nat} {A : Around} (r : Room k A) : A.units + 1 < cLine := by have := r.units; omega
theorem Room.u65 {k : Nat} {A : Around} (r : Room k A) : A.units + 65 < cLine := by have := r.un; omega
end L2

/-! A run that is known to go through whatever its sleeping generators would do leaves each of them as it sleeps: they may be replaced by ones that no run can wake, and back. -/
namespace Calm
open PySem
open Sem (wp)

def retF : Frame → Bool
  | .ret .. => true
  | _ => false
def noG (fs : List Frame) : Bool := fs.all retF
theorem noG_split : ∀ {fs : List Frame}, noG fs = true → splitAtGen fs = none
  | [], _ => rfl
  | .ret k h g l c p kp :: fs, h1 => by
    have h2 : noG fs = true := by
      simp only [noG, List.all_cons, Bool.and_eq_true] at h1
      exact h1.2
    show (splitAtGen fs).map _ = none
    rw [noG_split h2]; rfl
  | .gen .. :: fs, h1 => by simp [noG, retF] at h1
/-- it sleeps -/
def asleep : GenState → Bool
  | .suspended .. => true
  | _ => false
/-- a sleeper that no run can wake -/
def dull : GenState → GenState
  | .suspended _ l c p fs cl => .suspended (fun _ => .unsupported "") l c p fs cl
  | x => x
theorem dull_seen (x : GenState) : (dull x).seen = x.seen := by cases x <;> rfl
theorem dull_bare (x : GenState) : (dull x).bare = x.bare := by cases x <;> rfl
def plainG : GenState → Bool
  | .suspended _ _ _ _ fs _ => noG fs
  | _ => true
theorem no_run {M : Model} {Γ : Ctx} {p : Pos} {t : Sem PySem.Fin} {fs : List Frame} {s s' : Shared} {e : End} (h : Runs M Γ p t fs s e s') : ∀ w, t = .unsupported w → False := by
  induction h <;> intro w hw <;> first | (cases hw; done) | skip
  all_goals first
    | (rename_i ih _; exact ih w hw)
    | (rename_i ih; exact ih w hw)
    | skip
  all_goals (rename_i ih _ _; exact ih w hw)

/-- S: who sleeps -/
def un (S : Nat → Option GenState) (a : Shared) : Shared := { a with gens := a.gens.mapIdx fun i x => (S i).getD x }
structure Dulled (S : Nat → Option GenState) (a : Shared) : Prop where
  at_ : ∀ i x, S i = some x → asleep x = true ∧ a.gens[i]? = some (dull x)
  else_ : ∀ i x, S i = none → a.gens[i]? = some x → plainG x = true
section
variable {S : Nat → Option GenState} {a : Shared}
theorem un_size : (un S a).gens.size = a.gens.size := by simp [un]
theorem un_at {i : Nat} : (un S a).gens[i]? = (a.gens[i]?).map fun x => (S i).getD x := by
  show (a.gens.mapIdx _)[i]? = _
  rw [Array.getElem?_mapIdx]
theorem un_none {i : Nat} (h : S i = none) : (un S a).gens[i]? = a.gens[i]? := by
  rw [un_at, h]
  cases a.gens[i]? <;> rfl
theorem Dulled.woke (d : Dulled S a) {i : Nat} {x : GenState} (h : S i = some x) : (un S a).gens[i]? = some x := by
  rw [un_at, (d.at_ i x h).2, h]; rfl
theorem setGen_ne {s : Shared} {g i : Nat} {x : GenState} (h : i ≠ g) : (s.setGen g x).gens[i]? = s.gens[i]? := by
  show (s.gens.setIfInBounds g x)[i]? = _
  rw [Array.getElem?_setIfInBounds_ne (Ne.symm h)]
theorem setGen_eq {s : Shared} {g : Nat} {x : GenState} : (s.setGen g x).gens[g]? = if g < s.gens.size then some x else none := by
  show (s.gens.setIfInBounds g x)[g]? = _
  rw [Array.getElem?_setIfInBounds_self]
theorem gens_ext {s s' : Shared} (h1 : s.heap = s'.heap) (h2 : s.drawn = s'.drawn) (h3 : s.toks = s'.toks) (h4 : s.os = s'.os) (h : ∀ i : Nat, s.gens[i]? = s'.gens[i]?) : s = s' := by
  obtain ⟨_, g, _, _, _⟩ := s
  obtain ⟨_, g', _, _, _⟩ := s'
  cases h1; cases h2; cases h3; cases h4
  have : g = g' := Array.ext_getElem? h
  rw [this]
theorem un_set {g : Nat} {x : GenState} (h : S g = none) : un S (a.setGen g x) = (un S a).setGen g x := by
  refine gens_ext rfl rfl rfl rfl fun i => ?_
  by_cases hi : i = g
  · subst hi
    rw [un_none h, setGen_eq, setGen_eq, un_size]
  · rw [setGen_ne hi, un_at, setGen_ne hi, un_at]
theorem Dulled.lt (d : Dulled S a) {i : Nat} {x : GenState} (h : S i = some x) : i < a.gens.size := (Array.getElem?_eq_some_iff.mp (d.at_ i x h).2).1
theorem Dulled.top (d : Dulled S a) : S a.gens.size = none := by
  cases e : S a.gens.size with
  | none => rfl
  | some x => exact absurd (d.lt e) (Nat.lt_irrefl _)
theorem un_push (d : Dulled S a) {x : GenState} : un S { a with gens := a.gens.push x } = { un S a with gens := (un S a).gens.push x } := by
  refine gens_ext rfl rfl rfl rfl fun i => ?_
  rw [un_at]
  show Option.map _ (a.gens.push x)[i]? = ((un S a).gens.push x)[i]?
  by_cases hi : i = a.gens.size
  · subst hi
    rw [Array.getElem?_push_size, show a.gens.size = (un S a).gens.size from un_size.symm, Array.getElem?_push_size, un_size, d.top]
    rfl
  · rw [Array.getElem?_push, if_neg hi, Array.getElem?_push, if_neg (by rw [un_size]; exact hi), un_at]
theorem Dulled.set (d : Dulled S a) {g : Nat} {x : GenState} (h : S g = none) (hx : plainG x = true) : Dulled S (a.setGen g x) := by
  refine ⟨fun i y hy => ?_, fun i y hy e => ?_⟩
  · have hi : i ≠ g := fun e => by subst e; rw [h] at hy; cases hy
    rw [setGen_ne hi]
    exact d.at_ i y hy
  · by_cases hi : i = g
    · subst hi
      rw [setGen_eq] at e
      split at e
      · cases e; exact hx
      · cases e
    · rw [setGen_ne hi] at e
      exact d.else_ i y hy e
theorem Dulled.push (d : Dulled S a) {x : GenState} (hx : plainG x = true) : Dulled S { a with gens := a.gens.push x } := by
  refine ⟨fun i y hy => ⟨(d.at_ i y hy).1, ?_⟩, fun i y hy e => ?_⟩
  · show (a.gens.push x)[i]? = _
    rw [Array.getElem?_push, if_neg (Nat.ne_of_lt (d.lt hy))]
    exact (d.at_ i y hy).2
  · have e : (a.gens.push x)[i]? = some y := e
    rw [Array.getElem?_push] at e
    split at e
    · cases e; exact hx
    · exact d.else_ i y hy e
theorem Dulled.same {b : Shared} (d : Dulled S a) (e : b.gens = a.gens) : Dulled S b := ⟨fun i y hy => by rw [e]; exact d.at_ i y hy, fun i y hy q => d.else_ i y hy (by rw [← e]; exact q)⟩
/-- who is awake is not among them -/
theorem Dulled.awake (d : Dulled S a) {g : Nat} {x : GenState} (h : a.gens[g]? = some x) (hx : asleep x = false) : S g = none := by
  cases e : S g with
  | none => rfl
  | some y =>
    obtain ⟨q1, q2⟩ := d.at_ g y e
    rw [h] at q2
    cases q2
    cases y <;> simp_all [asleep, dull]
end
theorem Dulled.cases {S : Nat → Option GenState} {a : Shared} (d : Dulled S a) {g : Nat} {y : GenState} (h : a.gens[g]? = some y) : (S g = none ∧ plainG y = true) ∨ ∃ x, S g = some x ∧ asleep x = true ∧ y = dull x := by
  cases e : S g with
  | none => exact .inl ⟨rfl, d.else_ g y e h⟩
  | some x =>
    obtain ⟨q1, q2⟩ := d.at_ g x e
    rw [h] at q2
    cases q2
    exact .inr ⟨x, rfl, q1, rfl⟩
def endG : End → Bool
  | .susp _ _ _ _ _ _ fs => noG fs
  | _ => true
theorem endG_state (e : End) : plainG e.genState = endG e := by cases e <;> rfl
theorem noG_tail {F : Frame} {fs : List Frame} (h : noG (F :: fs) = true) : retF F = true ∧ noG fs = true := by
  simpa [noG, List.all_cons, Bool.and_eq_true] using h
theorem noG_app {fs gs : List Frame} (h : noG fs = true) (h' : noG gs = true) : noG (fs ++ gs) = true := by
  unfold noG at *
  rw [List.all_append, h, h']; rfl

theorem runs_un {S : Nat → Option GenState} {M : Model} {Γ : Ctx} {p : Pos} {t : Sem PySem.Fin} {fs : List Frame} {a b : Shared} {e : End} (h : Runs M Γ p t fs a e b) :
    noG fs = true → Dulled S a → Dulled S b ∧ endG e = true ∧ Runs M Γ p t fs (un S a) e (un S b) := by
  induction h with
  | done => exact fun _ d => ⟨d, rfl, .done⟩
  | raise => exact fun _ d => ⟨d, rfl, .raise⟩
  | again hq _ ih => intro hf d; obtain ⟨d1, g1, r1⟩ := ih hf d; exact ⟨d1, g1, .again hq r1⟩
  | rule _ ih => intro hf d; obtain ⟨d1, g1, r1⟩ := ih hf d; exact ⟨d1, g1, .rule r1⟩
  | «at» _ ih => intro hf d; obtain ⟨d1, g1, r1⟩ := ih hf d; exact ⟨d1, g1, .at r1⟩
  | load ho _ ih => intro hf d; obtain ⟨d1, g1, r1⟩ := ih hf d; exact ⟨d1, g1, .load ho r1⟩
  | update ho _ ih => intro hf d; obtain ⟨d1, g1, r1⟩ := ih hf (d.same rfl); exact ⟨d1, g1, .update ho r1⟩
  | loadIfAlive _ ih => intro hf d; obtain ⟨d1, g1, r1⟩ := ih hf d; exact ⟨d1, g1, .loadIfAlive r1⟩
  | point _ ih => intro hf d; obtain ⟨d1, g1, r1⟩ := ih hf d; exact ⟨d1, g1, .point r1⟩
  | alloc _ ih => intro hf d; obtain ⟨d1, g1, r1⟩ := ih hf (d.same rfl); exact ⟨d1, g1, .alloc r1⟩
  | fresh _ ih => intro hf d; obtain ⟨d1, g1, r1⟩ := ih hf (d.same rfl); exact ⟨d1, g1, .fresh r1⟩
  | ask _ ih => intro hf d; obtain ⟨d1, g1, r1⟩ := ih hf d; exact ⟨d1, g1, .ask r1⟩
  | choose hn _ ih => intro hf d; obtain ⟨d1, g1, r1⟩ := ih hf (d.same rfl); exact ⟨d1, g1, .choose hn r1⟩
  | os _ ih => intro hf d; obtain ⟨d1, g1, r1⟩ := ih hf (d.same rfl); exact ⟨d1, g1, .os r1⟩
  | handled _ ih => intro hf d; obtain ⟨d1, g1, r1⟩ := ih hf d; exact ⟨d1, g1, .handled r1⟩
  | genState hst _ ih =>
    intro hf d
    obtain ⟨d1, g1, r1⟩ := ih hf d
    refine ⟨d1, g1, ?_⟩
    rcases d.cases hst with ⟨n, _⟩ | ⟨x, e, _, rfl⟩
    · exact .genState (by rw [un_none n]; exact hst) r1
    · refine .genState (d.woke e) ?_
      rw [dull_seen] at r1
      exact r1
  | stack _ ih => intro hf d; obtain ⟨d1, g1, r1⟩ := ih hf d; exact ⟨d1, g1, .stack r1⟩
  | thread _ ih => intro hf d; obtain ⟨d1, g1, r1⟩ := ih hf d; exact ⟨d1, g1, .thread r1⟩
  | newGen _ ih =>
    intro hf d
    obtain ⟨d1, g1, r1⟩ := ih hf (d.push rfl)
    refine ⟨d1, g1, .newGen ?_⟩
    rw [un_push d] at r1
    rw [un_size]
    exact r1
  | call _ _ ih1 ih2 =>
    intro hf d
    obtain ⟨d1, _, r1⟩ := ih1 rfl d
    obtain ⟨d2, g2, r2⟩ := ih2 hf d1
    exact ⟨d2, g2, .call r1 r2⟩
  | callSusp _ ih =>
    intro hf d
    obtain ⟨d1, g1, r1⟩ := ih rfl d
    exact ⟨d1, noG_app g1 rfl, .callSusp r1⟩
  | yield => exact fun _ d => ⟨d, rfl, .yield⟩
  | resumeFresh hg _ hq _ ih1 ih2 =>
    intro hf d
    have n := d.awake hg rfl
    obtain ⟨d1, g1, r1⟩ := ih1 rfl (d.set n rfl)
    obtain ⟨d2, g2, r2⟩ := ih2 hf (d1.set n (by rw [endG_state]; exact g1))
    rw [un_set n] at r1 r2
    exact ⟨d2, g2, .resumeFresh (by rw [un_none n]; exact hg) r1 hq r2⟩
  | resumeSuspended hg hr hq _ ih1 ih2 =>
    intro hf d
    rcases d.cases hg with ⟨n, pg⟩ | ⟨x, e, q1, q2⟩
    · obtain ⟨d1, g1, r1⟩ := ih1 pg (d.set n rfl)
      obtain ⟨d2, g2, r2⟩ := ih2 hf (d1.set n (by rw [endG_state]; exact g1))
      rw [un_set n] at r1 r2
      exact ⟨d2, g2, .resumeSuspended (by rw [un_none n]; exact hg) r1 hq r2⟩
    · cases x with
      | suspended k l c p fs cl =>
        simp only [dull, GenState.suspended.injEq] at q2
        rw [q2.1] at hr
        exact (no_run hr _ rfl).elim
      | _ => cases q1
  | resumeJustStarted hg hv _ ih =>
    intro hf d
    obtain ⟨d1, g1, r1⟩ := ih hf d
    exact ⟨d1, g1, .resumeJustStarted (by rw [un_none (d.awake hg rfl)]; exact hg) hv r1⟩
  | resumeThrowFresh hg _ ih =>
    intro hf d
    have n := d.awake hg rfl
    obtain ⟨d1, g1, r1⟩ := ih hf (d.set n rfl)
    refine ⟨d1, g1, .resumeThrowFresh (by rw [un_none n]; exact hg) ?_⟩
    rw [un_set n] at r1; exact r1
  | resumeRunning hg _ ih =>
    intro hf d
    obtain ⟨d1, g1, r1⟩ := ih hf d
    exact ⟨d1, g1, .resumeRunning (by rw [un_none (d.awake hg rfl)]; exact hg) r1⟩
  | resumeFinished hg _ ih =>
    intro hf d
    obtain ⟨d1, g1, r1⟩ := ih hf d
    exact ⟨d1, g1, .resumeFinished (by rw [un_none (d.awake hg rfl)]; exact hg) r1⟩
  | segRet _ _ ih1 ih2 =>
    intro hf d
    obtain ⟨d1, _, r1⟩ := ih1 rfl d
    obtain ⟨d2, g2, r2⟩ := ih2 (noG_tail hf).2 d1
    exact ⟨d2, g2, .segRet r1 r2⟩
  | segGen _ _ ih1 ih2 => intro hf d; exact absurd (noG_tail hf).1 Bool.false_ne_true
  | segSuspOut hs _ ih =>
    intro hf d
    obtain ⟨d1, g1, r1⟩ := ih rfl d
    exact ⟨d1, noG_app g1 hf, .segSuspOut hs r1⟩
  | segSuspGen hs _ hq _ ih1 ih2 =>
    intro hf d
    rw [noG_split hf] at hs
    cases hs

theorem wakes_un {S : Nat → Option GenState} {M : Model} {Γ : Ctx} {p : Pos} {g : Nat} {r : Resume} {a b : Shared} {res : GenResult} (h : Wakes M Γ p g r a res b) (d : Dulled S a) : Dulled S b ∧ Wakes M Γ p g r (un S a) res (un S b) := by
  unfold Wakes at h
  split at h
  · exact h.elim
  · rename_i c hg
    have n := d.awake hg rfl
    have hg' : (un S a).gens[g]? = some (.fresh c) := by rw [un_none n]; exact hg
    unfold Wakes
    rw [hg']
    split at h
    · obtain ⟨e₁, s₁, hr, hq, he, rfl⟩ := h
      obtain ⟨d1, g1, r1⟩ := runs_un hr rfl (d.set n rfl)
      rw [un_set n] at r1
      exact ⟨d1.set n (by rw [endG_state]; exact g1), e₁, un S s₁, r1, hq, he, un_set n⟩
    · obtain ⟨rfl, rfl⟩ := h
      exact ⟨d, rfl, rfl⟩
    · obtain ⟨rfl, rfl⟩ := h
      exact ⟨d.set n rfl, rfl, un_set n⟩
  · rename_i k₀ l c₀ p₀ fs cl hg
    obtain ⟨e₁, s₁, hr, hq, he, rfl⟩ := h
    cases e : S g with
    | none =>
      obtain ⟨d1, g1, r1⟩ := runs_un hr (d.else_ g _ e hg) (d.set e rfl)
      rw [un_set e] at r1
      refine ⟨d1.set e (by rw [endG_state]; exact g1), ?_⟩
      unfold Wakes
      rw [un_none e, hg]
      exact ⟨e₁, un S s₁, r1, hq, he, un_set e⟩
    | some x =>
      obtain ⟨q1, q2⟩ := d.at_ g x e
      rw [hg] at q2
      cases x with
      | suspended k l c p fs cl =>
        simp only [dull, Option.some.injEq, GenState.suspended.injEq] at q2
        rw [q2.1] at hr
        exact (no_run hr _ rfl).elim
      | _ => cases q1
  · rename_i hg
    obtain ⟨rfl, rfl⟩ := h
    refine ⟨d, ?_⟩
    unfold Wakes
    rw [un_none (d.awake hg rfl), hg]
    exact ⟨rfl, rfl⟩
  · rename_i hg
    obtain ⟨rfl, rfl⟩ := h
    refine ⟨d, ?_⟩
    unfold Wakes
    rw [un_none (d.awake hg rfl), hg]
    exact ⟨rfl, rfl⟩

theorem wp_un {S : Nat → Option GenState} {α : Type} (M : Model) (Γ : Ctx) (t : Sem α) : ∀ (Q : α → Pos → Shared → Prop) (E : Value → Pos → Shared → Prop) (p : Pos) (a : Shared), Dulled S a → wp M Γ t Q E p a →
    wp M Γ t (fun x p' s' => ∃ b, Dulled S b ∧ s' = un S b ∧ Q x p' b) (fun x p' s' => ∃ b, Dulled S b ∧ s' = un S b ∧ E x p' b) p (un S a) := by
  induction t with
  | pure x => intro Q E p a d h; exact ⟨a, d, rfl, h⟩
  | raise x => intro Q E p a d h; exact ⟨a, d, rfl, h⟩
  | unsupported _ => intro Q E p a _ h; exact h
  | finish _ => intro Q E p a _ h; exact h
  | rule _ k ih => intro Q E p a d h; exact ih () Q E p a d h
  | «at» p' k ih => intro Q E p a d h; exact ih () Q E p' a d h
  | load x _ k ih => intro Q E p a d h; obtain ⟨o, ho, h⟩ := h; exact ⟨o, ho, ih o Q E p a d h⟩
  | update x _ f k ih => intro Q E p a d h; exact ⟨h.1, by refine ih () Q E p _ ?_ h.2; exact d.same rfl⟩
  | loadIfAlive x k ih => intro Q E p a d h; exact ih _ Q E p a d h
  | point _ k ih => intro Q E p a d h; exact ih () Q E p a d h
  | register _ _ => intro Q E p a _ h; exact h
  | alloc o k ih => intro Q E p a d h; refine ih _ Q E p { a with heap := a.heap.push o } ?_ h; exact d.same rfl
  | fresh k ih => intro Q E p a d h; refine ih _ Q E p { a with toks := a.toks + 1 } ?_ h; exact d.same rfl
  | ask k ih => intro Q E p a d h; exact ih _ Q E p a d h
  | choose src m k ih => intro Q E p a d h; exact ⟨h.1, by refine ih _ Q E p { a with drawn := a.drawn.bump src } ?_ h.2; exact d.same rfl⟩
  | os q _ k ih => intro Q E p a d h; refine ih _ Q E p { a with os := (Os.step a.os q).1 } ?_ h; exact d.same rfl
  | call c hd _ _ k ih =>
    intro Q E p a d h
    obtain ⟨r, s', hr, h⟩ := h
    obtain ⟨d1, _, r1⟩ := runs_un hr rfl d
    exact ⟨r, un S s', r1, ih r Q E p s' d1 h⟩
  | handled own k ih => intro Q E p a d h; exact ih _ Q E p a d h
  | genState g k ih =>
    intro Q E p a d h
    obtain ⟨st, hs, h⟩ := h
    cases e : S g with
    | none => exact ⟨st, by rw [un_none e]; exact hs, ih _ Q E p a d h⟩
    | some x =>
      have q := (d.at_ g x e).2
      rw [hs] at q
      cases q
      refine ⟨x, d.woke e, ?_⟩
      rw [dull_seen] at h
      exact ih _ Q E p a d h
  | newGen c k ih =>
    intro Q E p a d h
    have z := ih _ Q E p _ (d.push rfl) h
    rw [un_push d] at z
    show wp M Γ (k (un S a).gens.size) _ _ p _
    rw [un_size]
    exact z
  | resume g r _ k ih =>
    intro Q E p a d h
    obtain ⟨res, s', hw, h⟩ := h
    obtain ⟨d1, w1⟩ := wakes_un hw d
    exact ⟨res, un S s', w1, ih res Q E p s' d1 h⟩
  | yield _ _ _ _ => intro Q E p a _ h; exact h
  | stack k ih => intro Q E p a d h; exact ih _ Q E p a d h
  | fork _ _ => intro Q E p a _ h; exact h
  | thread k ih => intro Q E p a d h; exact ih _ Q E p a d h
  | await _ _ _ _ _ => intro Q E p a _ h; exact h

/-- all sleepers of a state -/
def slp (s : Shared) : Nat → Option GenState := fun i => match s.gens[i]? with
  | some x => if asleep x then some x else none
  | none => none
def dulled (s : Shared) : Shared := { s with gens := s.gens.map dull }
theorem slp_some {s : Shared} {i : Nat} {x : GenState} (h : slp s i = some x) : asleep x = true ∧ s.gens[i]? = some x := by
  unfold slp at h
  split at h
  · split at h
    · cases h; exact ⟨by assumption, by assumption⟩
    · cases h
  · cases h
theorem slp_at {s : Shared} {i : Nat} {x : GenState} (h : s.gens[i]? = some x) (hx : asleep x = true) : slp s i = some x := by
  unfold slp
  rw [h]
  simp [hx]
theorem dulled_at {s : Shared} {i : Nat} : (dulled s).gens[i]? = (s.gens[i]?).map dull := by
  show (s.gens.map dull)[i]? = _
  rw [Array.getElem?_map]
theorem dulled_ok (s : Shared) : Dulled (slp s) (dulled s) := by
  refine ⟨fun i x h => ?_, fun i x h e => ?_⟩
  · obtain ⟨h1, h2⟩ := slp_some h
    exact ⟨h1, by rw [dulled_at, h2]; rfl⟩
  · rw [dulled_at] at e
    cases q : s.gens[i]? with
    | none => rw [q] at e; cases e
    | some y =>
      rw [q] at e
      cases e
      cases y with
      | suspended => rw [slp_at q rfl] at h; cases h
      | _ => rfl
theorem un_dulled (s : Shared) : un (slp s) (dulled s) = s := by
  refine gens_ext rfl rfl rfl rfl fun i => ?_
  rw [un_at, dulled_at]
  cases q : s.gens[i]? with
  | none => rfl
  | some y =>
    show some ((slp s i).getD (dull y)) = some y
    cases y with
    | suspended => rw [slp_at q rfl]; rfl
    | _ =>
      have : slp s i = none := by unfold slp; rw [q]; rfl
      rw [this]; rfl
/-- what a run does that would go through with its sleepers dulled -/
theorem wpAny_calm {α : Type} {M : Model} {A : Around} {s : Shared} {t : Sem α} {Q Q' : α → Shared → Prop} {E E' : Value → Shared → Prop}
    (h : wpAny M A t Q' E' (dulled s))
    (hQ : ∀ x b G, Q' x b → (∀ (i : Nat) y, s.gens[i]? = some y → asleep y = true → G[i]? = some y) → (∀ (i : Nat) y, G[i]? = some y → (s.gens[i]? = some y) ∨ b.gens[i]? = some y) → Q x { b with gens := G })
    (hE : ∀ x b, ¬ E' x b) : wpAny M A t Q E s := by
  have z : wpAny M A t (fun x s' => ∃ b, Dulled (slp s) b ∧ s' = un (slp s) b ∧ Q' x b) (fun x s' => ∃ b, Dulled (slp s) b ∧ s' = un (slp s) b ∧ E' x b) s := by
    intro Γ p hΓ
    have q := wp_un M Γ t _ _ p (dulled s) (dulled_ok s) (h Γ p hΓ)
    rw [un_dulled] at q
    exact q
  refine wpAny_mono z (fun x s' hx => ?_) fun x s' hx => ?_
  · obtain ⟨b, d, rfl, q⟩ := hx
    refine hQ x b _ q (fun i y hy ha => d.woke (slp_at hy ha)) fun i y hy => ?_
    have hy : (un (slp s) b).gens[i]? = some y := hy
    cases e : slp s i with
    | none => rw [un_none e] at hy; exact .inr hy
    | some y' =>
      rw [d.woke e] at hy
      cases hy
      exact .inl (slp_some e).2
  · obtain ⟨b, _, _, q⟩ := hx
    exact (hE x b q).elim
end Calm

/-! A generator that is walked in turns: its context is based anew whenever it is woken. -/
namespace L2
open PySem PySem.Spec PyProof.Rows GenW

/-- the heap's first n objects -/
def cutH (n : Nat) (h : Heap) : Heap := { h with objs := h.objs.extract 0 n }
def cutSh (n : Nat) (s : Shared) : Shared := { s with heap := cutH n s.heap }
theorem cutH_size {n : Nat} {h : Heap} (hn : n ≤ h.objs.size) : (cutH n h).objs.size = n := by
  show (h.objs.extract 0 n).size = n
  rw [Array.size_extract]; omega
theorem cutH_at {n : Nat} {h : Heap} {b : Addr} (hb : b < n) : (cutH n h).get? b = h.get? b := by
  have e : (h.objs.extract 0 n)[b]? = h.objs[b]? := by
    rw [Array.getElem?_extract, Nat.zero_add, Nat.sub_zero]
    split
    · rfl
    · rename_i z
      rw [Array.getElem?_eq_none (Nat.le_of_not_lt fun q => z (Nat.lt_min.mpr ⟨hb, q⟩))]
  show (match (h.objs.extract 0 n)[b]? with | some ⟨_, _, .freed, _⟩ => none | o => o) = _
  rw [e]; rfl
theorem cutH_no {n : Nat} {h : Heap} {b : Addr} {o : Obj} (e : (cutH n h).get? b = some o) : b < n ∧ h.get? b = some o := by
  have hb : b < n := by
    refine Decidable.byContradiction fun z => ?_
    have e1 := Heap.lt_size e
    have e2 : (h.objs.extract 0 n).size ≤ n := by rw [Array.size_extract]; omega
    exact z (Nat.lt_of_lt_of_le e1 e2)
  exact ⟨hb, by rw [cutH_at hb] at e; exact e⟩

/-- who walks: X its context, pins what it wants kept, n the size of the heap at the generator's call (there the generator's frame stands), go at a: the generator's object -/
structure Host where
  X : Cx
  pins : List (Addr × Obj)
  n : Nat
  N : List Str
  qual : Str
  scope : Scope
  f : Addr
  cd : Value
  A : Around
  a : Addr
  go : Obj
/-- the walker's own frame, where it is younger than the call -/
def Host.own (B : Host) : List Addr := if B.X.env.locals < B.n then [] else [B.X.env.locals]
abbrev Host.env (B : Host) : Env := envOfC B.qual B.scope B.n B.f B.cd
abbrev Host.F (B : Host) (s : Shared) (H : Hp) : Cx := gcxOf B.X.prog B.X.w B.X.K B.X.mg B.X.base B.N B.qual B.scope B.f B.cd B.A B.X.stack s H E0 [(B.a, B.go)]
theorem Host.F_env (B : Host) {s : Shared} {H : Hp} (h : s.heap.objs.size = B.n) : (B.F s H).env = B.env := by
  show envOfC B.qual B.scope s.heap.objs.size B.f B.cd = _
  rw [h]
theorem Host.F_A (B : Host) {s : Shared} {H : Hp} (h : s.heap.objs.size = B.n) : (B.F s H).A = B.A.deeper B.env := by
  show B.A.deeper (envOfC B.qual B.scope s.heap.objs.size B.f B.cd) = _
  rw [h]
structure HostOk (B : Host) : Prop where
  s0 : B.X.s_0.heap.objs.size ≤ B.n
  cells : ∀ x c, B.X.env.cells.lookup x = some c → c < B.n
  pin : ∀ p ∈ B.X.pn ++ B.pins, p.1 < B.n
  frs : ∀ b ∈ frs B.X.stack, b < B.n
  loc : B.X.env.locals ≠ B.n ∧ B.X.env.locals ≠ B.a
  an : B.n < B.a
  goc : ∀ v, B.go.data ≠ .cell v
  kind : B.scope.kind = .function
  nocell : ∀ y ∈ B.scope.names, y.2 ≠ .cell ∧ y.2 ≠ .free
  frames : B.A.frames = some B.X.stack
  hd : B.A.handled = none
/-- what the generator's frame object tells -/
def LocOk (B : Host) (Lo : Obj) (σ : St) : Prop :=
  σ.length = B.N.length ∧ (∀ v, Lo.data ≠ .cell v) ∧ ∃ m, (∀ h : Heap, h.get? B.n = some Lo → h.Ns B.n m) ∧ ∀ (i : Nat) (x : Str) (v : V), B.N[i]? = some x → σ[i]? = some (some v) → Vis B.scope x → ∃ u, RelV v u ∧ B.env.kindOf x = some .local ∧ m x = some u
/-- what the walker keeps for the sleeping generator -/
abbrev Host.gp (B : Host) (Lo : Obj) (ip : List (Addr × Obj)) : List (Addr × Obj) := (B.a, B.go) :: (B.n, Lo) :: ip
/-- running: the walker's own state is c -/
def Host.Run (B : Host) (c : St) (ip : List (Addr × Obj)) (σ : St) (H : Hp) (s : Shared) : Prop :=
  (∀ p ∈ ip, p.1 ∉ B.own ∧ B.n < p.1) ∧ ∃ sr Hr, Inv B.X B.pins c Hr sr ∧ B.n ≤ sr.heap.objs.size ∧ sr.os = s.os ∧ Inv (B.F (cutSh B.n sr) Hr) (pinsAt B.own sr.heap ++ ip) σ H s
section
variable {B : Host}
theorem cells_nil {names : List (Str × NameKind)} (h : ∀ y ∈ names, y.2 ≠ .cell ∧ y.2 ≠ .free) : ∀ n : Nat, cellsFrom n names [] = [] := by
  induction names with
  | nil => intro n; rfl
  | cons y ys ih =>
    intro n
    have h1 := (h y List.mem_cons_self).1
    have h2 := ih fun z hz => h z (List.mem_cons_of_mem _ hz)
    obtain ⟨x, k⟩ := y
    unfold cellsFrom
    cases k <;> first | exact absurd rfl h1 | exact h2 n
theorem own_mem {b : Addr} (h : b ∈ B.own) : b = B.X.env.locals ∧ B.n ≤ b := by
  unfold Host.own at h
  split at h
  · cases h
  · rename_i hn
    have e := List.mem_singleton.mp h
    exact ⟨e, by rw [e]; exact Nat.le_of_not_lt hn⟩
theorem env_cells (h : HostOk B) : B.env.cells = [] := cells_nil h.nocell _
theorem names_kind {names : List (Str × NameKind)} (h : ∀ y ∈ names, y.2 ≠ .cell ∧ y.2 ≠ .free) (x : Str) : names.lookup x ≠ some .cell ∧ names.lookup x ≠ some .free :=
  ⟨fun e => (h _ (PySem.mem_of_lookup e)).1 rfl, fun e => (h _ (PySem.mem_of_lookup e)).2 rfl⟩
theorem own_lt (h : HostOk B) {b : Addr} (hb : b ∈ B.own) : B.n < b ∧ b ≠ B.a := by
  obtain ⟨e, hn⟩ := own_mem hb
  rw [e] at hn ⊢
  exact ⟨Nat.lt_of_le_of_ne hn (Ne.symm h.loc.1), h.loc.2⟩
theorem own_no {b : Addr} (hb : b ∉ B.own) (hn : B.n ≤ b) : b ≠ B.X.env.locals := by
  rintro rfl
  unfold Host.own at hb
  rw [if_neg (Nat.not_lt.mpr hn)] at hb
  exact hb (List.mem_singleton.mpr rfl)

/-- the walker wakes the generator -/
theorem Host.wake {c : St} {ip : List (Addr × Obj)} {σ : St} {H : Hp} {s : Shared} {Lo : Obj} (h : HostOk B) (I : Inv B.X (B.pins ++ B.gp Lo ip) c H s) (hl : LocOk B Lo σ) (hi : ∀ p ∈ ip, p.1 ∉ B.own ∧ B.n < p.1) : B.Run c ip σ H s := by
  have pn : ∀ p ∈ B.gp Lo ip, s.heap.get? p.1 = some p.2 ∧ H p.1 = none ∧ p.1 ≠ B.X.env.locals ∧ p.1 ∉ B.X.fs ∧ ∀ v, p.2.data ≠ .cell v := fun p hp => I.pin p (List.mem_append_right _ (List.mem_append_right _ hp))
  have pL := pn (B.n, Lo) (List.mem_cons_of_mem _ List.mem_cons_self)
  have pa := pn (B.a, B.go) List.mem_cons_self
  have nsz : B.n < s.heap.objs.size := Heap.lt_size pL.1
  have nsz' : B.n ≤ s.heap.objs.size := Nat.le_of_lt nsz
  have csz : (cutSh B.n s).heap.objs.size = B.n := cutH_size nsz'
  have I0 : Inv B.X B.pins c H s := I.pins_of fun p hp => I.pin p (List.mem_append_right _ (List.mem_append_left _ hp))
  have bsz : B.X.base.objs.size ≤ B.n := Nat.le_trans I.ok.bsz h.s0
  have bs : ∀ b o, B.X.base.get? b = some o → (cutH B.n s.heap).get? b = some o ∧ H b = none := fun b o e => by
    obtain ⟨e1, e2⟩ := I.bs b o e
    exact ⟨by rw [cutH_at (Nat.lt_of_lt_of_le (Heap.lt_size e) bsz)]; exact e1, e2⟩
  have fun1 : (cutH B.n s.heap).FunFrames B.X.base B.X.stack := by
    have all : ∀ l : List Env, (∀ b ∈ frs l, b < B.n) → s.heap.FunFrames B.X.base l → (cutH B.n s.heap).FunFrames B.X.base l := by
      intro l
      induction l with
      | nil => exact fun _ _ => trivial
      | cons e r ih =>
        rintro hf ⟨hk, ⟨L, o, q1, q2, q3, q4⟩, hr⟩
        refine ⟨hk, ⟨L, o, q1, q2, ?_, q4⟩, ih (fun b hb => hf b ?_) hr⟩
        · rw [cutH_at (hf L (List.mem_filterMap.mpr ⟨e, List.mem_cons_self, q1⟩))]; exact q3
        · obtain ⟨e', m, q⟩ := List.mem_filterMap.mp hb
          exact List.mem_filterMap.mpr ⟨e', List.mem_cons_of_mem _ m, q⟩
    exact all _ h.frs I.stack
  obtain ⟨hlen, hlc, m, hm, hv⟩ := hl
  have nofs : ∀ b, B.n ≤ b → b ∉ frs B.X.stack := fun b hb hm => Nat.lt_irrefl _ (Nat.lt_of_lt_of_le (h.frs b hm) hb)
  have hce : ∀ x c, B.env.cells.lookup x ≠ some c := fun x c e => by rw [env_cells h] at e; cases e
  refine ⟨hi, s, H, I0, nsz', rfl, ?_⟩
  have henv := B.F_env (H := H) csz
  have hA := B.F_A (H := H) csz
  have hex : (B.F (cutSh B.n s) H).ex = [] := rfl
  have cells0 : (B.F (cutSh B.n s) H).env.cells = [] := by rw [henv]; exact env_cells h
  refine ⟨⟨I.ok.mod, ?_, ?_, ?_, ?_, ?_, ?_, ?_, ?_, ?_, ?_, ?_, bs, ?_, ?_, ?_, fun1, ?_⟩, rfl, I.bare, ?_, ?_, ?_, ?_, ?_, ?_, I.hok, hlen⟩
  · rw [henv]; exact h.kind
  · rfl
  · rfl
  · rw [henv]; exact Nat.le_of_eq csz
  · intro x y c e; rw [cells0] at e; cases e
  · intro x hx
    rw [henv] at hx
    rcases hx with e | e
    · exact absurd e (names_kind h.nocell x).1
    · exact absurd e (names_kind h.nocell x).2
  · intro x c _ e; rw [cells0] at e; cases e
  · intro _; rw [hA]; exact h.hd
  · rw [hA]
    show (B.A.deeper B.env).frames = some (envOfC B.qual B.scope (cutSh B.n s).heap.objs.size B.f B.cd :: B.X.stack)
    rw [csz]
    exact Around.frames_deeper h.frames
  · exact .inr ⟨rfl, rfl⟩
  · intro b hb; cases hb
  · show B.X.base.objs.size ≤ (cutSh B.n s).heap.objs.size
    rw [csz]; exact bsz
  · intro b o _ hb; cases hb
  · intro b hb; cases hb
  · exact I.stkFree
  · refine ⟨fun b o e _ _ _ => (cutH_no e).2, fun b o e _ _ _ => ⟨o.slots, (cutH_no e).2⟩, fun _ _ _ q _ => q, fun b o e _ => ⟨o, (cutH_no e).2⟩, fun _ _ q => q, fun _ _ _ q => q, fun _ ps q => ⟨#[], by rw [show H _ = _ from q]; simp⟩⟩
  · rw [henv]
    refine ⟨m, hm _ pL.1, fun i x v e1 e2 e3 => ?_⟩
    obtain ⟨u, r, k, q⟩ := hv i x v e1 e2 e3
    exact ⟨u, r, .inl ⟨k, q⟩⟩
  · intro x c e; rw [cells0] at e; cases e
  · rw [henv]; exact pL.2.1
  · intro x c e; rw [cells0] at e; cases e
  · intro p hp
    rw [henv]
    have hp : p ∈ [(B.a, B.go)] ++ (pinsAt B.own s.heap ++ ip) := hp
    show s.heap.get? p.1 = some p.2 ∧ H p.1 = none ∧ p.1 ≠ B.n ∧ p.1 ∉ frs B.X.stack ∧ _
    rcases List.mem_append.mp hp with z | z
    · rw [List.mem_singleton.mp z]
      exact ⟨pa.1, pa.2.1, Nat.ne_of_gt h.an, nofs _ (Nat.le_of_lt h.an), h.goc⟩
    · rcases List.mem_append.mp z with z | z
      · obtain ⟨z1, z2⟩ := of_pinsAt z
        have lt := own_lt h z1
        obtain ⟨e, _⟩ := own_mem z1
        refine ⟨z2, by rw [e]; exact I.free, Nat.ne_of_gt lt.1, nofs _ (Nat.le_of_lt lt.1), fun v q => ?_⟩
        obtain ⟨m', ⟨o, es, ep, ho, hd, _⟩, _⟩ := I.loc
        rw [← e, z2] at ho
        cases ho
        rw [hd] at q; cases q
      · obtain ⟨q1, q2, q3, q4, q5⟩ := pn p (List.mem_cons_of_mem _ (List.mem_cons_of_mem _ z))
        refine ⟨q1, q2, Nat.ne_of_gt (hi p z).2, fun hm => ?_, q5⟩
        rcases List.mem_cons.mp (I.stkSub _ hm) with y | y
        · exact q3 y
        · exact q4 y

/-- the frame's object tells what the context's invariant tells -/
theorem LocOk.of {c : List (Addr × Obj)} {σ : St} {H H0 : Hp} {s s0 : Shared} (h : HostOk B) (hs : s0.heap.objs.size = B.n) (I : Inv (B.F s0 H0) c σ H s) : ∃ Lo, s.heap.get? B.n = some Lo ∧ LocOk B Lo σ := by
  obtain ⟨m, hn, hv⟩ := I.loc
  have henv := B.F_env (H := H0) hs
  rw [henv] at hn hv
  obtain ⟨o, es, ep, ho, hd, r⟩ := hn
  refine ⟨o, ho, I.len, (fun v q => by rw [hd] at q; cases q), m, fun h' e => ⟨o, es, ep, e, hd, r⟩, fun i x v e1 e2 e3 => ?_⟩
  obtain ⟨u, q1, q2⟩ := hv i x v e1 e2 e3
  refine ⟨u, q1, ?_⟩
  rcases q2 with q2 | ⟨_, c, e, _⟩
  · exact q2
  · rw [env_cells h] at e; cases e

/-- the generator hands its turn back -/
theorem Host.rest {c : St} {ip : List (Addr × Obj)} {σ : St} {H : Hp} {s : Shared} (h : HostOk B) (hr : B.Run c ip σ H s) : ∃ Lo, Inv B.X (B.pins ++ B.gp Lo ip) c H s ∧ LocOk B Lo σ := by
  obtain ⟨hi, sr, Hr, Ir, nsz, hos, I⟩ := hr
  have csz : (cutSh B.n sr).heap.objs.size = B.n := cutH_size nsz
  obtain ⟨Lo, hLo, lok⟩ := LocOk.of h csz I
  have henv := B.F_env (H := Hr) csz
  have hfree : H B.n = none := by
    have z := I.free
    rw [henv] at z
    exact z
  have own_at : ∀ b ∈ B.own, ∀ o, sr.heap.get? b = some o → s.heap.get? b = some o ∧ H b = none := fun b hb o e => by
    have z := I.pin (b, o) (List.mem_append_right _ (List.mem_append_left _ (mem_pinsAt hb e)))
    exact ⟨z.1, z.2.1⟩
  have base : Un (frs B.X.stack) [] Hr H (cutH B.n sr.heap) s.heap := I.base
  have ge : ∀ {b}, b ∉ (List.range' B.n (sr.heap.objs.size - B.n)).filter (fun b => !B.own.contains b) → ∀ o, sr.heap.get? b = some o → b < B.n ∨ b ∈ B.own := fun {b} hb o e => by
    by_cases hlt : b < B.n
    · exact .inl hlt
    · refine .inr ?_
      have e2 := Heap.lt_size e
      refine Decidable.byContradiction fun z => hb ?_
      refine List.mem_filter.mpr ⟨?_, by simpa using z⟩
      refine List.mem_range'_1.mpr ⟨Nat.le_of_not_lt hlt, ?_⟩
      rw [Nat.add_sub_cancel' nsz]
      exact e2
  have J : Inv B.X B.pins c H s := by
    refine Ir.call' (ch := (List.range' B.n (sr.heap.objs.size - B.n)).filter (fun b => !B.own.contains b)) hos.symm ⟨fun b o e n hf hx => ?_, fun b o e n hf hx => ?_, fun b o e n hx => ?_, fun b o e hx => ?_, base.tups, base.frzs, base.tbls⟩ I.hok I.bare fun b hb => ?_
    · rcases ge hx o e with z | z
      · exact base.keep b o (by rw [cutH_at z]; exact e) n hf (by simp)
      · exact (own_at b z o e).1
    · rcases ge hx o e with z | z
      · exact base.slot b o (by rw [cutH_at z]; exact e) n hf (by simp)
      · exact ⟨o.slots, (own_at b z o e).1⟩
    · rcases ge hx o e with z | z
      · exact base.free b o (by rw [cutH_at z]; exact e) n (by simp)
      · exact (own_at b z o e).2
    · rcases ge hx o e with z | z
      · exact base.there b o (by rw [cutH_at z]; exact e) (by simp)
      · exact ⟨o, (own_at b z o e).1⟩
    · obtain ⟨hb1, hb2⟩ := List.mem_filter.mp hb
      have hn : B.n ≤ b := (List.mem_range'_1.mp hb1).1
      have hb2 : b ∉ B.own := by simpa using hb2
      refine ⟨.inr (Nat.le_trans h.s0 hn), own_no hb2 hn, fun x c e z => ?_, fun p hp z => ?_⟩
      · have := h.cells x c e
        rw [z] at this
        exact Nat.lt_irrefl _ (Nat.lt_of_lt_of_le this hn)
      · have := h.pin p hp
        rw [z] at this
        exact Nat.lt_irrefl _ (Nat.lt_of_lt_of_le this hn)
  have nofs : ∀ b, b ∉ frs B.X.stack → b ∉ B.X.fs := fun b hb hm => by
    refine hb ?_
    rcases Ir.ok.stk with z | ⟨z, z2⟩
    · rw [z]; exact hm
    · rw [z]
      show b ∈ frs (B.X.env :: B.X.outer)
      unfold frs
      rw [List.filterMap_cons, z2]
      exact List.mem_cons_of_mem _ hm
  refine ⟨Lo, J.pins_of fun p hp => ?_, lok⟩
  rcases List.mem_append.mp hp with hp | hp
  · exact J.pin p (List.mem_append_right _ hp)
  · rcases List.mem_cons.mp hp with hp | hp
    · rw [hp]
      have z := I.pin (B.a, B.go) (List.mem_append_left _ (List.mem_singleton.mpr rfl))
      exact ⟨z.1, z.2.1, Ne.symm h.loc.2, nofs _ z.2.2.2.1, h.goc⟩
    · rcases List.mem_cons.mp hp with hp | hp
      · rw [hp]
        exact ⟨hLo, hfree, Ne.symm h.loc.1, nofs _ (fun hm => Nat.lt_irrefl _ (h.frs _ hm)), lok.2.1⟩
      · have z := I.pin p (List.mem_append_right _ (List.mem_append_right _ hp))
        obtain ⟨q1, q2, q3, q4, q5⟩ := z
        exact ⟨q1, q2, own_no (hi p hp).1 (Nat.le_of_lt (hi p hp).2), nofs _ q4, q5⟩

/-! ### the protocol -/
/-- what a generator's statement wants behind it: by the walker's state, the number of items so far -/
structure WEnds where
  nx : St → Nat → St → Hp → Prop
  rt : St → Nat → VK
  bk : St → Nat → St → Hp → Prop := fun _ _ _ _ => False
  ct : St → Nat → St → Hp → Prop := fun _ _ _ _ => False
/-- what the walker does with an item -/
abbrev WY := St → V → Hp → (St → Hp → Prop) → Prop
abbrev TGw := WY → WEnds → St → Nat → St → Hp → Prop
def WEnds.at (D : WEnds) (c : St) (k : Nat) : Ends := { nx := D.nx c k, rt := D.rt c k, bk := D.bk c k, ct := D.ct c k }
def Host.Y (B : Host) (Yc : WY) : Protocol := fun n s₀ v s kap =>
  ∃ c x H Lo ip kk, RelV x v ∧ Inv B.X (B.pins ++ B.gp Lo ip) c H s ∧ Yc c x H kk ∧ ∀ c' H' s', kk c' H' → Inv B.X (B.pins ++ B.gp Lo ip) c' H' s' → kap (.send .none) s' ∧ kap (.send (.int 0 0)) s'
def Host.R (B : Host) (Rc : St → Hp → Prop) : GenEnd := fun n s₀ r s =>
  ((r = .ok (.ret .none) ∨ r = .ok .next) ∧ ∃ c H Lo ip, Inv B.X (B.pins ++ B.gp Lo ip) c H s ∧ Rc c H) ∨ ∃ e, r = .error e ∧ False
def Host.P (B : Host) (ip : List (Addr × Obj)) (D : WEnds) (c : St) (k : Nat) (f : Flow) (s : Shared) : Prop :=
  match f with
  | .next => ∃ σ H, B.Run c ip σ H s ∧ D.nx c k σ H
  | .brk => ∃ σ H, B.Run c ip σ H s ∧ D.bk c k σ H
  | .cont => ∃ σ H, B.Run c ip σ H s ∧ D.ct c k σ H
  | .ret u => ∃ v σ H, B.Run c ip σ H s ∧ RelV v u ∧ D.rt c k v H
/-- where the generator's code stands -/
structure WC (B : Host) (c : Code) (fs : List Frame) (gd : Bool → Bool) : Prop where
  over : B.A.over c fs = B.A.deeper B.env
  split : splitAtGen fs = none
  guard : fs.any Frame.guarded = false
  gd : gd false = false
structure WK (B : Host) (Yc : WY) (Rc : St → Hp → Prop) (ip : List (Addr × Obj)) (c : Code) (fs : List Frame) (K : Flow → Sem PySem.Fin) (J : Value → Sem PySem.Fin) (D : WEnds) : Prop where
  ok : ∀ (n : Nat) (cs : St) (k : Nat) (s₀ s : Shared) (f : Flow), n + k = sizeLine → B.P ip D cs k f s → Seg (model B.X.prog B.X.w) B.A (B.R Rc) (B.Y Yc) n s₀ c (K f) fs s
  exc : ∀ (n : Nat) (s₀ s1 : Shared) (H1 : Hp) (e : Value) (s : Shared), s1.heap.objs.size = B.n → (B.F s1 H1).xe e s → Seg (model B.X.prog B.X.w) B.A (B.R Rc) (B.Y Yc) n s₀ c (J e) fs s
def GSw (B : Host) (st : Stmt) (t : TGw) : Prop := ∀ (Yc : WY) (Rc : St → Hp → Prop) (ip : List (Addr × Obj)) (n : Nat) (cs : St) (k : Nat) (s₀ : Shared) (c : Code) (fs : List Frame) (K : Flow → Sem PySem.Fin) (J : Value → Sem PySem.Fin) (gd : Bool → Bool) (lv : List Value → List Value) (s : Shared) (σ : St) (H : Hp) (D : WEnds),
  WC B c fs gd → n + k = sizeLine → WK B Yc Rc ip c fs K J D → B.Run cs ip σ H s → t Yc D cs k σ H → Seg (model B.X.prog B.X.w) B.A (B.R Rc) (B.Y Yc) n s₀ c ((exec st B.env).wrap K J gd lv) fs s
def GSsw (B : Host) (st : List Stmt) (t : TGw) : Prop := ∀ (Yc : WY) (Rc : St → Hp → Prop) (ip : List (Addr × Obj)) (n : Nat) (cs : St) (k : Nat) (s₀ : Shared) (c : Code) (fs : List Frame) (K : Flow → Sem PySem.Fin) (J : Value → Sem PySem.Fin) (gd : Bool → Bool) (lv : List Value → List Value) (s : Shared) (σ : St) (H : Hp) (D : WEnds),
  WC B c fs gd → n + k = sizeLine → WK B Yc Rc ip c fs K J D → B.Run cs ip σ H s → t Yc D cs k σ H → Seg (model B.X.prog B.X.w) B.A (B.R Rc) (B.Y Yc) n s₀ c ((execs st B.env).wrap K J gd lv) fs s
/-- under a context of the family -/
theorem Run.split {cs : St} {ip : List (Addr × Obj)} {σ : St} {H : Hp} {s : Shared} (hr : B.Run cs ip σ H s) : ∃ s1 H1 pins, s1.heap.objs.size = B.n ∧ (∀ p ∈ pins, p.1 ∈ B.own) ∧ Inv (B.F s1 H1) (pins ++ ip) σ H s ∧ (∀ b ∈ B.own, ∃ p ∈ pins, p.1 = b) ∧
    ∀ ip' σ' H' s', (∀ p ∈ ip', p.1 ∉ B.own ∧ B.n < p.1) → Inv (B.F s1 H1) (pins ++ ip') σ' H' s' → B.Run cs ip' σ' H' s' := by
  obtain ⟨hi, sr, Hr, Ir, nsz, hos, I⟩ := hr
  refine ⟨cutSh B.n sr, Hr, pinsAt B.own sr.heap, cutH_size nsz, fun p hp => (of_pinsAt hp).1, I, fun b hb => ?_, fun ip' σ' H' s' h' I' => ⟨h', sr, Hr, Ir, nsz, I'.os.symm, I'⟩⟩
  obtain ⟨e, _⟩ := own_mem hb
  obtain ⟨m, ⟨o, _, _, ho, _⟩, _⟩ := Ir.loc
  rw [← e] at ho
  exact ⟨(b, o), mem_pinsAt hb ho, rfl⟩
/-- a statement that hands out nothing -/
def tPlainW (t : TS) : TGw := fun _ D c k σ H => t (D.at c k) σ H
theorem Host.P_of {ip pins : List (Addr × Obj)} {D : WEnds} {cs : St} {k : Nat} {f : Flow} {s s1 : Shared} {H1 : Hp} (hb : ∀ σ' H' s', Inv (B.F s1 H1) (pins ++ ip) σ' H' s' → B.Run cs ip σ' H' s') (h : SP (B.F s1 H1) (pins ++ ip) (D.at cs k) f s) : B.P ip D cs k f s := by
  cases f with
  | next => obtain ⟨σ, H, I, q⟩ := h; exact ⟨σ, H, hb _ _ _ I, q⟩
  | brk => obtain ⟨σ, H, I, q⟩ := h; exact ⟨σ, H, hb _ _ _ I, q⟩
  | cont => obtain ⟨σ, H, I, q⟩ := h; exact ⟨σ, H, hb _ _ _ I, q⟩
  | ret u => obtain ⟨v, σ, H, I, r, q⟩ := h; exact ⟨v, σ, H, hb _ _ _ I, r, q⟩
theorem gw_ps {st : Stmt} {t : TS} (h : ∀ s H, s.heap.objs.size = B.n → PS (B.F s H) st t) : GSw B st (tPlainW t) := by
  intro Yc Rc ip n cs k s₀ c fs K J gd lv s σ H D g hn kk hr ht
  obtain ⟨s1, H1, pins, hs, _, I, _, back⟩ := Run.split hr
  have hi := hr.1
  refine seg_wrap ?_
  rw [g.over]
  have z := (h s1 H1 hs).run _ s σ H (D.at cs k) I ht
  rw [B.F_env hs, B.F_A hs] at z
  exact wpAny_mono z (fun f s' q => kk.ok n cs k s₀ s' f hn (Host.P_of (fun σ' H' s' I' => back ip σ' H' s' hi I') q)) fun x s' hx => kk.exc n s₀ s1 H1 x s' hs hx
def tW0 : TGw := fun _ D c k σ H => D.nx c k σ H
theorem gw_nil : GSsw B [] tW0 := by
  intro Yc Rc ip n cs k s₀ c fs K J gd lv s σ H D g hn kk hr ht
  exact seg_execs_nil (kk.ok n cs k s₀ s .next hn ⟨σ, H, hr, ht⟩)
def tWThen (t u : TGw) : TGw := fun Y D c k σ H => t Y { D with nx := fun c' k' σ' H' => u Y D c' k' σ' H' } c k σ H
theorem gw_cons {st : Stmt} {rest : List Stmt} {t u : TGw} (a : GSw B st t) (b : GSsw B rest u) : GSsw B (st :: rest) (tWThen t u) := by
  intro Yc Rc ip n cs k s₀ c fs K J gd lv s σ H D g hn kk hr ht
  refine seg_execs_cons ?_
  refine a Yc Rc ip n cs k s₀ c fs _ J gd lv s σ H { D with nx := fun c' k' σ' H' => u Yc D c' k' σ' H' } g hn ⟨fun n' cs' k' s₀' s' f hn' hs => ?_, kk.exc⟩ hr ht
  cases f with
  | next => obtain ⟨σ', H', I', q⟩ := hs; exact b Yc Rc ip n' cs' k' s₀' c fs K J gd lv s' σ' H' D g hn' kk I' q
  | brk => exact kk.ok n' cs' k' s₀' s' .brk hn' hs
  | cont => exact kk.ok n' cs' k' s₀' s' .cont hn' hs
  | ret u => exact kk.ok n' cs' k' s₀' s' (.ret u) hn' hs
def tWIf (tc : TT) (ta tb : TGw) : TGw := fun Y D c k σ H => tc σ H fun b H1 => if b = true then ta Y D c k σ H1 else tb Y D c k σ H1
theorem gw_if {e : Expr} {a b : List Stmt} {pos : Pos} {tc : TT} {ta tb : TGw} (hc : ∀ s H, s.heap.objs.size = B.n → PT (B.F s H) e tc) (ha : GSsw B a ta) (hb : GSsw B b tb) : GSw B (.If e a b pos) (tWIf tc ta tb) := by
  intro Yc Rc ip n cs k s₀ c fs K J gd lv s σ H D g hn kk hr ht
  obtain ⟨s1, H1, pins, hs, _, I, _, back⟩ := Run.split hr
  have hi := hr.1
  show Seg _ B.A _ _ n s₀ c (.at pos fun _ => ((isTrue e B.env (eval e B.env)) >>= fun b' => if b' = true then execs a B.env else execs b B.env).wrap K J gd lv) fs s
  refine seg_at ?_
  rw [Sem.bind_eq_wrap', Sem.wrap_wrap]
  refine seg_wrap ?_
  rw [g.over]
  have z := (hc s1 H1 hs).run _ s σ H _ I ht
  rw [B.F_env hs, B.F_A hs] at z
  refine wpAny_mono z ?_ fun x s' hx => kk.exc n s₀ s1 H1 x s' hs hx
  rintro b' s' ⟨H2, I2, q2⟩
  have r2 := back ip _ _ _ hi I2
  cases b' with
  | true => exact ha Yc Rc ip n cs k s₀ c fs K J gd lv s' σ H2 D g hn kk r2 (by simpa using q2)
  | false => exact hb Yc Rc ip n cs k s₀ c fs K J gd lv s' σ H2 D g hn kk r2 (by simpa using q2)
/-! ### yield -/
def tWYield (te : TE) : TGw := fun Y D c k σ H => k < sizeLine ∧ te σ H fun x H1 => Y c x H1 fun c' H2 => D.nx c' (k + 1) σ H2
theorem gw_yield {e : Expr} {yp pos : Pos} {te : TE} (h : HostOk B) (he : ∀ s H, s.heap.objs.size = B.n → PE (B.F s H) e te) (hco : B.env.scope.isCoroutine = false := by rfl) (hi : interactive B.env = false := by rfl) : GSw B (.Expr (.Yield (some e) yp) pos) (tWYield te) := by
  intro Yc Rc ip n cs k s₀ c fs K J gd lv s σ H D g hn kk hr ht
  obtain ⟨hlt, ht⟩ := ht
  obtain ⟨n, rfl⟩ : ∃ m, n = m + 1 := ⟨n - 1, by omega⟩
  obtain ⟨s1, H1, pins, hs, _, I, _, back⟩ := Run.split hr
  have hip := hr.1
  refine seg_Expr_Yield g.split g.gd g.guard ?_ hco hi
  rw [g.over]
  have z := (he s1 H1 hs).run _ s σ H _ I ht
  rw [B.F_env hs, B.F_A hs] at z
  refine wpAny_mono z (fun v s' hv => ?_) fun x s' hx => kk.exc _ s₀ s1 H1 x s' hs hx
  obtain ⟨x, H2, I2, rv, q⟩ := hv
  have r2 := back ip _ _ _ hip I2
  obtain ⟨Lo, J2, lok⟩ := Host.rest h r2
  intro kap hk
  refine ⟨cs, x, H2, Lo, ip, _, rv, J2, q, fun c' H' s'' hc I'' => ?_⟩
  have z := kk.ok n c' (k + 1) s'' s'' .next (by omega) ⟨σ, H', Host.wake h I'' lok hip, hc⟩
  exact ⟨hk .none s'' z, hk (.int 0 0) s'' z⟩
end
end L2

/-! for in a generator that is walked in turns. -/
namespace L2
open PySem PySem.Spec PyProof.Rows GenW
section
variable {B : Host}
def tWFor (wi : TI) (g : TG) (tb : TGw) : TGw := fun Y D c k σ H => wi σ H fun J H0 => ∃ W : Nat → Nat → St → Nat → St → Hp → Prop, (∃ m, W 0 m c k σ H0) ∧ ∀ i m c k σ H, W i m c k σ H →
  (J.stop i H ∧ D.nx c k σ H) ∨ (J.go i H ∧ ∃ N : St → Nat → St → Hp → Prop, (∀ c' k' σ' H', N c' k' σ' H' → ∃ m', m' < m ∧ W (i + 1) m' c' k' σ' H') ∧
    ∀ x H', J.yld i H x H' → g x σ H' fun σ1 H1 => tb Y { D with nx := N, ct := N, bk := D.nx } c k σ1 H1)
theorem WC.loop {c c' : Code} {fs : List Frame} {gd : Bool → Bool} {kk : Result → Sem PySem.Fin} {l kp : List Value} {p : Pos} (g : WC B c fs gd) (hw : c'.weight = 0) (hu : c'.cUnits = 0) :
    WC B c' (.ret kk none (gd false) l c p kp :: fs) id where
  over := (over_loop hw hu).trans g.over
  split := by
    show (splitAtGen fs).map _ = none
    rw [g.split]; rfl
  guard := by
    show (gd false || fs.any Frame.guarded) = false
    rw [g.gd, g.guard]; rfl
  gd := rfl
theorem Host.owns (B : Host) {s : Shared} {H : Hp} (h : s.heap.objs.size = B.n) : PassesOwn (model B.X.prog B.X.w) (B.A.deeper B.env) B.env (B.F s H).xe := by
  have z := owns_gcx (P := B.X.prog) (w := B.X.w) (K := B.X.K) (mg := B.X.mg) (base := B.X.base) (N := B.N) (qual := B.qual) (scope := B.scope) (f := B.f) (cd := B.cd) (A := B.A) (outer := B.X.stack) (s := s) (H := H) (E := E0) (pn := [(B.a, B.go)])
  have e1 := B.F_env (H := H) h
  have e2 := B.F_A (H := H) h
  rw [e1, e2] at z
  exact z
theorem seg_camew {Yc : WY} {Rc : St → Hp → Prop} {ip : List (Addr × Obj)} {c : Code} {fs : List Frame} {K : Flow → Sem PySem.Fin} {J : Value → Sem PySem.Fin} {gd : Bool → Bool} {lv : List Value → List Value} {D : WEnds} {n : Nat} {s₀ s s1 : Shared} {H1 : Hp} {e : Value}
    (g : WC B c fs gd) (k : WK B Yc Rc ip c fs K J D) (hs : s1.heap.objs.size = B.n) (h : cameBackBy (model B.X.prog B.X.w) (B.A.deeper B.env) B.env (B.F s1 H1).xe e s) :
    Seg (model B.X.prog B.X.w) B.A (B.R Rc) (B.Y Yc) n s₀ c (((Sem.raise e : Sem Flow).onRaise (cameBack B.env)).wrap K J gd lv) fs s := by
  show Seg _ _ _ _ _ _ _ (((cameBack B.env e).bind fun _ => (Sem.raise e : Sem Flow)).wrap K J gd lv) _ _
  rw [Sem.bind_eq_wrap, Sem.wrap_wrap]
  refine seg_wrap ?_
  rw [g.over]
  exact wpAny_mono h (fun _ s' hx => k.exc n s₀ s1 H1 e s' hs hx) fun x s' hx => k.exc n s₀ s1 H1 x s' hs hx
theorem gw_for {tg iter : Expr} {body : List Stmt} {wi : TI} {gt : TG} {tb : TGw} {pos : Pos} (hH : HostOk B) (hi : ∀ s H, s.heap.objs.size = B.n → PI (B.F s H) tg iter wi) (hg : ∀ s H, s.heap.objs.size = B.n → PG (B.F s H) tg gt) (hb : GSsw B body tb)
    (hs : ∀ x, foldedSetIterable iter B.env x = pure x := by intro _; rfl) : GSw B (.For tg iter body [] pos) (tWFor wi gt tb) := by
  intro Yc Rc ip n cs k s₀ c fs K J' gd lv s σ H D gc hn kk hr ht
  obtain ⟨sA, HA, pins, hsz, hpo, I, hpe, back⟩ := Run.split hr
  have hip := hr.1
  refine seg_For hs ?_
  rw [gc.over]
  have z := (hi sA HA hsz).run _ s σ H _ I ht
  rw [B.F_env hsz, B.F_A hsz] at z
  refine wpAny_mono z (fun v s1 h1 => ?_) fun x s' hx => kk.exc n s₀ sA HA x s' hsz hx
  refine wpAny_mono h1 (fun itv s2 h2 => ?_) fun x s' hx => kk.exc n s₀ sA HA x s' hsz hx
  obtain ⟨it, fp, tn, J, H2, rfl, I2, T, st2, f2, W, ⟨m0, w0⟩, turn⟩ := h2
  intro p
  have gl := fun (q : Result → Sem PySem.Fin) => gc.loop (kk := q) (c' := .forLoop tg (.ref it) body [] B.env) (l := lv []) (kp := []) (p := p) rfl rfl
  -- what is known of the iterator's objects for good
  have fpn : ∀ b ∈ fp, B.n < b ∧ b ∉ B.own ∧ b ≠ B.a ∧ b ∉ frs B.X.stack ∧ ∀ q ∈ ip, q.1 ≠ b := fun b hb => by
    obtain ⟨a0, a1, a2, a3, a4, a5⟩ := f2 b hb
    have a1 : b ≠ sA.heap.objs.size := a1
    have a3 : B.n ≤ b := by
      rcases a3 with a3 | a3
      · cases a3
      · have a3 : sA.heap.objs.size ≤ b := a3
        rw [hsz] at a3; exact a3
    rw [hsz] at a1
    refine ⟨Nat.lt_of_le_of_ne a3 (Ne.symm a1), fun ho => ?_, fun e => ?_, a2, fun q hq => ?_⟩
    · obtain ⟨q, hq, e⟩ := hpe b ho
      exact a5 q (List.mem_append_right _ (List.mem_append_left _ hq)) e
    · exact a5 (B.a, B.go) (List.mem_append_left _ (List.mem_singleton.mpr rfl)) e.symm
    · exact a5 q (List.mem_append_right _ (List.mem_append_right _ hq))
  have stat : ∀ {s1 : Shared} {H1 : Hp} {pn : List (Addr × Obj)} {H' : Hp}, s1.heap.objs.size = B.n → (∀ q ∈ pn, q.1 ∈ B.own) → (∀ b ∈ fp, H' b = none) → ∀ b ∈ fp, FpOk (B.F s1 H1) (pn ++ ip) H' b := fun {s1 H1 pn H'} h1 h2 h3 b hb => by
    obtain ⟨b1, b2, b3, b4, b5⟩ := fpn b hb
    have e := B.F_env (H := H1) h1
    refine ⟨h3 b hb, ?_, b4, .inr ?_, fun x c q => ?_, fun q hq => ?_⟩
    · rw [e]; exact Nat.ne_of_gt b1
    · show s1.heap.objs.size ≤ b
      rw [h1]; exact Nat.le_of_lt b1
    · rw [e, env_cells hH] at q; cases q
    · have hq : q ∈ [(B.a, B.go)] ++ (pn ++ ip) := hq
      rcases List.mem_append.mp hq with hq | hq
      · rw [List.mem_singleton.mp hq]; exact Ne.symm b3
      · rcases List.mem_append.mp hq with hq | hq
        · exact fun e => b2 (e ▸ h2 q hq)
        · exact b5 q hq
  have ee : ∀ (n : Nat) (s₀ s1 : Shared) (H1 : Hp) (x : Value) (s' : Shared), s1.heap.objs.size = B.n → (B.F s1 H1).xe x s' → Seg (model B.X.prog B.X.w) B.A (B.R Rc) (B.Y Yc) n s₀ (.forLoop tg (.ref it) body [] B.env) (errT B.env x)
      (.ret (fun r => ((match r with | .ok f => (.pure f : Sem Flow) | .error e => .raise e).onRaise (cameBack B.env)).wrap K J' gd lv) none (gd false) (lv []) c p [] :: fs) s' := fun n s₀ s1 H1 x s' h1 hx => by
    refine seg_wrap ?_
    rw [(gl _).over]
    refine wpAny_bind (wpAny_mono (B.owns h1 x s' hx) (fun _ s'' hcb => wpAny_theTreesLotGoes ?_) fun y s'' hcb => ?_)
    · exact seg_leaf (.error x) (seg_camew gc kk h1 hcb)
    · exact seg_leaf (.error y) (seg_camew gc kk h1 hcb)
  have loop : ∀ (m i n : Nat) (cs : St) (k : Nat) (s₀ s : Shared) (σ : St) (H : Hp), n + k = sizeLine → W i m cs k σ H → B.Run cs ip σ H s → tn i s.heap → (∀ b ∈ fp, H b = none) →
      Seg (model B.X.prog B.X.w) B.A (B.R Rc) (B.Y Yc) n s₀ (.forLoop tg (.ref it) body [] B.env) ((model B.X.prog B.X.w).den (.forLoop tg (.ref it) body [] B.env))
        (.ret (fun r => ((match r with | .ok f => (.pure f : Sem Flow) | .error e => .raise e).onRaise (cameBack B.env)).wrap K J' gd lv) none (gd false) (lv []) c p [] :: fs) s := by
    intro m
    induction m using Nat.strongRecOn with
    | ind m ih =>
      intro i n cs k s₀ s σ H hn w hr st fr
      refine seg_forLoop ?_
      rw [(gl _).over]
      obtain ⟨s1, H1, pn, h1, hpo1, I, hpe1, back1⟩ := Run.split hr
      have A1 := B.F_A (H := H1) h1
      have E1 := B.F_env (H := H1) h1
      rcases turn i m cs k σ H w with ⟨stop, qn⟩ | ⟨go, N, hN, step⟩
      · have z := T.done (B.F s1 H1) rfl rfl rfl rfl i _ s σ H (B.F s1 H1).xe I (stat h1 hpo1 fr) st stop
        rw [A1] at z
        refine wpAny_mono z (fun rr s4 h4 => ?_) fun x s' hx => ee n s₀ s1 H1 x s' h1 hx
        obtain ⟨rfl, I4⟩ := h4
        exact seg_leaf (.ok .next) (kk.ok n cs k s₀ s4 .next hn ⟨σ, H, back1 ip _ _ _ hip I4, qn⟩)
      · have z := T.item (B.F s1 H1) rfl rfl rfl rfl i _ s σ H (B.F s1 H1).xe I (stat h1 hpo1 fr) st go
        rw [A1] at z
        refine wpAny_mono z (fun rr s4 h4 => ?_) fun x s' hx => ee n s₀ s1 H1 x s' h1 hx
        obtain ⟨u, rfl, h4⟩ := h4
        refine wpAny_mono h4 (fun _ s5 h5 => ?_) fun x s' hx => ee n s₀ s1 H1 x s' h1 hx
        obtain ⟨x, H5, I5, r5, y5, st5, fr5⟩ := h5
        have I5' := I5.pinned (stat h1 hpo1 fr5) (T.obj _ _ st5)
        have z := (hg s1 H1 h1).run _ s5 σ H5 x u _ I5' r5 (step x H5 y5)
        rw [A1, E1] at z
        refine wpAny_mono z (fun _ s6 h6 => ?_) fun x s' hx => ee n s₀ s1 H1 x s' h1 hx
        obtain ⟨σ6, H6, I6, q6⟩ := h6
        have hip' : ∀ q ∈ ip ++ pinsAt fp s5.heap, q.1 ∉ B.own ∧ B.n < q.1 := fun q hq => by
          rcases List.mem_append.mp hq with y | y
          · exact hip q y
          · obtain ⟨b1, b2, _⟩ := fpn q.1 (of_pinsAt y).1
            exact ⟨b2, b1⟩
        have R6 : B.Run cs (ip ++ pinsAt fp s5.heap) σ6 H6 s6 := back1 _ _ _ _ hip' (by rw [← List.append_assoc]; exact I6)
        refine hb Yc Rc (ip ++ pinsAt fp s5.heap) n cs k s₀ _ _ _ _ id id s6 σ6 H6 { D with nx := N, ct := N, bk := D.nx } (gl _) hn ⟨fun n' cs' k' s₀' s7 f hn' hs => ?_, fun n' s₀' s1 H1 x s7 h1 hx => ee n' s₀' s1 H1 x s7 h1 hx⟩ R6 q6
        have less : ∀ {σ7 : St} {H7 : Hp}, B.Run cs' (ip ++ pinsAt fp s5.heap) σ7 H7 s7 → B.Run cs' ip σ7 H7 s7 := fun {σ7 H7} r7 => by
          obtain ⟨s1, H1, pn, h1, _, I, _, back1⟩ := Run.split r7
          exact back1 ip _ _ _ hip (Inv.unpinned (pl := pinsAt fp s5.heap) (by rw [List.append_assoc]; exact I))
        have pin7 : ∀ {σ7 : St} {H7 : Hp}, B.Run cs' (ip ++ pinsAt fp s5.heap) σ7 H7 s7 → ∀ b ∈ fp, ∀ o, s5.heap.get? b = some o → s7.heap.get? b = some o ∧ H7 b = none := fun {σ7 H7} r7 b hb o e => by
          obtain ⟨s1, H1, pn, h1, _, I, _, back1⟩ := Run.split r7
          have y := I.pin (b, o) (List.mem_append_right _ (List.mem_append_right _ (List.mem_append_right _ (mem_pinsAt hb e))))
          exact ⟨y.1, y.2.1⟩
        have again : ∀ {σ7 : St} {H7 : Hp}, B.Run cs' (ip ++ pinsAt fp s5.heap) σ7 H7 s7 → N cs' k' σ7 H7 → Seg (model B.X.prog B.X.w) B.A (B.R Rc) (B.Y Yc) n' s₀' (.forLoop tg (.ref it) body [] B.env) (.pure (.again (.forLoop tg (.ref it) body [] B.env)))
            (.ret (fun r => ((match r with | .ok f => (.pure f : Sem Flow) | .error e => .raise e).onRaise (cameBack B.env)).wrap K J' gd lv) none (gd false) (lv []) c p [] :: fs) s7 := by
          intro σ7 H7 r7 n7
          obtain ⟨m', hm, w7⟩ := hN cs' k' σ7 H7 n7
          refine seg_again rfl (ih m' hm (i + 1) n' cs' k' s₀' s7 σ7 H7 hn' w7 (less r7) (T.keep _ _ _ st5 fun b hb o e => (pin7 r7 b hb o e).1) fun b hb => ?_)
          obtain ⟨o, e, d⟩ := T.obj _ _ st5 b hb
          exact (pin7 r7 b hb o e).2
        cases f with
        | next => obtain ⟨σ7, H7, I7, n7⟩ := hs; exact again I7 n7
        | cont => obtain ⟨σ7, H7, I7, n7⟩ := hs; exact again I7 n7
        | brk => obtain ⟨σ7, H7, I7, q7⟩ := hs; exact seg_leaf (.ok .next) (kk.ok n' cs' k' s₀' s7 .next hn' ⟨σ7, H7, less I7, q7⟩)
        | ret v => obtain ⟨x7, σ7, H7, I7, r7, q7⟩ := hs; exact seg_leaf (.ok (.ret v)) (kk.ok n' cs' k' s₀' s7 (.ret v) hn' ⟨x7, σ7, H7, less I7, r7, q7⟩)
  have R2 := back ip _ _ _ hip I2
  exact loop m0 0 n cs k s₀ s2 σ H2 hn w0 R2 st2 fun b hb => (f2 b hb).1
end
end L2

/-! A generator def that is walked in turns: its promise, by its body. -/
namespace L2
open PySem PySem.Spec PyProof.Rows GenW
abbrev TStart := WY → (St → Hp → Prop) → St → Hp → Prop
/-- what the call gives: a generator that has not begun; whoever walks it gets its items -/
def GMadeW (P : Program) (w : World) (K : PySem.W.Frag) (mg : Str → Option Value) (base : Heap) (k : Nat) (outer : List Env) (s : Shared) (st : TStart) (u : Value) (s' : Shared) : Prop :=
  ∃ (a : Addr) (g : Nat) (c : Code) (go Lo : Obj), u = .ref a ∧ s.heap.objs.size < a ∧ a < s'.heap.objs.size ∧ s'.heap.get? a = some go ∧ (∀ h : Heap, h.get? a = some go → h.IsGen a g) ∧ s'.heap.get? s.heap.objs.size = some Lo ∧ (∀ v, go.data ≠ .cell v) ∧ (∀ v, Lo.data ≠ .cell v) ∧
    s'.gens[g]? = some (.fresh c) ∧ s'.os = s.os ∧ AllBare s'.gens ∧ (∀ b o, s.heap.get? b = some o → s'.heap.get? b = some o) ∧
    ∀ (X : Cx) (pins : List (Addr × Obj)) (A : Around), X.prog = P → X.w = w → X.K = K → X.mg = mg → X.base = base → X.stack = outer → X.s_0.heap.objs.size ≤ s.heap.objs.size → (∀ x c, X.env.cells.lookup x = some c → c < s.heap.objs.size) →
      (∀ p ∈ X.pn ++ pins, p.1 < s.heap.objs.size) → (∀ b ∈ frs X.stack, b < s.heap.objs.size) → X.env.locals ≠ s.heap.objs.size → X.env.locals ≠ a → A.frames = some outer → Room k A →
      ∃ N q sco f cd, HostOk ⟨X, pins, s.heap.objs.size, N, q, sco, f, cd, A, a, go⟩ ∧ ∀ (Yc : WY) (Rc : St → Hp → Prop) (cs : St) (H2 : Hp) (s2 : Shared), st Yc Rc cs H2 → Inv X (pins ++ (⟨X, pins, s.heap.objs.size, N, q, sco, f, cd, A, a, go⟩ : Host).gp Lo []) cs H2 s2 →
        Seg (model P w) A ((⟨X, pins, s.heap.objs.size, N, q, sco, f, cd, A, a, go⟩ : Host).R Rc) ((⟨X, pins, s.heap.objs.size, N, q, sco, f, cd, A, a, go⟩ : Host).Y Yc) sizeLine s2 c ((model P w).den c) [] s2
abbrev SpW := List V → TStart
structure GFw (P : Program) (w : World) (K : PySem.W.Frag) (mg : Str → Option Value) (base : Heap) (k : Nat) (f : Addr) (fd : FuncData) (ps : List Str) (sp : SpW) : Prop where
  run : ∀ (A : Around) (outer : List Env) (s : Shared) (H : Hp) (args : Args) (us : List Value) (vs : List V), Room k A → Env0 P w K mg base A outer s H → BindsTo s fd args (ps.zip us) → Vals vs us → vs.length = ps.length →
    codeAny (model P w) A (.call (.ref f) args) (fun r s' => match r with | .ok (.ret u) => GMadeW P w K mg base k outer s (sp vs) u s' | _ => False) s
abbrev Cx.re (X : Cx) (P : Program) (w : World) (K : PySem.W.Frag) (mg : Str → Option Value) (base : Heap) : Cx := { X with prog := P, w := w, K := K, mg := mg, base := base }
/-- a def's start, by the reading of its body -/
def spW (t : TGw) (N : List Str) : SpW := fun vs Y R c H => t Y { nx := fun c' _ _ H' => R c' H', rt := fun c' _ v H' => v = .non ∧ R c' H' } c 0 (start N vs) H
theorem gfw_of {P : Program} {w : World} {K : PySem.W.Frag} {mg : Str → Option Value} {base : Heap} {k : Nat} {f : Addr} {name qual : Str} {params : Arguments} {body : List Stmt} {scope : Scope} {dV kV doc pm cdv ct oc : Value} {an od : Option Addr}
    {osl : Array (Option Value)} {N ps : List Str} {t : TGw} (lk : K.lookup f = some ⟨oc, od, .func (PySem.W.fnOf name qual params body scope dV kV doc pm an cdv ct), osl⟩) (hcd : PySem.W.codeIn K cdv qual = true) (S : GScope N ps scope) (hno : ∀ y ∈ scope.names, y.2 ≠ .cell ∧ y.2 ≠ .free)
    (hbody : ∀ (X : Cx) (pins : List (Addr × Obj)) (n : Nat) (A : Around) (a : Addr) (go : Obj), HostOk ⟨X.re P w K mg base, pins, n, N, qual, scope, f, cdv, A, a, go⟩ → (∀ (s : Shared) (H : Hp), s.heap.objs.size = n → Room k ((⟨X.re P w K mg base, pins, n, N, qual, scope, f, cdv, A, a, go⟩ : Host).F s H).A) →
      GSsw ⟨X.re P w K mg base, pins, n, N, qual, scope, f, cdv, A, a, go⟩ body t) :
    GFw P w K mg base (k + 1) f (PySem.W.fnOf name qual params body scope dV kV doc pm an cdv ct) ps (spW t N) := by
  refine ⟨fun A outer s H args us vs hr e0 hb r hl => ?_⟩
  have KX : K.In s.heap := e0.mod.kin.keeps fun b o e => (e0.bs b o e).1
  have lim : s.heap.NoLimit := e0.mod.nolimit.keeps fun b o e => (e0.bs b o e).1
  have hkind : ∀ y ∈ ps.zip us, scope.names.lookup y.1 = some .local ∨ (scope.names.lookup y.1 = some .cell ∧ ((cellsFrom (s.heap.objs.size + 1) scope.names []).lookup y.1).isSome = true) := fun ⟨n, v⟩ hy => by
    rcases S.par n (List.of_mem_zip hy).1 with q | q
    · exact .inl q
    · exact .inr ⟨q, PySem.W.cellsFrom_some _ _ _ (.inl q)⟩
  refine codeAny_call_generator hr.depth (KX _ _ lk) rfl S.co S.gen rfl (PySem.W.codeRec_of KX hcd) (hb _ _ _ _ ?_)
  refine wpAny_newFunctionEnv_cells S.kind hkind fun env he s1 x => ?_
  subst he
  have lim1 : s1.heap.NoLimit := lim.keeps x.toInCall.keep
  refine ⟨lim1, ?_⟩
  obtain ⟨h1, tk, es1, hk1⟩ := x.done
  have os1 : s1.os = s.os := by rw [es1]
  have gen1 : s1.gens = s.gens := by rw [es1]
  have lt1 : s.heap.objs.size < s1.heap.objs.size := x.toInCall.ns.lt
  have kp1 : ∀ b o, s.heap.get? b = some o → s1.heap.get? b = some o := x.toInCall.keep
  have I1 : Inv (gcxOf P w K mg base N qual scope f cdv A outer s H E0 []) [] (start N vs) H s1 := inv_startG S hr.hd e0 hl r x
  have main : ∀ (go : Obj) (nm qn : Value) (tk2 : Nat), go.cls = .type "generator" → go.data = .fields #[.int s1.gens.size 0, nm, qn] → go.slots = #[] → (∀ h : Heap, (h.push go).get? h.objs.size = some go) →
      GMadeW P w K mg base (k + 1) outer s (spW t N vs) (.ref s1.heap.objs.size) { s1 with gens := s1.gens.push (.fresh (.func body (envOfC qual scope s.heap.objs.size f cdv))), toks := tk2, heap := s1.heap.push go } := by
    intro go nm qn tk2 hgc hgd0 hgs hgp
    have hgen : ∀ h : Heap, h.get? s1.heap.objs.size = some go → h.IsGen s1.heap.objs.size s1.gens.size := fun h e => ⟨go, nm, qn, e, hgc, hgd0, hgs⟩
    obtain ⟨m, hm, hv⟩ := I1.loc
    obtain ⟨Lo, es, ep, ho, hd, rs⟩ := hm
    have ho : s1.heap.get? s.heap.objs.size = some Lo := ho
    have hgd : ∀ v, go.data ≠ .cell v := fun v q => by rw [hgd0] at q; cases q
    have hLd : ∀ v, Lo.data ≠ .cell v := fun v q => by rw [hd] at q; cases q
    refine ⟨s1.heap.objs.size, s1.gens.size, _, go, Lo, rfl, lt1, ?_, hgp _, hgen, Heap.get?_push_of_some _ ho, hgd, hLd, Array.getElem?_push_size .., os1, AllBare.push (by rw [gen1]; exact e0.bare) rfl, fun b o e => Heap.get?_push_of_some _ (kp1 b o e), ?_⟩
    · show _ < (s1.heap.push _).objs.size
      rw [Heap.size_push]; exact Nat.lt_succ_self _
    intro X pins Aw hP hw hK hmg hba hst hs0 hce hpi hfr hl1 hl2 hAf hrw
    subst hP hw hK hmg hba hst
    have HB : HostOk ⟨X, pins, s.heap.objs.size, N, qual, scope, f, cdv, Aw, s1.heap.objs.size, go⟩ := ⟨hs0, hce, hpi, hfr, ⟨hl1, hl2⟩, lt1, hgd, S.kind, hno, hAf, hrw.hd⟩
    refine ⟨N, qual, scope, f, cdv, HB, fun Yc Rc cs H2 s2 hst2 I2 => ?_⟩
    have lok : LocOk ⟨X, pins, s.heap.objs.size, N, qual, scope, f, cdv, Aw, s1.heap.objs.size, go⟩ Lo (start N vs) := by
      refine ⟨I1.len, hLd, m, fun h' e => ⟨Lo, es, ep, e, hd, rs⟩, fun i y v e1 e2 e3 => ?_⟩
      obtain ⟨u, q1, q2⟩ := hv i y v e1 e2 e3
      refine ⟨u, q1, ?_⟩
      rcases q2 with q2 | ⟨_, c, e, _⟩
      · exact q2
      · have e : (cellsFrom (s.heap.objs.size + 1) scope.names []).lookup y = some c := e
        rw [cells_nil hno] at e; cases e
    have R2 := Host.wake HB I2 lok (fun p hp => by cases hp)
    refine seg_func ?_
    refine hbody X pins s.heap.objs.size Aw s1.heap.objs.size go HB (fun s' H' hs' => ?_) Yc Rc [] sizeLine cs 0 s2 _ [] _ _ id id s2 (start N vs) H2 _ ⟨over_func, rfl, rfl, rfl⟩ (Nat.add_zero _) ⟨fun n cs' k' s₀ s' fl hn hs => ?_, fun n s₀ s3 H3 e s' h3 hx => ?_⟩ R2 hst2
    · rw [Host.F_A _ hs']
      exact hrw.deeper _
    · have fin : ∀ {σ' : St} {H' : Hp} {fl' : Flow}, (⟨X, pins, s.heap.objs.size, N, qual, scope, f, cdv, Aw, s1.heap.objs.size, go⟩ : Host).Run cs' [] σ' H' s' → Rc cs' H' → (⟨X, pins, s.heap.objs.size, N, qual, scope, f, cdv, Aw, s1.heap.objs.size, go⟩ : Host).R Rc n s₀ (.ok (.ret .none)) s' := fun {σ' H' fl'} r' q => by
        obtain ⟨Lo', J, _⟩ := Host.rest HB r'
        exact .inl ⟨.inl rfl, cs', H', Lo', [], J, q⟩
      cases fl with
      | next =>
        obtain ⟨σ', H', hI, hQ⟩ := hs
        exact seg_end (.ok (.ret .none)) (fin (fl' := .next) hI hQ)
      | brk => obtain ⟨_, _, _, q⟩ := hs; exact False.elim q
      | cont => obtain ⟨_, _, _, q⟩ := hs; exact False.elim q
      | ret u =>
        obtain ⟨v, σ', H', hI, rv, ev, hQ⟩ := hs
        subst ev
        have eu : u = Value.none := rv
        subst eu
        exact seg_end (.ok (.ret .none)) (fin (fl' := .next) hI hQ)
    · refine seg_wrap ?_
      rw [over_func]
      have hx : wpAny (model X.prog X.w) (Aw.deeper (envOfC qual scope s3.heap.objs.size f cdv)) (leaving (envOfC qual scope s3.heap.objs.size f cdv) e) (fun _ s'' => CX X.prog X.w X.stack H3 s3 E0 e s'' ∧ ∀ p ∈ [(s1.heap.objs.size, go)], s''.heap.get? p.1 = some p.2) (fun _ _ => False) s' := hx
      rw [show s3.heap.objs.size = s.heap.objs.size from h3] at hx
      refine wpAny_mono hx (fun _ s'' q => ?_) fun _ s'' q => q.elim
      obtain ⟨⟨_, _, _, _, _, _, _, _, _, _, _, _, z⟩, _⟩ := q
      exact False.elim z
  exact main _ _ _ _ rfl rfl rfl fun h => Heap.get?_push_size _ rfl
end L2

/-! Who walks a generator in turns: for statements and list comprehensions. -/
namespace L2
open PySem PySem.Spec PyProof.Rows GenW Calm
theorem Inv.gensTo {X : Cx} {pins : List (Addr × Obj)} {σ : St} {H : Hp} {s : Shared} {G : Array GenState} (I : Inv X pins σ H s) (h : AllBare G) : Inv X pins σ H { s with gens := G } :=
  ⟨I.ok, I.os, h, I.base, I.loc, I.cell, I.free, I.freeC, I.pin, I.hok, I.len⟩
/-- a step that does not touch who sleeps at g -/
def Sleeps (g : Nat) (gs : GenState) (s : Shared) : Prop := asleep gs = true → s.gens[g]? = some gs
theorem bare_mem {G : Array GenState} (h : AllBare G) {i : Nat} {x : GenState} (e : G[i]? = some x) : x.bare = true := h x (Array.mem_of_getElem? e)
theorem bare_of {G : Array GenState} (h : ∀ (i : Nat) x, G[i]? = some x → x.bare = true) : AllBare G := fun x hx => by
  obtain ⟨i, hi, e⟩ := Array.mem_iff_getElem.mp hx
  exact h i x (by rw [Array.getElem?_eq_getElem hi, e])
theorem dulled_bare {s : Shared} (h : AllBare s.gens) : AllBare (dulled s).gens := bare_of fun i x e => by
  rw [dulled_at] at e
  cases q : s.gens[i]? with
  | none => rw [q] at e; cases e
  | some y => rw [q] at e; cases e; rw [dull_bare]; exact bare_mem h q
theorem calm_step {α : Type} {M : Model} {A : Around} {s : Shared} {t : Sem α} {Q Q' : α → Shared → Prop} {E : Value → Shared → Prop} {g : Nat} {gs : GenState} (hb : AllBare s.gens) (hs : Sleeps g gs s)
    (h : wpAny M A t Q' (fun _ _ => False) (dulled s)) (hQ : ∀ x (b : Shared) (G : Array GenState), Q' x b → (AllBare b.gens → AllBare G) → Sleeps g gs { b with gens := G } → Q x { b with gens := G }) : wpAny M A t Q E s := by
  refine wpAny_calm h (fun x b G hx h1 h2 => hQ x b G hx (fun hb' => bare_of fun i y e => ?_) fun ha => h1 g gs (hs ha) ha) fun _ _ z => z
  rcases h2 i y e with q | q
  · exact bare_mem hb q
  · exact bare_mem hb' q
section
variable {B : Host}
def Host.Go (B : Host) (Yc : WY) (Rc : St → Hp → Prop) (g n : Nat) (s : Shared) : Prop :=
  s.heap.IsGen B.a g ∧ s.heap.NoLimit ∧ AllBare s.gens ∧ ∃ gs, s.gens[g]? = some gs ∧ gs.Goes (model B.X.prog B.X.w) B.A (B.R Rc) (B.Y Yc) n (.send .none) (s.setGen g .running)
theorem Host.turn {Yc : WY} {Rc : St → Hp → Prop} {g n : Nat} {s : Shared} {A : Around} {Q : Option Value → Shared → Prop} {E : Value → Shared → Prop} (hA : B.A = A.in1) (hh : A.handled = none) (hd : A.depth < recursionLimit)
    (hgen : ∀ h : Heap, h.get? B.a = some B.go → h.IsGen B.a g) (h : B.Go Yc Rc g n s)
    (hdone : ∀ c H Lo ip s', Inv B.X (B.pins ++ B.gp Lo ip) c H s' → Rc c H → Q none s')
    (hitem : ∀ c x v H Lo ip kk s' gs', RelV x v → Inv B.X (B.pins ++ B.gp Lo ip) c H s' → Yc c x H kk → s'.gens[g]? = some gs' →
      (∀ c' H' s'', kk c' H' → Inv B.X (B.pins ++ B.gp Lo ip) c' H' s'' → Sleeps g gs' s'' → ∃ m, m < n ∧ B.Go Yc Rc g m s'') → Q (some v) s') :
    wpAny (model B.X.prog B.X.w) A (pyNext (.ref B.a)) Q E s := by
  obtain ⟨hg, hl, hb, gs, hgs, hgo⟩ := h
  rw [hA] at hgo
  have hgl : g < s.gens.size := (Array.getElem?_eq_some_iff.mp hgs).1
  refine wpAny_gsz (n := g + 1) hgl (next_genG (A := A) hh hl hd hg hgs (F := fun _ _ s₁ => ∃ c H Lo ip, Inv B.X (B.pins ++ B.gp Lo ip) c H s₁ ∧ Rc c H) (Er := fun _ _ => False) (Y := B.Y Yc) hgo (fun v s₁ gs' hbare hv => ?_) (fun s₁ hp h' hk => ?_) fun e s₁ he => he.elim)
  · intro hsz
    obtain ⟨c, x, H, Lo, ip, kk, rv, I, hy, hk⟩ := hv
    have hsz' : g < s₁.gens.size := by
      have e : (s₁.setGen g gs').gens.size = s₁.gens.size := setGen_size s₁ g gs'
      omega
    refine hitem c x v H Lo ip kk _ gs' rv (I.gensTo (allBare_setGen I.bare hbare)) hy (L2.setGen_at hsz') fun c' H' s'' hc I'' hsl => ?_
    have I3 : Inv B.X (B.pins ++ B.gp Lo ip) c' H' (s''.setGen g .running) := I''.gensTo (allBare_setGen I''.bare rfl)
    obtain ⟨k1, k2⟩ := hk c' H' _ hc I3
    cases n with
    | zero => exact k1.elim
    | succ m =>
      have ha : asleep gs' = true := by
        cases gs' with
        | suspended => rfl
        | fresh c => exact absurd k2.1 (by intro z; cases z)
        | running => exact k2.elim
        | finished => exact k2.elim
      have hpin := (I''.pin (B.a, B.go) (List.mem_append_right _ (List.mem_append_right _ List.mem_cons_self))).1
      refine ⟨m, Nat.lt_succ_self m, hgen _ hpin, I''.nolimit, I''.bare, gs', hsl ha, ?_⟩
      rw [hA]
      exact k1
  · intro _
    obtain ⟨c, H, Lo, ip, I, q⟩ := hp
    have I2 := I.kept (t' := s₁.toks) hk
    exact hdone c H Lo ip _ ((I2.gensTo (G := (s₁.setGen g .finished).gens) (allBare_setGen I.bare rfl))) q
theorem Host.turnX {X : Cx} {pins : List (Addr × Obj)} {Yc : WY} {Rc : St → Hp → Prop} {g n : Nat} {s : Shared} {A : Around} {Q : Option Value → Shared → Prop} {E : Value → Shared → Prop} (eX : B.X = X) (ep : B.pins = pins) (hA : B.A = A.in1) (hh : A.handled = none) (hd : A.depth < recursionLimit)
    (hgen : ∀ h : Heap, h.get? B.a = some B.go → h.IsGen B.a g) (h : B.Go Yc Rc g n s)
    (hdone : ∀ c H Lo ip s', Inv X (pins ++ B.gp Lo ip) c H s' → Rc c H → Q none s')
    (hitem : ∀ c x v H Lo ip kk s' gs', RelV x v → Inv X (pins ++ B.gp Lo ip) c H s' → Yc c x H kk → s'.gens[g]? = some gs' →
      (∀ c' H' s'', kk c' H' → Inv X (pins ++ B.gp Lo ip) c' H' s'' → Sleeps g gs' s'' → ∃ m, m < n ∧ B.Go Yc Rc g m s'') → Q (some v) s') :
    wpAny (model X.prog X.w) A (pyNext (.ref B.a)) Q E s := by
  subst eX ep
  exact Host.turn hA hh hd hgen h hdone hitem
end
/-! ### the generator's expression -/
abbrev TGwe := St → Hp → (TStart → Hp → Prop) → Prop
structure PGw (X : Cx) (k : Nat) (e : Expr) (tg : TGwe) : Prop where
  run : ∀ (pins : List (Addr × Obj)) (s : Shared) (σ : St) (H : Hp) (cont : TStart → Hp → Prop), Inv X pins σ H s → tg σ H cont → wpAny (model X.prog X.w) X.A (eval e X.env)
    (fun u s' => ∃ H1 sc st, Inv X pins σ H1 sc ∧ GMadeW X.prog X.w X.K X.mg X.base k X.stack sc st u s' ∧ cont st H1) X.xe s
section
variable {X : Cx} {k : Nat} {f C : Addr} {fd : FuncData} {ps : List Str} {sp : SpW} {x m : Str} {p pos pos' apos : Pos} {o : Expr} {ta : TE}
theorem run_gfw {pins : List (Addr × Obj)} {σ : St} {H : Hp} {s : Shared} {us : List Value} {vs : List V} {cont : TStart → Hp → Prop} {E1 : Value → Shared → Prop} (F : GFw X.prog X.w X.K X.mg X.base k f fd ps sp) (hr : Room k X.A) (hb : Binds X.K fd ps [])
    (I : Inv X pins σ H s) (r : Vals vs us) (hl : vs.length = ps.length) (h : cont (sp vs) H) :
    wpAny (model X.prog X.w) X.A (call (.ref f) us) (fun u s' => ∃ H1 sc st, Inv X pins σ H1 sc ∧ GMadeW X.prog X.w X.K X.mg X.base k X.stack sc st u s' ∧ cont st H1) E1 s := by
  have hl2 : (us ++ ([] : List Value)).length = ps.length := by rw [List.append_nil, ← r.length]; exact hl
  refine wpAny_call (codeAny_mono (F.run X.A X.stack s H ⟨us, []⟩ (us ++ []) vs hr I.env0 (hb s us I.kIn hl2) (by rw [List.append_nil]; exact r) hl) fun r s' hq => ?_)
  cases r with
  | error e => exact False.elim hq
  | ok fl =>
    cases fl with
    | ret u => exact ⟨H, s, _, I, hq, h⟩
    | next => exact False.elim hq
    | brk => exact False.elim hq
    | cont => exact False.elim hq
def tMethW (C : Addr) (m : Str) (sp : SpW) (n : Nat) (ta : TE) (t : TA) : TGwe := fun σ H cont => ta σ H fun x H1 => ∃ a dx fs, x = .ref a ∧ H1 a = some (.ins C dx fs) ∧ fs.lookup m = none ∧
  t σ H1 fun vs H2 => vs.length + 1 = n ∧ cont (sp (x :: vs)) H2
theorem pgw_meth0 {n : Nat} {pl : Sem Bool} (he : PE X o ta) (c : Cls X.K C) (hm : Meth X.K C m f) (F : GFw X.prog X.w X.K X.mg X.base k f fd ps sp) (hr : Room k X.A) (hb : Binds X.K fd ps []) (hn : ps.length = n)
    (ht : eval (.Call (.Attribute o m apos) [] [] pos') X.env = (do
      let ov ← eval o X.env
      standAt apos.atName
      let (f, first) ← holding [ov] (getMethod ov m pl)
      callWith pos' f first (backTo pos' (starEach [] X.env)) (backToKw pos' (keywordEach [] X.env))) := by rfl) :
    PGw X k (.Call (.Attribute o m apos) [] [] pos') (tMethW C m sp n ta tNil) := by
  refine ⟨fun pins s σ H cont I h => ?_⟩
  refine PySem.W.methodCall_KW (pl := pl) (thn (he.run pins s σ H _ I h) fun u s1 ⟨x, H1, I1, rx, a, dx, fs, ex, ea, l, q1, q⟩ => ?_) ht
  subst ex
  obtain rfl : u = Value.ref a := rx
  refine getmeth_ok I1 ea c hm l ?_
  exact PySem.W.callWith_K0 (first := [.ref a]) I1.kIn hm.kp (run_gfw (us := [.ref a]) (vs := [.ref a]) F hr hb I1 (.cons rfl .nil) (by rw [hn]; exact q1) q)
theorem pgw_meth {n : Nat} {pl : Sem Bool} {e : Expr} {es : List Expr} {t : TA} (he : PE X o ta) (c : Cls X.K C) (hm : Meth X.K C m f) (F : GFw X.prog X.w X.K X.mg X.base k f fd ps sp) (hr : Room k X.A) (hb : Binds X.K fd ps []) (hn : ps.length = n) (ha : PA X (e :: es) t)
    (hst : starEach (e :: es) X.env = (false, eval e X.env) :: starEach es X.env := by rfl) (hpl : (backTo pos' (starEach es X.env)).any (·.1) = false := by rfl)
    (ht : eval (.Call (.Attribute o m apos) (e :: es) [] pos') X.env = (do
      let ov ← eval o X.env
      standAt apos.atName
      let (f, first) ← holding [ov] (getMethod ov m pl)
      callWith pos' f first (backTo pos' (starEach (e :: es) X.env)) (backToKw pos' (keywordEach [] X.env))) := by rfl) :
    PGw X k (.Call (.Attribute o m apos) (e :: es) [] pos') (tMethW C m sp n ta t) := by
  refine ⟨fun pins s σ H cont I h => ?_⟩
  refine PySem.W.methodCall_KW (pl := pl) (thn (he.run pins s σ H _ I h) fun u s1 ⟨x, H1, I1, rx, a, dx, fs, ex, ea, l, q⟩ => ?_) ht
  subst ex
  obtain rfl : u = Value.ref a := rx
  refine getmeth_ok I1 ea c hm l ?_
  refine PySem.W.callWith_K (first := [.ref a]) (h₀ := X.base) I.ok.mod.kin hm.kp (thn (ha.run pos' pins s1 σ H1 _ I1 q) fun us s2 ⟨vs, H2, I2, r, q1, q2⟩ => ⟨I2.kIn, ?_⟩) hst hpl
  exact run_gfw (us := .ref a :: us) (vs := .ref a :: vs) F hr hb I2 (.cons rfl r) (by rw [hn]; exact q1) q2
/-! ### for -/
def tForW (tg : TGwe) (g : TG) (tb : TS) : TS := fun D σ H => tg σ H fun st H1 => st (fun c x H k => g x c H fun c1 H2 => tb { D with nx := k, ct := k, bk := D.nx } c1 H2) (fun c H => D.nx c H) σ H1
theorem Inv.toNoxW {pins : List (Addr × Obj)} {σ : St} {H : Hp} {s : Shared} (I : Inv X pins σ H s) : Inv X.nox pins σ H s := I.wish _
theorem Inv.ofNoxW {pins : List (Addr × Obj)} {σ : St} {H : Hp} {s : Shared} (I : Inv X.nox pins σ H s) : Inv X pins σ H s := I.unwish
theorem pin_lt {pins : List (Addr × Obj)} {σ : St} {H : Hp} {s : Shared} (I : Inv X pins σ H s) : ∀ p ∈ X.pn ++ pins, p.1 < s.heap.objs.size := fun p hp => Heap.lt_size (I.pin p hp).1
theorem frs_lt {pins : List (Addr × Obj)} {σ : St} {H : Hp} {s : Shared} (I : Inv X pins σ H s) : ∀ b ∈ frs X.stack, b < s.heap.objs.size := fun b hb => by
  obtain ⟨_, o, ho, _⟩ := I.stack.mem hb
  exact Heap.lt_size ho
theorem cell_lt {pins : List (Addr × Obj)} {σ : St} {H : Hp} {s : Shared} (I : Inv X pins σ H s) : ∀ x c, X.env.cells.lookup x = some c → c < s.heap.objs.size := fun x c e => by
  obtain ⟨v, z⟩ := I.cell x c e
  exact z.lt
theorem young_pin {pins : List (Addr × Obj)} {σ : St} {H : Hp} {s : Shared} (I : Inv X pins σ H s) {b : Addr} (hb : s.heap.objs.size ≤ b) : H b = none ∧ b ≠ X.env.locals ∧ b ∉ X.fs :=
  ⟨I.hok.fresh hb, Nat.ne_of_gt (Nat.lt_of_lt_of_le I.lt hb), I.nofs hb⟩
/-- behind the generator's call -/
theorem Inv.madeW {pins : List (Addr × Obj)} {σ : St} {H : Hp} {sc s' : Shared} (I : Inv X pins σ H sc) (os : s'.os = sc.os) (hb : AllBare s'.gens) (k : ∀ b o, sc.heap.get? b = some o → s'.heap.get? b = some o) : Inv X pins σ H s' :=
  I.call' (ch := []) os (Un.kept k) (I.hok.kept k) hb fun b z => by simp at z
theorem ps_forW {tg iter : Expr} {body : List Stmt} {tgn : TGwe} {gt : TG} {tb : TS} {k : Nat} {pos : Pos} (hc : X.calm = true) (hr : Room (k + 1) X.A) (hp : PassesOwn (model X.prog X.w) X.A X.env X.xe) (hi : PGw X k iter tgn) (hg : PG X.nox tg gt) (hb : PSs X.nox body tb)
    (hs : ∀ x, foldedSetIterable iter X.env x = pure x := by intro _; rfl) : PS X (.For tg iter body [] pos) (tForW tgn gt tb) := by
  refine ⟨fun pins s σ H D I h => ?_⟩
  refine wpAny_For (thn (hi.run pins s σ H _ I h) fun u s1 ⟨H1, sc, st, Ic, GM, q⟩ => ?_) hs
  obtain ⟨a, g, cd, go, Lo, rfl, an, asz, ea, hgen, eL, hgd, hLd, hgs, hos, hba, hkp, hwalk⟩ := GM
  refine wpAny_pyIter_gen (hgen _ ea) ?_
  have I1 : Inv X pins σ H1 s1 := Ic.madeW hos hba hkp
  obtain ⟨BN, Bq, Bs, Bf, Bcd, HB, seg⟩ := hwalk X pins X.A.in1 rfl rfl rfl rfl rfl rfl Ic.sz (cell_lt Ic) (pin_lt Ic) (frs_lt Ic) (Nat.ne_of_lt Ic.lt) (Nat.ne_of_lt (Nat.lt_trans Ic.lt an)) Ic.ok.frames hr.in1
  clear hwalk
  have yn := young_pin Ic (Nat.le_refl _)
  have ya := young_pin Ic (Nat.le_of_lt an)
  generalize hB : (⟨X, pins, sc.heap.objs.size, BN, Bq, Bs, Bf, Bcd, X.A.in1, a, go⟩ : Host) = B at HB seg
  have eX : B.X = X := by rw [← hB]
  have ep : B.pins = pins := by rw [← hB]
  have eA : B.A = X.A.in1 := by rw [← hB]
  have ea' : B.a = a := by rw [← hB]
  have ego : B.go = go := by rw [← hB]
  have en : B.n = sc.heap.objs.size := by rw [← hB]
  have I2 : Inv X (pins ++ B.gp Lo []) σ H1 s1 := I1.pins_of fun p hp => by
    rcases List.mem_append.mp hp with z | z
    · exact I1.pin p (List.mem_append_right _ z)
    · rcases List.mem_cons.mp z with z | z
      · rw [z, ea', ego]; exact ⟨ea, ya.1, ya.2.1, ya.2.2, hgd⟩
      · rw [List.mem_singleton.mp z, en]; exact ⟨eL, yn.1, yn.2.1, yn.2.2, hLd⟩
  have go0 : B.Go (fun c x H k => gt x c H fun c1 H2 => tb { D with nx := k, ct := k, bk := D.nx } c1 H2) (fun c H => D.nx c H) g sizeLine s1 := by
    refine ⟨by rw [ea']; exact hgen _ ea, I1.nolimit, I1.bare, _, hgs, rfl, ?_⟩
    rw [eX, eA]
    exact seg _ _ σ H1 _ q (I2.gensTo (allBare_setGen I1.bare rfl))
  have hgen' : ∀ h : Heap, h.get? B.a = some B.go → h.IsGen B.a g := by rw [ea', ego]; exact hgen
  have hd : X.A.depth < recursionLimit := by have := hr.dp; omega
  rw [← ea']
  refine codeAny_forLoop_any (fun n s' => B.Go (fun c x H k => gt x c H fun c1 H2 => tb { D with nx := k, ct := k, bk := D.nx } c1 H2) (fun c H => D.nx c H) g n s') ?_ sizeLine go0
  intro n s2 hgo2
  refine Host.turnX eX ep eA (Ic.ok.hd hc) hd hgen' hgo2 (fun c H' Lo' ip s' I' q' => ?_) (fun c x v H' Lo' ip kk s' gs' rv I' hy hg' tie => ?_)
  · exact wpAny_execs_nil ⟨c, H', I'.unpinned, q'⟩
  · have pa := (I'.pin (B.a, B.go) (List.mem_append_right _ (List.mem_append_right _ List.mem_cons_self))).1
    obtain ⟨o, nm, qn, ho, hcl, hdt, _⟩ := hgen' s'.heap pa
    refine go_of ho hcl hdt (by decide) ?_
    refine calm_step (g := g) (gs := gs') I'.bare (fun _ => hg') (hg.run _ (dulled s') c H' x v _ (I'.toNoxW.gensTo (dulled_bare I'.bare)) rv hy) fun _ b G ⟨σ6, H6, I6, q6⟩ hG hS => ?_
    have I6' : Inv X (pins ++ B.gp Lo' ip) σ6 H6 { b with gens := G } := I6.ofNoxW.gensTo (hG I6.bare)
    refine calm_step (g := g) (gs := gs') I6'.bare hS (hb.run _ (dulled { b with gens := G }) σ6 H6 _ (I6'.toNoxW.gensTo (dulled_bare I6'.bare)) q6) fun f b7 G7 hsp hG7 hS7 => ?_
    cases f with
    | next =>
      obtain ⟨σ7, H7, I7, q7⟩ := hsp
      exact tie σ7 H7 _ q7 (I7.ofNoxW.gensTo (hG7 I7.bare)) hS7
    | cont =>
      obtain ⟨σ7, H7, I7, q7⟩ := hsp
      exact tie σ7 H7 _ q7 (I7.ofNoxW.gensTo (hG7 I7.bare)) hS7
    | brk =>
      obtain ⟨σ7, H7, I7, q7⟩ := hsp
      exact ⟨σ7, H7, (I7.ofNoxW.gensTo (hG7 I7.bare)).unpinned, q7⟩
    | ret v =>
      obtain ⟨x7, σ7, H7, I7, r7, q7⟩ := hsp
      exact ⟨x7, σ7, H7, (I7.ofNoxW.gensTo (hG7 I7.bare)).unpinned, r7, q7⟩
end
end L2

/-! List comprehensions over a generator that is walked in turns. -/
namespace L2
open PySem PySem.Spec PyProof.Rows GenW Calm
theorem funFrames_cut {n : Nat} {h base : Heap} : ∀ l : List Env, (∀ b ∈ frs l, b < n) → h.FunFrames base l → (cutH n h).FunFrames base l := by
  intro l
  induction l with
  | nil => exact fun _ _ => trivial
  | cons e r ih =>
    rintro hf ⟨hk, ⟨L, o, q1, q2, q3, q4⟩, hr⟩
    refine ⟨hk, ⟨L, o, q1, q2, ?_, q4⟩, ih (fun b hb => hf b ?_) hr⟩
    · rw [cutH_at (hf L (List.mem_filterMap.mpr ⟨e, List.mem_cons_self, q1⟩))]; exact q3
    · obtain ⟨e', m, q⟩ := List.mem_filterMap.mp hb
      exact List.mem_filterMap.mpr ⟨e', List.mem_cons_of_mem _ m, q⟩
abbrev Cx.cut (X : Cx) (n : Nat) : Cx := { X with s_0 := cutSh n X.s_0 }
theorem Inv.cut {X : Cx} {pins : List (Addr × Obj)} {σ : St} {H : Hp} {s : Shared} {n : Nat} (I : Inv X pins σ H s) (h1 : n ≤ X.s_0.heap.objs.size) (h2 : X.base.objs.size ≤ n) (h3 : ∀ b ∈ X.fs, b < n) (hex : X.ex = []) : Inv (X.cut n) pins σ H s := by
  have csz : (cutSh n X.s_0).heap.objs.size = n := cutH_size h1
  have noA : ∀ b : Addr, b ∉ X.ex := fun b hb => by rw [hex] at hb; cases hb
  refine ⟨⟨I.ok.mod, I.ok.kind, I.ok.glob, I.ok.blt, ?_, I.ok.inj, I.ok.has, fun x c hx e => ?_, I.ok.hd, I.ok.frames, I.ok.stk, I.ok.exf, fun b o e => ?_, ?_, I.ok.noex, I.ok.exfs, funFrames_cut _ h3 I.ok.funs, I.ok.frf⟩, I.os, I.bare, ?_, I.loc, I.cell, I.free, I.freeC, I.pin, I.hok, I.len⟩
  · show (cutSh n X.s_0).heap.objs.size ≤ _
    rw [csz]; exact Nat.le_trans h1 I.ok.above
  · show (cutSh n X.s_0).heap.objs.size ≤ _
    rw [csz]; exact Nat.le_trans h1 (I.ok.cab x c hx e)
  · obtain ⟨e1, e2⟩ := I.ok.bs b o e
    refine ⟨?_, e2⟩
    show (cutH n X.s_0.heap).get? b = _
    rw [cutH_at (Nat.lt_of_lt_of_le (Heap.lt_size e) h2)]
    exact e1
  · show _ ≤ (cutSh n X.s_0).heap.objs.size
    rw [csz]; exact h2
  · exact ⟨fun b o e q hb hx => I.base.keep b o (cutH_no e).2 q hb hx, fun b o e q hb hx => I.base.slot b o (cutH_no e).2 q hb hx, fun b o e q hx => I.base.free b o (cutH_no e).2 q hx, fun b o e hx => I.base.there b o (cutH_no e).2 hx, I.base.tups, I.base.frzs, I.base.tbls⟩
theorem cells_acc0 {names : List (Str × NameKind)} (h : ∀ y ∈ names, y.2 ≠ .cell) : ∀ (n : Nat) (acc : List (Str × Addr)), cellsFrom n names acc = acc := by
  induction names with
  | nil => intro n acc; rfl
  | cons y ys ih =>
    intro n acc
    have h1 := h y List.mem_cons_self
    have h2 := ih fun z hz => h z (List.mem_cons_of_mem _ hz)
    obtain ⟨x, k⟩ := y
    unfold cellsFrom
    cases k <;> first | exact absurd rfl h1 | exact h2 n acc
def tLcW (tgn : TGwe) (g : TG) (tt : TT) (te : TE) (vs : List Nat) : TE := fun σ H Q => tgn σ H fun st H1 => ∀ D, H1 D = none →
  st (fun c x H k => g x c H fun σ2 H2 => wipe σ2 vs = c ∧ tt σ2 H2 fun b H3 => if b = true then te σ2 H3 fun y H4 => ∃ acc, H4 D = some (.lst acc) ∧ acc.length < sizeLine ∧ k c (upd H4 D (.lst (acc ++ [y]))) else k c H3)
    (fun _ H => Q (.ref D) H) (wipe σ vs) (upd H1 D (.lst []))
section
variable {X : Cx}
theorem lc_coreW {pins : List (Addr × Obj)} {s : Shared} {σ : St} {H : Hp} {Q : VK} {elt tg iter : Expr} {ifs : List Expr} {scope : Scope} {own : List (Str × Nat)} {pos pos' : Pos} {tgn : TGwe} {gt : TG} {tt : TT} {te : TE} {k : Nat} {use : Option (Value → Sem Unit)} {Qf : Value → Shared → Prop}
    (hc : X.calm = true) (hr : Room (k + 1) X.A) (hN : X.N.Nodup) (I : Inv X pins σ H s) (hi : PGw X k iter tgn) (ok : BlkOk X.N X.env.scope scope own) (hnc : ∀ y ∈ scope.names, y.2 ≠ .cell)
    (hg : ∀ (s : Shared) (H : Hp) (C : Addr) (cl : List (Str × Addr)) (fp : List Addr), PG (X.blk s H scope (compEnvC scope cl C X.env) fp) tg gt) (ht : ∀ (s : Shared) (H : Hp) (C : Addr) (cl : List (Str × Addr)) (fp : List Addr), PTs (X.blk s H scope (compEnvC scope cl C X.env) fp) ifs tt)
    (he : ∀ (s : Shared) (H : Hp) (C : Addr) (cl : List (Str × Addr)) (fp : List Addr), PE (X.blk s H scope (compEnvC scope cl C X.env) fp) elt te) (hs : ∀ x, foldedSetIterable iter X.env x = pure x)
    (h : tLcW tgn gt tt te (own.map (·.2)) σ H Q)
    (hRR : ∀ D C s' m H', Inv X pins σ H' s' → Q (.ref D) H' → s'.heap.Ns C m → FpOk X pins H' C → compPost (model X.prog X.w) X.A X.xe use Qf (.ref D) C (.ok .next) s') :
    wpAny (model X.prog X.w) X.A (comprehension (.ListComp elt [⟨tg, iter, ifs, 0⟩] scope pos) scope X.env pos' (newList []) false (eval iter X.env) use) Qf X.xe s := by
  have hfree : ∀ y ∈ scope.names, y.2 = .free → ∃ c, X.env.cells.lookup y.1 = some c := fun y hy e => by
    rcases ok.free y hy e with k | k
    · exact I.ok.has _ (.inl k)
    · exact I.ok.has _ (.inr k)
  refine wpAny_comprehension_free (use := use) rfl hs (closure_ok hfree) ok.kind (fun y hy e => by rw [ok.uniq y hy, e])
    (thn (hi.run pins s σ H _ I h) fun u s1 ⟨H1, sc, st, Ic, GM, q⟩ => ?_)
  obtain ⟨a, g, cd, go, Lo, rfl, an, asz, ea, hgen, eL, hgd, hLd, hgs, hos, hba, hkp, hwalk⟩ := GM
  refine wpAny_pyIter_gen (hgen _ ea) ?_
  have I1 : Inv X pins σ H1 s1 := Ic.madeW hos hba hkp
  refine wpAny_newObj_type (newEnv_comp ?_) (by show 0 ≤ sizeLine; decide)
  generalize hD : s1.heap.objs.size = D
  have hDn : H1 D = none := I1.hok.fresh (Nat.le_of_eq hD)
  have q := q D hDn
  -- the new list
  generalize hs3 : ({ s1 with heap := s1.heap.push { cls := .type "list", data := .seq ([] : List Value).toArray } } : Shared) = s3
  have I3 : Inv X pins σ (upd H1 D (.lst [])) s3 := by
    rw [← hs3]
    refine I1.laid (t' := s1.toks) (fun b o e => Heap.get?_push_of_some _ e) (Nat.le_of_eq hD) ⟨Nat.zero_le _, [], 0, .nil, ?_⟩
    rw [← hD]
    exact Heap.get?_push_size _ rfl
  have h3 : s3.heap = s1.heap.push { cls := .type "list", data := .seq ([] : List Value).toArray } := by rw [← hs3]
  have I4 := block_start (fp := []) I3 ok hN (fun b hb => by cases hb)
  have sz3 : s3.heap.objs.size = s1.heap.objs.size + 1 := by rw [h3, Heap.size_push]
  have nle : sc.heap.objs.size ≤ s3.heap.objs.size := by
    have q1 : sc.heap.objs.size < s1.heap.objs.size := Nat.lt_trans an asz
    rw [sz3]; exact Nat.le_of_lt (Nat.lt_succ_of_lt q1)
  have hcl : ∀ x c, (compEnvC scope (cellsFrom (s3.heap.objs.size + 1) scope.names (cloFrom X.env.cells scope.names [])) s3.heap.objs.size X.env).cells.lookup x = some c → c < sc.heap.objs.size := fun x c e => by
    have e : (cellsFrom (s3.heap.objs.size + 1) scope.names (cloFrom X.env.cells scope.names [])).lookup x = some c := e
    rw [cells_acc0 hnc] at e
    rcases cloFrom_mem (PySem.mem_of_lookup e) with hm | ⟨z1, z2⟩
    · cases hm
    · obtain ⟨c', hc'⟩ := hfree _ z1 rfl
      rw [hc'] at z2
      cases z2
      exact cell_lt Ic _ _ hc'
  have pg := hg (cutSh sc.heap.objs.size s3) (upd H1 D (.lst [])) s3.heap.objs.size (cellsFrom (s3.heap.objs.size + 1) scope.names (cloFrom X.env.cells scope.names [])) []
  have pt := ht (cutSh sc.heap.objs.size s3) (upd H1 D (.lst [])) s3.heap.objs.size (cellsFrom (s3.heap.objs.size + 1) scope.names (cloFrom X.env.cells scope.names [])) []
  have pe := he (cutSh sc.heap.objs.size s3) (upd H1 D (.lst [])) s3.heap.objs.size (cellsFrom (s3.heap.objs.size + 1) scope.names (cloFrom X.env.cells scope.names [])) []
  show codeAny _ _ (.compStart (.ListComp elt [⟨tg, iter, ifs, 0⟩] scope pos) 0 (.ref a) (.ref D) (compEnvC scope (cellsFrom (s3.heap.objs.size + 1) scope.names (cloFrom X.env.cells scope.names [])) s3.heap.objs.size X.env)) (compPost (model X.prog X.w) X.A X.xe use Qf (.ref D) s3.heap.objs.size) { s3 with heap := pushCells (s3.heap.push { cls := .type "dict", data := .dict #[] }) scope.names }
  have aC : a < s3.heap.objs.size := by rw [sz3]; exact Nat.lt_succ_of_lt asz
  have nC : sc.heap.objs.size < s3.heap.objs.size := Nat.lt_trans an aC
  have I4c := I4.cut (n := sc.heap.objs.size) nle (Nat.le_trans Ic.ok.bsz Ic.sz) (frs_lt Ic) rfl
  generalize hce : compEnvC scope (cellsFrom (s3.heap.objs.size + 1) scope.names (cloFrom X.env.cells scope.names [])) s3.heap.objs.size X.env = ce at I4 I4c pg pt pe hcl ⊢
  have cL : ce.locals = s3.heap.objs.size := by subst hce; rfl
  generalize hH3 : upd H1 D (.lst []) = H3 at I3 I4 I4c pg pt pe q
  generalize hs4 : ({ s3 with heap := pushCells (s3.heap.push { cls := .type "dict", data := .dict #[] }) scope.names } : Shared) = s4 at I4 I4c ⊢
  have kp4 : ∀ b o, s1.heap.get? b = some o → s4.heap.get? b = some o := fun b o e => by
    rw [← hs4]
    refine pushCells_keeps _ _ _ _ (Heap.get?_push_of_some _ ?_)
    rw [h3]
    exact Heap.get?_push_of_some _ e
  have os4 : s4.gens = s1.gens := by rw [← hs4, ← hs3]
  obtain ⟨BN, Bq, Bs, Bf, Bcd, HB, seg⟩ := hwalk (X.blk (cutSh sc.heap.objs.size s3) H3 scope ce []) [] X.A.in1 rfl rfl rfl rfl rfl rfl
    (by show (cutSh sc.heap.objs.size s3).heap.objs.size ≤ _; rw [show (cutSh sc.heap.objs.size s3).heap.objs.size = sc.heap.objs.size from cutH_size nle]; exact Nat.le_refl _) hcl (fun p hp => absurd (show p ∈ ([] : List (Addr × Obj)) ++ [] from hp) (by simp)) (@frs_lt X pins σ H1 sc Ic)
    (by show ce.locals ≠ _; rw [cL]; exact Nat.ne_of_gt nC) (by show ce.locals ≠ _; rw [cL]; exact Nat.ne_of_gt aC) Ic.ok.frames hr.in1
  clear hwalk
  have yn := young_pin Ic (Nat.le_refl _)
  have ya := young_pin Ic (Nat.le_of_lt an)
  have stF : ∀ b, sc.heap.objs.size ≤ b → b ∉ frs X.stack := fun b hb hm => Nat.lt_irrefl _ (Nat.lt_of_lt_of_le (frs_lt Ic b hm) hb)
  have H3n : ∀ b, b ≠ D → H1 b = none → H3 b = none := fun b hb e => by rw [← hH3, upd_ne hb]; exact e
  have neD : ∀ b, b < s1.heap.objs.size → b ≠ D := fun b hb => by rw [← hD]; exact Nat.ne_of_lt hb
  generalize hB : (⟨X.blk (cutSh sc.heap.objs.size s3) H3 scope ce [], [], sc.heap.objs.size, BN, Bq, Bs, Bf, Bcd, X.A.in1, a, go⟩ : Host) = B at HB seg
  have eX : B.X = X.blk (cutSh sc.heap.objs.size s3) H3 scope ce [] := by rw [← hB]
  have ep : B.pins = [] := by rw [← hB]
  have eA : B.A = X.A.in1 := by rw [← hB]
  have ea' : B.a = a := by rw [← hB]
  have ego : B.go = go := by rw [← hB]
  have en : B.n = sc.heap.objs.size := by rw [← hB]
  have I5 : Inv (X.blk (cutSh sc.heap.objs.size s3) H3 scope ce []) ([] ++ B.gp Lo []) (wipe σ (own.map (·.2))) H3 s4 := I4c.pins_of fun p hp => by
    have hp : p ∈ B.gp Lo [] := hp
    rcases List.mem_cons.mp hp with z | z
    · rw [z, ea', ego]
      exact ⟨kp4 _ _ ea, H3n _ (neD _ asz) ya.1, by show a ≠ ce.locals; rw [cL]; exact Nat.ne_of_lt aC, stF _ (Nat.le_of_lt an), hgd⟩
    · rw [List.mem_singleton.mp z, en]
      exact ⟨kp4 _ _ eL, H3n _ (neD _ (Nat.lt_trans an asz)) yn.1, by show sc.heap.objs.size ≠ ce.locals; rw [cL]; exact Nat.ne_of_lt nC, stF _ (Nat.le_refl _), hLd⟩
  have go0 : B.Go (fun c x H k => gt x c H fun σ2 H2 => wipe σ2 (own.map (·.2)) = c ∧ tt σ2 H2 fun b H3 => if b = true then te σ2 H3 fun y H4 => ∃ acc, H4 D = some (.lst acc) ∧ acc.length < sizeLine ∧ k c (upd H4 D (.lst (acc ++ [y]))) else k c H3)
      (fun _ H => Q (.ref D) H) g sizeLine s4 := by
    refine ⟨by rw [ea']; exact hgen _ (kp4 _ _ ea), I5.nolimit, I5.bare, _, (show s4.gens[g]? = some (.fresh cd) by rw [os4]; exact hgs), rfl, ?_⟩
    rw [eX, eA]
    exact seg _ _ _ H3 _ q (I5.gensTo (allBare_setGen I5.bare rfl))
  have hgen' : ∀ h : Heap, h.get? B.a = some B.go → h.IsGen B.a g := by rw [ea', ego]; exact hgen
  have hd : X.A.depth < recursionLimit := by have := hr.dp; omega
  rw [← ea']
  have loop : codeAny (model X.prog X.w) X.A (.compLoop (.ListComp elt [⟨tg, iter, ifs, 0⟩] scope pos) 0 (.ref B.a) (.ref D) ce) (compPost (model X.prog X.w) X.A X.xe use Qf (.ref D) s3.heap.objs.size) s4 := by
    refine compLoop_any (fun n s' => B.Go (fun c x H k => gt x c H fun σ2 H2 => wipe σ2 (own.map (·.2)) = c ∧ tt σ2 H2 fun b H3 => if b = true then te σ2 H3 fun y H4 => ∃ acc, H4 D = some (.lst acc) ∧ acc.length < sizeLine ∧ k c (upd H4 D (.lst (acc ++ [y]))) else k c H3)
      (fun _ H => Q (.ref D) H) g n s') ?_ sizeLine go0
    intro n s2 hgo2
    refine Host.turnX (X := X.blk (cutSh sc.heap.objs.size s3) H3 scope ce []) eX ep eA (Ic.ok.hd hc) hd hgen' hgo2 (fun c H' Lo' ip s' I' q' => ?_) (fun c x v H' Lo' ip kk s' gs' rv I' hy hg' tie => ?_)
    · -- back in the def's context
      have I6 : Inv X pins σ H' s' := by
        refine I3.call' (ch := List.range' sc.heap.objs.size (s3.heap.objs.size - sc.heap.objs.size)) I'.os ?_ I'.hok I'.bare fun b hb => ?_
        · have u : Un (frs X.stack) [] H3 H' (cutH sc.heap.objs.size s3.heap) s'.heap := I'.base
          have lo : ∀ b o, s3.heap.get? b = some o → b ∉ List.range' sc.heap.objs.size (s3.heap.objs.size - sc.heap.objs.size) → b < sc.heap.objs.size := fun b o e hx => by
            refine Nat.lt_of_not_le fun z => hx (List.mem_range'_1.mpr ⟨z, ?_⟩)
            rw [Nat.add_sub_cancel' nle]
            exact Heap.lt_size e
          exact ⟨fun b o e n hf hx => u.keep b o (by rw [cutH_at (lo b o e hx)]; exact e) n hf (by simp), fun b o e n hf hx => u.slot b o (by rw [cutH_at (lo b o e hx)]; exact e) n hf (by simp),
            fun b o e n hx => u.free b o (by rw [cutH_at (lo b o e hx)]; exact e) n (by simp), fun b o e hx => u.there b o (by rw [cutH_at (lo b o e hx)]; exact e) (by simp), u.tups, u.frzs, u.tbls⟩
        · have hn : sc.heap.objs.size ≤ b := (List.mem_range'_1.mp hb).1
          refine ⟨.inr (Nat.le_trans Ic.sz hn), Nat.ne_of_gt (Nat.lt_of_lt_of_le Ic.lt hn), fun x c e z => ?_, fun p hp z => ?_⟩
          · have := cell_lt Ic x c e
            rw [z] at this
            exact Nat.lt_irrefl _ (Nat.lt_of_lt_of_le this hn)
          · have := pin_lt Ic p hp
            rw [z] at this
            exact Nat.lt_irrefl _ (Nat.lt_of_lt_of_le this hn)
      have nn : H' s3.heap.objs.size = none := by
        have z : H' ce.locals = none := I'.free
        rw [cL] at z
        exact z
      obtain ⟨m, hn, _⟩ := I'.loc
      have hn : s'.heap.Ns ce.locals m := hn
      rw [cL] at hn
      exact hRR D s3.heap.objs.size s' m H' I6 q' hn (I3.fpOk (Nat.le_refl _) nn)
    · have pa := (I'.pin (B.a, B.go) (List.mem_append_right _ (List.mem_append_right _ List.mem_cons_self))).1
      obtain ⟨o, nm, qn, ho, hcl', hdt, _⟩ := hgen' s'.heap pa
      refine go_of ho hcl' hdt (by decide) ?_
      refine calm_step (g := g) (gs := gs') I'.bare (fun _ => hg') (pg.run _ (dulled s') c H' x v _ (I'.gensTo (dulled_bare I'.bare)) rv hy) fun _ b8 G8 ⟨σ8, H8, I8, hw8, q8⟩ hG8 hS8 => ?_
      have I8 := I8.gensTo (hG8 I8.bare)
      refine calm_step (g := g) (gs := gs') I8.bare hS8 (pt.run _ (dulled { b8 with gens := G8 }) σ8 H8 _ (I8.gensTo (dulled_bare I8.bare)) q8) fun b b9 G9 ⟨H9, I9, q9⟩ hG9 hS9 => ?_
      have I9 := I9.gensTo (hG9 I9.bare)
      have fin : ∀ {H' : Hp} {s' : Shared}, Inv (X.blk (cutSh sc.heap.objs.size s3) H3 scope ce []) ([] ++ B.gp Lo' ip) σ8 H' s' → kk c H' → Sleeps g gs' s' → ∃ m, m < n ∧ B.Go (fun c x H k => gt x c H fun σ2 H2 => wipe σ2 (own.map (·.2)) = c ∧ tt σ2 H2 fun b H3 => if b = true then te σ2 H3 fun y H4 => ∃ acc, H4 D = some (.lst acc) ∧ acc.length < sizeLine ∧ k c (upd H4 D (.lst (acc ++ [y]))) else k c H3)
          (fun _ H => Q (.ref D) H) g m s' := fun {H' s'} I0 k0 s0 => by
        refine tie c H' s' k0 (I0.weak (by rw [← hw8, wipe_length]) fun j v e => ?_) s0
        rw [← hw8] at e
        exact (wipe_some e).1
      cases b with
      | false =>
        simp only [Bool.false_eq_true, if_false] at q9 ⊢
        exact fin I9 q9 hS9
      | true =>
        simp only [if_true] at q9 ⊢
        refine calm_step (g := g) (gs := gs') I9.bare hS9 (pe.run _ (dulled { b9 with gens := G9 }) σ8 H9 _ (I9.gensTo (dulled_bare I9.bare)) q9) fun z b10 G10 ⟨yv, H10, I10, r10, acc, hD10, hz10, nx⟩ hG10 hS10 => ?_
        have I10 := I10.gensTo (hG10 I10.bare)
        refine calm_step (g := g) (gs := gs') I10.bare hS10 (app_ok (X := X.blk (cutSh sc.heap.objs.size s3) H3 scope ce []) (Q := fun _ s' => Inv (X.blk (cutSh sc.heap.objs.size s3) H3 scope ce []) ([] ++ B.gp Lo' ip) σ8 (upd H10 D (.lst (acc ++ [yv]))) s') (I10.gensTo (dulled_bare I10.bare)) hD10 hz10 r10 fun s11 I11 => I11) fun _ b11 G11 I11 hG11 hS11 => ?_
        exact fin (I11.gensTo (hG11 I11.bare)) nx hS11
  refine codeAny_compStart_list loop (wpAny_pyIter_gen (hgen' _ ?_) loop)
  rw [ea', ego]
  exact kp4 _ _ ea
/-- as a value -/
theorem pe_lcW {elt tg iter : Expr} {ifs : List Expr} {scope : Scope} {own : List (Str × Nat)} {pos : Pos} {tgn : TGwe} {gt : TG} {tt : TT} {te : TE} {k : Nat} (hc : X.calm = true) (hr : Room (k + 1) X.A) (hN : X.N.Nodup) (hi : PGw X k iter tgn) (ok : BlkOk X.N X.env.scope scope own) (hnc : ∀ y ∈ scope.names, y.2 ≠ .cell)
    (hg : ∀ (s : Shared) (H : Hp) (C : Addr) (cl : List (Str × Addr)) (fp : List Addr), PG (X.blk s H scope (compEnvC scope cl C X.env) fp) tg gt) (ht : ∀ (s : Shared) (H : Hp) (C : Addr) (cl : List (Str × Addr)) (fp : List Addr), PTs (X.blk s H scope (compEnvC scope cl C X.env) fp) ifs tt)
    (he : ∀ (s : Shared) (H : Hp) (C : Addr) (cl : List (Str × Addr)) (fp : List Addr), PE (X.blk s H scope (compEnvC scope cl C X.env) fp) elt te) (hs : ∀ x, foldedSetIterable iter X.env x = pure x := by intro _; rfl) :
    PE X (.ListComp elt [⟨tg, iter, ifs, 0⟩] scope pos) (tLcW tgn gt tt te (own.map (·.2))) := by
  refine ⟨fun pins s σ H Q I h => ?_⟩
  rw [eval_ListComp]
  refine lc_coreW hc hr hN I hi ok hnc hg ht he hs h fun D C s' m H' I' q hn f => ⟨m, hn, fun h'' sb => ?_⟩
  obtain ⟨f0, f1, f2, f3, f4, f5⟩ := f
  exact ⟨.ref D, H', I'.turned (t' := s'.toks) (fun b o hb e => (sb.2 b hb).trans e) f0 f1 f3 f4 f5, rfl, q⟩
end
end L2
namespace L2
open PySem PySem.Spec PyProof.Rows GenW
/-- a generator def's promise to those who walk it in turns -/
theorem FunD.okGenW {P : Program} {w : World} {mg : Str → Option Value} {base : Heap} {K : PySem.W.Frag} {x qual : Str} {params : Arguments} {body : List Stmt} {scope : Scope} {dvs : List V} {kws : List (Str × V)} {f : Addr} {fd : FuncData}
    {N ps : List Str} {k : Nat} {t : TGw} (F : FunD K x qual params body scope dvs kws f fd) (S : GScope N ps scope) (hno : ∀ y ∈ scope.names, y.2 ≠ .cell ∧ y.2 ≠ .free)
    (hbody : ∀ (cdv : Value) (X : Cx) (pins : List (Addr × Obj)) (n : Nat) (A : Around) (a : Addr) (go : Obj), HostOk ⟨X.re P w K mg base, pins, n, N, qual, scope, f, cdv, A, a, go⟩ → (∀ (s : Shared) (H : Hp), s.heap.objs.size = n → Room k ((⟨X.re P w K mg base, pins, n, N, qual, scope, f, cdv, A, a, go⟩ : Host).F s H).A) →
      GSsw ⟨X.re P w K mg base, pins, n, N, qual, scope, f, cdv, A, a, go⟩ body t) : GFw P w K mg base (k + 1) f fd ps (spW t N) := by
  obtain ⟨oc, od, dV, kV, doc, pm, an, cdv, ct, osl, rfl, lk, hcd, _, _⟩ := F.ex
  exact gfw_of lk hcd S hno fun X pins n A a go => hbody cdv X pins n A a go
end L2

namespace Lw
open PySem PySem.Spec PyProof.Rows L2
def top (i : Nat) : Stmt := PySem.Challenge.pw_risensigns_k18_play_walked.main.body.getD i (.Pass ⟨0, 0, 0, 0⟩)
abbrev PROG : Program := PySem.Challenge.pw_risensigns_k18_play_walked
abbrev s_law_pool : Stmt := top 31
abbrev s_law_pick : Stmt := top 32
abbrev s_law_alphabet : Stmt := top 33
abbrev s_law_word_of : Stmt := top 34
abbrev s_law_book_of : Stmt := top 35
abbrev s_law_take : Stmt := top 37
abbrev s_law_top : Stmt := top 38
abbrev s_law_open_steps : Stmt := top 42
abbrev s_law_bad_step : Stmt := top 43
abbrev s_law_odd_sign : Stmt := top 41
abbrev s_as_string : Stmt := top 18
abbrev s_check_text : Stmt := top 19
abbrev s_Rule_init : Stmt := inClass (top 26) 0
abbrev s_Book_add : Stmt := inClass (top 27) 7
abbrev s_Book_init : Stmt := inClass (top 27) 0
abbrev s_Book_read : Stmt := inClass (top 27) 1
abbrev s_law_lines_of : Stmt := top 39
abbrev s_Book_iter : Stmt := inClass (top 27) 3
abbrev s_Book_len : Stmt := inClass (top 27) 2
abbrev s_Row_init : Stmt := inClass (top 21) 0
abbrev s_check_bound : Stmt := top 25
abbrev s_Row_signs : Stmt := inClass (top 21) 1
abbrev s_Rule_fits : Stmt := inClass (top 26) 2
abbrev s_Row_heights : Stmt := inClass (top 21) 2
abbrev s_Rule_written_height : Stmt := inClass (top 26) 3
abbrev s_Row_getitem : Stmt := inClass (top 21) 12
abbrev s_Row_add : Stmt := inClass (top 21) 7
abbrev s_Row_len : Stmt := inClass (top 21) 3
abbrev s_Rule_call : Stmt := inClass (top 26) 4
abbrev s_Book_take : Stmt := inClass (top 27) 12
abbrev s_Play_init : Stmt := inClass (top 29) 0
abbrev s_law_try_make : Stmt := top 44
abbrev s_Rule_str : Stmt := inClass (top 26) 1
abbrev s_Book_written : Stmt := inClass (top 27) 9
abbrev s_law_is_int : Stmt := top 36
abbrev s_Book_drop : Stmt := inClass (top 27) 8
abbrev s_Play_len : Stmt := inClass (top 29) 1
abbrev s_Play_iter : Stmt := inClass (top 29) 2
abbrev s_Play_rows : Stmt := inClass (top 29) 3
abbrev s_Row_iter : Stmt := inClass (top 21) 4
abbrev s_Row_abs : Stmt := inClass (top 21) 11
abbrev s_law_shows : Stmt := top 40
abbrev s_is_sign : Stmt := top 20
abbrev s_Row_setitem : Stmt := inClass (top 21) 13
abbrev s_Play_end : Stmt := inClass (top 29) 4
abbrev s_law_fine : Stmt := top 45
abbrev s_law : Stmt := top 46
abbrev s_BadLine_init : Stmt := inClass (top 10) 0
abbrev s_BadSign_init : Stmt := inClass (top 3) 0
abbrev s_BadRule_init : Stmt := inClass (top 7) 0
abbrev s_BookFull_init : Stmt := inClass (top 8) 0
abbrev s_Uneven_init : Stmt := inClass (top 4) 0
abbrev s_BadHeight_init : Stmt := inClass (top 5) 0
abbrev s_BadBound_init : Stmt := inClass (top 14) 0
abbrev s_NoRule_init : Stmt := inClass (top 9) 0
abbrev s_Mismatch_init : Stmt := inClass (top 11) 0
abbrev s_Beyond_init : Stmt := inClass (top 12) 0
abbrev s_NoPlace_init : Stmt := inClass (top 6) 0
abbrev s_BadPlay_init : Stmt := inClass (top 13) 0
structure Txt (P : Program) (K : Frg) (mg : Str → Option Value) : Prop where
  f_abs : mg "abs" = none
  f_int : mg "int" = none
  f_range : mg "range" = none
  F_law_pool : ∃ fd, FunD K "_law_pool" "_law_pool" (defArgs s_law_pool) (defBody s_law_pool) (defScope s_law_pool) [] [] (Rz.pG "_law_pool" K) fd
  g__law_pool : mg "_law_pool" = some (.ref (He.ga K "_law_pool"))
  F_law_pick : ∃ fd, FunD K "_law_pick" "_law_pick" (defArgs s_law_pick) (defBody s_law_pick) (defScope s_law_pick) [] [] (Rz.pG "_law_pick" K) fd
  f_len : mg "len" = none
  g__law_pick : mg "_law_pick" = some (.ref (He.ga K "_law_pick"))
  F_law_alphabet : ∃ fd, FunD K "_law_alphabet" "_law_alphabet" (defArgs s_law_alphabet) (defBody s_law_alphabet) (defScope s_law_alphabet) [] [] (Rz.pG "_law_alphabet" K) fd
  g__law_alphabet : mg "_law_alphabet" = some (.ref (He.ga K "_law_alphabet"))
  F_law_word_of : ∃ fd, FunD K "_law_word_of" "_law_word_of" (defArgs s_law_word_of) (defBody s_law_word_of) (defScope s_law_word_of) [] [] (Rz.pG "_law_word_of" K) fd
  g__law_word_of : mg "_law_word_of" = some (.ref (He.ga K "_law_word_of"))
  F_law_book_of : ∃ fd, FunD K "_law_book_of" "_law_book_of" (defArgs s_law_book_of) (defBody s_law_book_of) (defScope s_law_book_of) [] [] (Rz.pG "_law_book_of" K) fd
  g__law_book_of : mg "_law_book_of" = some (.ref (He.ga K "_law_book_of"))
  f_min : mg "min" = none
  F_law_take : ∃ fd, FunD K "_law_take" "_law_take" (defArgs s_law_take) (defBody s_law_take) (defScope s_law_take) [] [] (Rz.pG "_law_take" K) fd
  g__law_take : mg "_law_take" = some (.ref (He.ga K "_law_take"))
  f_max : mg "max" = none
  F_law_top : ∃ fd, FunD K "_law_top" "_law_top" (defArgs s_law_top) (defBody s_law_top) (defScope s_law_top) [] [] (Rz.pG "_law_top" K) fd
  g__law_top : mg "_law_top" = some (.ref (He.ga K "_law_top"))
  F_law_open_steps : ∃ fd, FunD K "_law_open_steps" "_law_open_steps" (defArgs s_law_open_steps) (defBody s_law_open_steps) (defScope s_law_open_steps) [] [] (Rz.pG "_law_open_steps" K) fd
  g__law_open_steps : mg "_law_open_steps" = some (.ref (He.ga K "_law_open_steps"))
  F_law_bad_step : ∃ fd, FunD K "_law_bad_step" "_law_bad_step" (defArgs s_law_bad_step) (defBody s_law_bad_step) (defScope s_law_bad_step) [] [] (Rz.pG "_law_bad_step" K) fd
  g__law_bad_step : mg "_law_bad_step" = some (.ref (He.ga K "_law_bad_step"))
  F_law_odd_sign : ∃ fd, FunD K "_law_odd_sign" "_law_odd_sign" (defArgs s_law_odd_sign) (defBody s_law_odd_sign) (defScope s_law_odd_sign) [] [] (Rz.pG "_law_odd_sign" K) fd
  g__law_odd_sign : mg "_law_odd_sign" = some (.ref (He.ga K "_law_odd_sign"))
  ty_Row : C8.InsC K (He.ga K "Row")
  f_bytes : mg "bytes" = none
  f_isinstance : mg "isinstance" = none
  F_as_string : ∃ fd, FunD K "as_string" "as_string" (defArgs s_as_string) (defBody s_as_string) (defScope s_as_string) [] [] (Rz.pG "as_string" K) fd
  g_as_string : mg "as_string" = some (.ref (He.ga K "as_string"))
  f_enumerate : mg "enumerate" = none
  xb_BadLine : Rz.ExC K (He.ga K "BadLine") ∧ XfC K (He.ga K "BadLine")
  n_BadLine_line : NoAttr K (He.ga K "BadLine") "line"
  x_BadLine : Rz.ExOne P K (He.ga K "BadLine") "line"
  f_super : mg "super" = none
  g_BadLine : mg "BadLine" = some (.ref (He.ga K "BadLine"))
  k_SIGNS : ∃ t, mg "SIGNS" = some (.str "abcdefghijklmnopqrstuvwxyz" t)
  xb_BadSign : Rz.ExC K (He.ga K "BadSign") ∧ XfC K (He.ga K "BadSign")
  n_BadSign_at : NoAttr K (He.ga K "BadSign") "at"
  x_BadSign : Rz.ExOne P K (He.ga K "BadSign") "at"
  g_BadSign : mg "BadSign" = some (.ref (He.ga K "BadSign"))
  F_check_text : ∃ fd, FunD K "check_text" "check_text" (defArgs s_check_text) (defBody s_check_text) (defScope s_check_text) [] [] (Rz.pG "check_text" K) fd
  g_check_text : mg "check_text" = some (.ref (He.ga K "check_text"))
  k_MOST_SIGNS : ∃ t, mg "MOST_SIGNS" = some (.int 4 t)
  xb_BadRule : Rz.ExC K (He.ga K "BadRule") ∧ XfC K (He.ga K "BadRule")
  x_BadRule : Rz.ExZero P K (He.ga K "BadRule")
  g_BadRule : mg "BadRule" = some (.ref (He.ga K "BadRule"))
  n_Rule_left : NoAttr K (He.ga K "Rule") "left"
  c_Rule : Cls K (He.ga K "Rule")
  n_Rule_right : NoAttr K (He.ga K "Rule") "right"
  F_Rule_init : ∃ fd, FunD K "__init__" "Rule.__init__" (defArgs s_Rule_init) (defBody s_Rule_init) (defScope s_Rule_init) [.str ""] [] (Rz.pM "Rule" "__init__" K) fd
  mk_Rule : Mk K (He.ga K "Rule") (Rz.pM "Rule" "__init__" K)
  g_Rule : mg "Rule" = some (.ref (He.ga K "Rule"))
  g_RiseError : mg "RiseError" = some (.ref (He.ga K "RiseError"))
  n_Book_rules : NoAttr K (He.ga K "Book") "rules"
  c_Book : Cls K (He.ga K "Book")
  k_MOST_RULES : ∃ t, mg "MOST_RULES" = some (.int 6 t)
  xb_BookFull : Rz.ExC K (He.ga K "BookFull") ∧ XfC K (He.ga K "BookFull")
  x_BookFull : Rz.ExZero P K (He.ga K "BookFull")
  g_BookFull : mg "BookFull" = some (.ref (He.ga K "BookFull"))
  F_Book_add : ∃ fd, FunD K "add" "Book.add" (defArgs s_Book_add) (defBody s_Book_add) (defScope s_Book_add) [] [] (Rz.pM "Book" "add" K) fd
  m_Book_add : Meth K (He.ga K "Book") "add" (Rz.pM "Book" "add" K)
  F_Book_init : ∃ fd, FunD K "__init__" "Book.__init__" (defArgs s_Book_init) (defBody s_Book_init) (defScope s_Book_init) [] [] (Rz.pM "Book" "__init__" K) fd
  mk_Book : Mk K (He.ga K "Book") (Rz.pM "Book" "__init__" K)
  F_Book_read : ∃ fd, FunD K "read" "Book.read" (defArgs s_Book_read) (defBody s_Book_read) (defScope s_Book_read) [] [] (Rz.pC "Book" "read" K) fd
  F_law_lines_of : ∃ fd, FunD K "_law_lines_of" "_law_lines_of" (defArgs s_law_lines_of) (defBody s_law_lines_of) (defScope s_law_lines_of) [] [] (Rz.pG "_law_lines_of" K) fd
  g__law_lines_of : mg "_law_lines_of" = some (.ref (He.ga K "_law_lines_of"))
  cm_Book_read : CmC K (He.ga K "Book") "read" (Rz.recAt "Book" "read" K) (Rz.pC "Book" "read" K)
  g_Book : mg "Book" = some (.ref (He.ga K "Book"))
  f_list : mg "list" = none
  f_iter : mg "iter" = none
  F_Book_iter : ∃ fd, FunD K "__iter__" "Book.__iter__" (defArgs s_Book_iter) (defBody s_Book_iter) (defScope s_Book_iter) [] [] (Rz.pM "Book" "__iter__" K) fd
  F_Book_len : ∃ fd, FunD K "__len__" "Book.__len__" (defArgs s_Book_len) (defBody s_Book_len) (defScope s_Book_len) [] [] (Rz.pM "Book" "__len__" K) fd
  m_Book___iter__ : Meth K (He.ga K "Book") "__iter__" (Rz.pM "Book" "__iter__" K)
  m_Book___len__ : Meth K (He.ga K "Book") "__len__" (Rz.pM "Book" "__len__" K)
  n_Play_book : NoAttr K (He.ga K "Play") "book"
  c_Play : Cls K (He.ga K "Play")
  n_Play_text : NoAttr K (He.ga K "Play") "text"
  n_Play_taken : NoAttr K (He.ga K "Play") "taken"
  xb_Uneven : Rz.ExC K (He.ga K "Uneven") ∧ XfC K (He.ga K "Uneven")
  x_Uneven : Rz.ExZero P K (He.ga K "Uneven")
  g_Uneven : mg "Uneven" = some (.ref (He.ga K "Uneven"))
  k_TOP : ∃ t, mg "TOP" = some (.int 9 t)
  xb_BadHeight : Rz.ExC K (He.ga K "BadHeight") ∧ XfC K (He.ga K "BadHeight")
  n_BadHeight_height : NoAttr K (He.ga K "BadHeight") "height"
  x_BadHeight : Rz.ExOne P K (He.ga K "BadHeight") "height"
  g_BadHeight : mg "BadHeight" = some (.ref (He.ga K "BadHeight"))
  f_zip : mg "zip" = none
  n_Row_pairs : NoAttr K (He.ga K "Row") "pairs"
  c_Row : Cls K (He.ga K "Row")
  F_Row_init : ∃ fd, FunD K "__init__" "Row.__init__" (defArgs s_Row_init) (defBody s_Row_init) (defScope s_Row_init) [.str "", .non] [] (Rz.pM "Row" "__init__" K) fd
  mk_Row : Mk K (He.ga K "Row") (Rz.pM "Row" "__init__" K)
  g_Row : mg "Row" = some (.ref (He.ga K "Row"))
  xb_BadBound : Rz.ExC K (He.ga K "BadBound") ∧ XfC K (He.ga K "BadBound")
  n_BadBound_most : NoAttr K (He.ga K "BadBound") "most"
  x_BadBound : Rz.ExOne P K (He.ga K "BadBound") "most"
  g_BadBound : mg "BadBound" = some (.ref (He.ga K "BadBound"))
  F_check_bound : ∃ fd, FunD K "check_bound" "check_bound" (defArgs s_check_bound) (defBody s_check_bound) (defScope s_check_bound) [] [] (Rz.pG "check_bound" K) fd
  g_check_bound : mg "check_bound" = some (.ref (He.ga K "check_bound"))
  xb_NoRule : Rz.ExC K (He.ga K "NoRule") ∧ XfC K (He.ga K "NoRule")
  n_NoRule_number : NoAttr K (He.ga K "NoRule") "number"
  x_NoRule : Rz.ExOne P K (He.ga K "NoRule") "number"
  g_NoRule : mg "NoRule" = some (.ref (He.ga K "NoRule"))
  F_Row_signs : ∃ fd, FunD K "signs" "Row.signs" (defArgs s_Row_signs) (defBody s_Row_signs) (defScope s_Row_signs) [] [] (Rz.pP "Row" "signs" K) fd
  p_Row_signs : PropOf K (He.ga K "Row") "signs" (Rz.recAt "Row" "signs" K) (Rz.pP "Row" "signs" K)
  F_Rule_fits : ∃ fd, FunD K "fits" "Rule.fits" (defArgs s_Rule_fits) (defBody s_Rule_fits) (defScope s_Rule_fits) [] [] (Rz.pM "Rule" "fits" K) fd
  m_Rule_fits : Meth K (He.ga K "Rule") "fits" (Rz.pM "Rule" "fits" K)
  xb_Mismatch : Rz.ExC K (He.ga K "Mismatch") ∧ XfC K (He.ga K "Mismatch")
  n_Mismatch_at : NoAttr K (He.ga K "Mismatch") "at"
  x_Mismatch : Rz.ExOne P K (He.ga K "Mismatch") "at"
  g_Mismatch : mg "Mismatch" = some (.ref (He.ga K "Mismatch"))
  F_Row_heights : ∃ fd, FunD K "heights" "Row.heights" (defArgs s_Row_heights) (defBody s_Row_heights) (defScope s_Row_heights) [] [] (Rz.pP "Row" "heights" K) fd
  p_Row_heights : PropOf K (He.ga K "Row") "heights" (Rz.recAt "Row" "heights" K) (Rz.pP "Row" "heights" K)
  F_Rule_written_height : ∃ fd, FunD K "written_height" "Rule.written_height" (defArgs s_Rule_written_height) (defBody s_Rule_written_height) (defScope s_Rule_written_height) [] [] (Rz.pM "Rule" "written_height" K) fd
  m_Rule_written_height : Meth K (He.ga K "Rule") "written_height" (Rz.pM "Rule" "written_height" K)
  xb_Beyond : Rz.ExC K (He.ga K "Beyond") ∧ XfC K (He.ga K "Beyond")
  n_Beyond_height : NoAttr K (He.ga K "Beyond") "height"
  x_Beyond : Rz.ExOne P K (He.ga K "Beyond") "height"
  g_Beyond : mg "Beyond" = some (.ref (He.ga K "Beyond"))
  xb_NoPlace : Rz.ExC K (He.ga K "NoPlace") ∧ XfC K (He.ga K "NoPlace")
  n_NoPlace_at : NoAttr K (He.ga K "NoPlace") "at"
  x_NoPlace : Rz.ExOne P K (He.ga K "NoPlace") "at"
  g_NoPlace : mg "NoPlace" = some (.ref (He.ga K "NoPlace"))
  F_Row_getitem : ∃ fd, FunD K "__getitem__" "Row.__getitem__" (defArgs s_Row_getitem) (defBody s_Row_getitem) (defScope s_Row_getitem) [] [] (Rz.pM "Row" "__getitem__" K) fd
  m_Row___getitem__ : Meth K (He.ga K "Row") "__getitem__" (Rz.pM "Row" "__getitem__" K)
  op_Row : OpC K (He.ga K "Row")
  F_Row_add : ∃ fd, FunD K "__add__" "Row.__add__" (defArgs s_Row_add) (defBody s_Row_add) (defScope s_Row_add) [] [] (Rz.pM "Row" "__add__" K) fd
  m_Row___add__ : Meth K (He.ga K "Row") "__add__" (Rz.pM "Row" "__add__" K)
  F_Row_len : ∃ fd, FunD K "__len__" "Row.__len__" (defArgs s_Row_len) (defBody s_Row_len) (defScope s_Row_len) [] [] (Rz.pM "Row" "__len__" K) fd
  m_Row___len__ : Meth K (He.ga K "Row") "__len__" (Rz.pM "Row" "__len__" K)
  F_Rule_call : ∃ fd, FunD K "__call__" "Rule.__call__" (defArgs s_Rule_call) (defBody s_Rule_call) (defScope s_Rule_call) [.int 0] [] (Rz.pM "Rule" "__call__" K) fd
  m_Rule___call__ : Meth K (He.ga K "Rule") "__call__" (Rz.pM "Rule" "__call__" K)
  F_Book_take : ∃ fd, FunD K "take" "Book.take" (defArgs s_Book_take) (defBody s_Book_take) (defScope s_Book_take) [] [("most", .int 9)] (Rz.pM "Book" "take" K) fd
  m_Book_take : Meth K (He.ga K "Book") "take" (Rz.pM "Book" "take" K)
  xb_BadPlay : Rz.ExC K (He.ga K "BadPlay") ∧ XfC K (He.ga K "BadPlay")
  n_BadPlay_step : NoAttr K (He.ga K "BadPlay") "step"
  x_BadPlay : Rz.ExOne P K (He.ga K "BadPlay") "step"
  g_BadPlay : mg "BadPlay" = some (.ref (He.ga K "BadPlay"))
  F_Play_init : ∃ fd, FunD K "__init__" "Play.__init__" (defArgs s_Play_init) (defBody s_Play_init) (defScope s_Play_init) [] [] (Rz.pM "Play" "__init__" K) fd
  mk_Play : Mk K (He.ga K "Play") (Rz.pM "Play" "__init__" K)
  g_Play : mg "Play" = some (.ref (He.ga K "Play"))
  F_law_try_make : ∃ fd, FunD K "_law_try_make" "_law_try_make" (defArgs s_law_try_make) (defBody s_law_try_make) (defScope s_law_try_make) [] [] (Rz.pG "_law_try_make" K) fd
  g__law_try_make : mg "_law_try_make" = some (.ref (He.ga K "_law_try_make"))
  F_Rule_str : ∃ fd, FunD K "__str__" "Rule.__str__" (defArgs s_Rule_str) (defBody s_Rule_str) (defScope s_Rule_str) [] [] (Rz.pM "Rule" "__str__" K) fd
  m_Rule___str__ : Meth K (He.ga K "Rule") "__str__" (Rz.pM "Rule" "__str__" K)
  f_str : mg "str" = none
  F_Book_written : ∃ fd, FunD K "written" "Book.written" (defArgs s_Book_written) (defBody s_Book_written) (defScope s_Book_written) [] [] (Rz.pM "Book" "written" K) fd
  m_Book_written : Meth K (He.ga K "Book") "written" (Rz.pM "Book" "written" K)
  f_bool : mg "bool" = none
  F_law_is_int : ∃ fd, FunD K "_law_is_int" "_law_is_int" (defArgs s_law_is_int) (defBody s_law_is_int) (defScope s_law_is_int) [] [] (Rz.pG "_law_is_int" K) fd
  g__law_is_int : mg "_law_is_int" = some (.ref (He.ga K "_law_is_int"))
  F_Book_drop : ∃ fd, FunD K "drop" "Book.drop" (defArgs s_Book_drop) (defBody s_Book_drop) (defScope s_Book_drop) [] [] (Rz.pM "Book" "drop" K) fd
  m_Book_drop : Meth K (He.ga K "Book") "drop" (Rz.pM "Book" "drop" K)
  F_Play_len : ∃ fd, FunD K "__len__" "Play.__len__" (defArgs s_Play_len) (defBody s_Play_len) (defScope s_Play_len) [] [] (Rz.pM "Play" "__len__" K) fd
  m_Play___len__ : Meth K (He.ga K "Play") "__len__" (Rz.pM "Play" "__len__" K)
  F_Play_iter : ∃ fd, FunD K "__iter__" "Play.__iter__" (defArgs s_Play_iter) (defBody s_Play_iter) (defScope s_Play_iter) [] [] (Rz.pM "Play" "__iter__" K) fd
  m_Play___iter__ : Meth K (He.ga K "Play") "__iter__" (Rz.pM "Play" "__iter__" K)
  f_tuple : mg "tuple" = none
  F_Play_rows : ∃ fd, FunD K "rows" "Play.rows" (defArgs s_Play_rows) (defBody s_Play_rows) (defScope s_Play_rows) [] [] (Rz.pM "Play" "rows" K) fd
  m_Play_rows : Meth K (He.ga K "Play") "rows" (Rz.pM "Play" "rows" K)
  F_Row_iter : ∃ fd, FunD K "__iter__" "Row.__iter__" (defArgs s_Row_iter) (defBody s_Row_iter) (defScope s_Row_iter) [] [] (Rz.pM "Row" "__iter__" K) fd
  m_Row___iter__ : Meth K (He.ga K "Row") "__iter__" (Rz.pM "Row" "__iter__" K)
  F_Row_abs : ∃ fd, FunD K "__abs__" "Row.__abs__" (defArgs s_Row_abs) (defBody s_Row_abs) (defScope s_Row_abs) [] [] (Rz.pM "Row" "__abs__" K) fd
  m_Row___abs__ : Meth K (He.ga K "Row") "__abs__" (Rz.pM "Row" "__abs__" K)
  F_law_shows : ∃ fd, FunD K "_law_shows" "_law_shows" (defArgs s_law_shows) (defBody s_law_shows) (defScope s_law_shows) [] [] (Rz.pG "_law_shows" K) fd
  g__law_shows : mg "_law_shows" = some (.ref (He.ga K "_law_shows"))
  F_is_sign : ∃ fd, FunD K "is_sign" "is_sign" (defArgs s_is_sign) (defBody s_is_sign) (defScope s_is_sign) [] [] (Rz.pG "is_sign" K) fd
  g_is_sign : mg "is_sign" = some (.ref (He.ga K "is_sign"))
  F_Row_setitem : ∃ fd, FunD K "__setitem__" "Row.__setitem__" (defArgs s_Row_setitem) (defBody s_Row_setitem) (defScope s_Row_setitem) [] [] (Rz.pM "Row" "__setitem__" K) fd
  m_Row___setitem__ : Meth K (He.ga K "Row") "__setitem__" (Rz.pM "Row" "__setitem__" K)
  F_Play_end : ∃ fd, FunD K "end" "Play.end" (defArgs s_Play_end) (defBody s_Play_end) (defScope s_Play_end) [] [] (Rz.pM "Play" "end" K) fd
  m_Play_end : Meth K (He.ga K "Play") "end" (Rz.pM "Play" "end" K)
  F_law_fine : ∃ fd, FunD K "_law_fine" "_law_fine" (defArgs s_law_fine) (defBody s_law_fine) (defScope s_law_fine) [] [] (Rz.pG "_law_fine" K) fd
  g__law_fine : mg "_law_fine" = some (.ref (He.ga K "_law_fine"))
  F_law : ∃ fd, FunD K "law" "law" (defArgs s_law) (defBody s_law) (defScope s_law) [] [] (Rz.pG "law" K) fd
  g_law : mg "law" = some (.ref (He.ga K "law"))
  e_BadLine_RiseError : PySem.W.exmOne K (.ref (He.ga K "BadLine")) (.ref (He.ga K "RiseError")) = some true
  e_BadLine_BadSign : PySem.W.exmOne K (.ref (He.ga K "BadLine")) (.ref (He.ga K "BadSign")) = some false
  e_BadLine_BadPlay : PySem.W.exmOne K (.ref (He.ga K "BadLine")) (.ref (He.ga K "BadPlay")) = some false
  e_BadSign_RiseError : PySem.W.exmOne K (.ref (He.ga K "BadSign")) (.ref (He.ga K "RiseError")) = some true
  e_BadSign_BadSign : PySem.W.exmOne K (.ref (He.ga K "BadSign")) (.ref (He.ga K "BadSign")) = some true
  e_BadSign_BadPlay : PySem.W.exmOne K (.ref (He.ga K "BadSign")) (.ref (He.ga K "BadPlay")) = some false
  e_BadRule_RiseError : PySem.W.exmOne K (.ref (He.ga K "BadRule")) (.ref (He.ga K "RiseError")) = some true
  e_BadRule_BadSign : PySem.W.exmOne K (.ref (He.ga K "BadRule")) (.ref (He.ga K "BadSign")) = some false
  e_BadRule_BadPlay : PySem.W.exmOne K (.ref (He.ga K "BadRule")) (.ref (He.ga K "BadPlay")) = some false
  e_BookFull_RiseError : PySem.W.exmOne K (.ref (He.ga K "BookFull")) (.ref (He.ga K "RiseError")) = some true
  e_BookFull_BadSign : PySem.W.exmOne K (.ref (He.ga K "BookFull")) (.ref (He.ga K "BadSign")) = some false
  e_BookFull_BadPlay : PySem.W.exmOne K (.ref (He.ga K "BookFull")) (.ref (He.ga K "BadPlay")) = some false
  e_Uneven_RiseError : PySem.W.exmOne K (.ref (He.ga K "Uneven")) (.ref (He.ga K "RiseError")) = some true
  e_Uneven_BadSign : PySem.W.exmOne K (.ref (He.ga K "Uneven")) (.ref (He.ga K "BadSign")) = some false
  e_Uneven_BadPlay : PySem.W.exmOne K (.ref (He.ga K "Uneven")) (.ref (He.ga K "BadPlay")) = some false
  e_BadHeight_RiseError : PySem.W.exmOne K (.ref (He.ga K "BadHeight")) (.ref (He.ga K "RiseError")) = some true
  e_BadHeight_BadSign : PySem.W.exmOne K (.ref (He.ga K "BadHeight")) (.ref (He.ga K "BadSign")) = some false
  e_BadHeight_BadPlay : PySem.W.exmOne K (.ref (He.ga K "BadHeight")) (.ref (He.ga K "BadPlay")) = some false
  e_BadBound_RiseError : PySem.W.exmOne K (.ref (He.ga K "BadBound")) (.ref (He.ga K "RiseError")) = some true
  e_BadBound_BadSign : PySem.W.exmOne K (.ref (He.ga K "BadBound")) (.ref (He.ga K "BadSign")) = some false
  e_BadBound_BadPlay : PySem.W.exmOne K (.ref (He.ga K "BadBound")) (.ref (He.ga K "BadPlay")) = some false
  e_NoRule_RiseError : PySem.W.exmOne K (.ref (He.ga K "NoRule")) (.ref (He.ga K "RiseError")) = some true
  e_NoRule_BadSign : PySem.W.exmOne K (.ref (He.ga K "NoRule")) (.ref (He.ga K "BadSign")) = some false
  e_NoRule_BadPlay : PySem.W.exmOne K (.ref (He.ga K "NoRule")) (.ref (He.ga K "BadPlay")) = some false
  e_Mismatch_RiseError : PySem.W.exmOne K (.ref (He.ga K "Mismatch")) (.ref (He.ga K "RiseError")) = some true
  e_Mismatch_BadSign : PySem.W.exmOne K (.ref (He.ga K "Mismatch")) (.ref (He.ga K "BadSign")) = some false
  e_Mismatch_BadPlay : PySem.W.exmOne K (.ref (He.ga K "Mismatch")) (.ref (He.ga K "BadPlay")) = some false
  e_Beyond_RiseError : PySem.W.exmOne K (.ref (He.ga K "Beyond")) (.ref (He.ga K "RiseError")) = some true
  e_Beyond_BadSign : PySem.W.exmOne K (.ref (He.ga K "Beyond")) (.ref (He.ga K "BadSign")) = some false
  e_Beyond_BadPlay : PySem.W.exmOne K (.ref (He.ga K "Beyond")) (.ref (He.ga K "BadPlay")) = some false
  e_NoPlace_RiseError : PySem.W.exmOne K (.ref (He.ga K "NoPlace")) (.ref (He.ga K "RiseError")) = some true
  e_NoPlace_BadSign : PySem.W.exmOne K (.ref (He.ga K "NoPlace")) (.ref (He.ga K "BadSign")) = some false
  e_NoPlace_BadPlay : PySem.W.exmOne K (.ref (He.ga K "NoPlace")) (.ref (He.ga K "BadPlay")) = some false
  e_BadPlay_RiseError : PySem.W.exmOne K (.ref (He.ga K "BadPlay")) (.ref (He.ga K "RiseError")) = some true
  e_BadPlay_BadSign : PySem.W.exmOne K (.ref (He.ga K "BadPlay")) (.ref (He.ga K "BadSign")) = some false
  e_BadPlay_BadPlay : PySem.W.exmOne K (.ref (He.ga K "BadPlay")) (.ref (He.ga K "BadPlay")) = some true
def fa0 : List (Rz.Fg → Bool) := [
  fun K => (He.Fa.free "abs").ok K,
  fun K => (He.Fa.free "int").ok K,
  fun K => (He.Fa.free "range").ok K,
  fun K => (He.Fa.glo "_law_pool").ok K,
  fun K => (He.Fa.free "len").ok K,
  fun K => (He.Fa.glo "_law_pick").ok K,
  fun K => (He.Fa.glo "_law_alphabet").ok K,
  fun K => (He.Fa.glo "_law_word_of").ok K,
  fun K => (He.Fa.glo "_law_book_of").ok K,
  fun K => (He.Fa.free "min").ok K,
  fun K => (He.Fa.glo "_law_take").ok K,
  fun K => (He.Fa.free "max").ok K,
  fun K => (He.Fa.glo "_law_top").ok K,
  fun K => (He.Fa.glo "_law_open_steps").ok K,
  fun K => (He.Fa.glo "_law_bad_step").ok K,
  fun K => (He.Fa.glo "_law_odd_sign").ok K,
  Rz.tyB "Row",
  fun K => (He.Fa.free "bytes").ok K,
  fun K => (He.Fa.free "isinstance").ok K,
  fun K => (He.Fa.glo "as_string").ok K,
  fun K => (He.Fa.free "enumerate").ok K,
  Rz.excB "BadLine",
  fun K => (He.Fa.noat "BadLine" "line").ok K,
  Rz.iniB PROG "BadLine",
  fun K => (He.Fa.free "super").ok K,
  fun K => (He.Fa.glo "BadLine").ok K,
  fun K => (He.Fa.str "SIGNS" "abcdefghijklmnopqrstuvwxyz").ok K,
  Rz.excB "BadSign",
  fun K => (He.Fa.noat "BadSign" "at").ok K,
  Rz.iniB PROG "BadSign",
  fun K => (He.Fa.glo "BadSign").ok K,
  fun K => (He.Fa.glo "check_text").ok K,
  fun K => (He.Fa.int "MOST_SIGNS" 4).ok K,
  Rz.excB "BadRule",
  Rz.iniB PROG "BadRule",
  fun K => (He.Fa.glo "BadRule").ok K,
  fun K => (He.Fa.noat "Rule" "left").ok K,
  fun K => (He.Fa.cls "Rule").ok K,
  fun K => (He.Fa.noat "Rule" "right").ok K,
  fun K => (He.Fa.mkr "Rule").ok K,
  fun K => (He.Fa.glo "Rule").ok K,
  fun K => (He.Fa.glo "RiseError").ok K,
  fun K => (He.Fa.noat "Book" "rules").ok K,
  fun K => (He.Fa.cls "Book").ok K,
  fun K => (He.Fa.int "MOST_RULES" 6).ok K,
  Rz.excB "BookFull",
  Rz.iniB PROG "BookFull",
  fun K => (He.Fa.glo "BookFull").ok K]
def fa1 : List (Rz.Fg → Bool) := [
  fun K => (He.Fa.meth "Book" "add").ok K,
  fun K => (He.Fa.mkr "Book").ok K,
  fun K => (He.Fa.glo "_law_lines_of").ok K,
  Rz.cmB "Book" "read",
  fun K => (He.Fa.glo "Book").ok K,
  fun K => (He.Fa.free "list").ok K,
  fun K => (He.Fa.free "iter").ok K,
  fun K => (He.Fa.meth "Book" "__iter__").ok K,
  fun K => (He.Fa.meth "Book" "__len__").ok K,
  fun K => (He.Fa.noat "Play" "book").ok K,
  fun K => (He.Fa.cls "Play").ok K,
  fun K => (He.Fa.noat "Play" "text").ok K,
  fun K => (He.Fa.noat "Play" "taken").ok K,
  Rz.excB "Uneven",
  Rz.iniB PROG "Uneven",
  fun K => (He.Fa.glo "Uneven").ok K,
  fun K => (He.Fa.int "TOP" 9).ok K,
  Rz.excB "BadHeight",
  fun K => (He.Fa.noat "BadHeight" "height").ok K,
  Rz.iniB PROG "BadHeight",
  fun K => (He.Fa.glo "BadHeight").ok K,
  fun K => (He.Fa.free "zip").ok K,
  fun K => (He.Fa.noat "Row" "pairs").ok K,
  fun K => (He.Fa.cls "Row").ok K,
  fun K => (He.Fa.mkr "Row").ok K,
  fun K => (He.Fa.glo "Row").ok K,
  Rz.excB "BadBound",
  fun K => (He.Fa.noat "BadBound" "most").ok K,
  Rz.iniB PROG "BadBound",
  fun K => (He.Fa.glo "BadBound").ok K,
  fun K => (He.Fa.glo "check_bound").ok K,
  Rz.excB "NoRule",
  fun K => (He.Fa.noat "NoRule" "number").ok K,
  Rz.iniB PROG "NoRule",
  fun K => (He.Fa.glo "NoRule").ok K,
  Rz.propB "Row" "signs",
  fun K => (He.Fa.meth "Rule" "fits").ok K,
  Rz.excB "Mismatch",
  fun K => (He.Fa.noat "Mismatch" "at").ok K,
  Rz.iniB PROG "Mismatch",
  fun K => (He.Fa.glo "Mismatch").ok K,
  Rz.propB "Row" "heights",
  fun K => (He.Fa.meth "Rule" "written_height").ok K,
  Rz.excB "Beyond",
  fun K => (He.Fa.noat "Beyond" "height").ok K,
  Rz.iniB PROG "Beyond",
  fun K => (He.Fa.glo "Beyond").ok K,
  Rz.excB "NoPlace"]
def fa2 : List (Rz.Fg → Bool) := [
  fun K => (He.Fa.noat "NoPlace" "at").ok K,
  Rz.iniB PROG "NoPlace",
  fun K => (He.Fa.glo "NoPlace").ok K,
  fun K => (He.Fa.meth "Row" "__getitem__").ok K,
  Rz.opB "Row",
  fun K => (He.Fa.meth "Row" "__add__").ok K,
  fun K => (He.Fa.meth "Row" "__len__").ok K,
  fun K => (He.Fa.meth "Rule" "__call__").ok K,
  fun K => (He.Fa.meth "Book" "take").ok K,
  Rz.excB "BadPlay",
  fun K => (He.Fa.noat "BadPlay" "step").ok K,
  Rz.iniB PROG "BadPlay",
  fun K => (He.Fa.glo "BadPlay").ok K,
  fun K => (He.Fa.mkr "Play").ok K,
  fun K => (He.Fa.glo "Play").ok K,
  fun K => (He.Fa.glo "_law_try_make").ok K,
  fun K => (He.Fa.meth "Rule" "__str__").ok K,
  fun K => (He.Fa.free "str").ok K,
  fun K => (He.Fa.meth "Book" "written").ok K,
  fun K => (He.Fa.free "bool").ok K,
  fun K => (He.Fa.glo "_law_is_int").ok K,
  fun K => (He.Fa.meth "Book" "drop").ok K,
  fun K => (He.Fa.meth "Play" "__len__").ok K,
  fun K => (He.Fa.meth "Play" "__iter__").ok K,
  fun K => (He.Fa.free "tuple").ok K,
  fun K => (He.Fa.meth "Play" "rows").ok K,
  fun K => (He.Fa.meth "Row" "__iter__").ok K,
  fun K => (He.Fa.meth "Row" "__abs__").ok K,
  fun K => (He.Fa.glo "_law_shows").ok K,
  fun K => (He.Fa.glo "is_sign").ok K,
  fun K => (He.Fa.meth "Row" "__setitem__").ok K,
  fun K => (He.Fa.meth "Play" "end").ok K,
  fun K => (He.Fa.glo "_law_fine").ok K,
  fun K => (He.Fa.glo "law").ok K,
  fun K => (He.Fa.exm "BadLine" "RiseError" true).ok K,
  fun K => (He.Fa.exm "BadLine" "BadSign" false).ok K,
  fun K => (He.Fa.exm "BadLine" "BadPlay" false).ok K,
  fun K => (He.Fa.exm "BadSign" "RiseError" true).ok K,
  fun K => (He.Fa.exm "BadSign" "BadSign" true).ok K,
  fun K => (He.Fa.exm "BadSign" "BadPlay" false).ok K,
  fun K => (He.Fa.exm "BadRule" "RiseError" true).ok K,
  fun K => (He.Fa.exm "BadRule" "BadSign" false).ok K,
  fun K => (He.Fa.exm "BadRule" "BadPlay" false).ok K,
  fun K => (He.Fa.exm "BookFull" "RiseError" true).ok K,
  fun K => (He.Fa.exm "BookFull" "BadSign" false).ok K,
  fun K => (He.Fa.exm "BookFull" "BadPlay" false).ok K,
  fun K => (He.Fa.exm "Uneven" "RiseError" true).ok K,
  fun K => (He.Fa.exm "Uneven" "BadSign" false).ok K]
def fa3 : List (Rz.Fg → Bool) := [
  fun K => (He.Fa.exm "Uneven" "BadPlay" false).ok K,
  fun K => (He.Fa.exm "BadHeight" "RiseError" true).ok K,
  fun K => (He.Fa.exm "BadHeight" "BadSign" false).ok K,
  fun K => (He.Fa.exm "BadHeight" "BadPlay" false).ok K,
  fun K => (He.Fa.exm "BadBound" "RiseError" true).ok K,
  fun K => (He.Fa.exm "BadBound" "BadSign" false).ok K,
  fun K => (He.Fa.exm "BadBound" "BadPlay" false).ok K,
  fun K => (He.Fa.exm "NoRule" "RiseError" true).ok K,
  fun K => (He.Fa.exm "NoRule" "BadSign" false).ok K,
  fun K => (He.Fa.exm "NoRule" "BadPlay" false).ok K,
  fun K => (He.Fa.exm "Mismatch" "RiseError" true).ok K,
  fun K => (He.Fa.exm "Mismatch" "BadSign" false).ok K,
  fun K => (He.Fa.exm "Mismatch" "BadPlay" false).ok K,
  fun K => (He.Fa.exm "Beyond" "RiseError" true).ok K,
  fun K => (He.Fa.exm "Beyond" "BadSign" false).ok K,
  fun K => (He.Fa.exm "Beyond" "BadPlay" false).ok K,
  fun K => (He.Fa.exm "NoPlace" "RiseError" true).ok K,
  fun K => (He.Fa.exm "NoPlace" "BadSign" false).ok K,
  fun K => (He.Fa.exm "NoPlace" "BadPlay" false).ok K,
  fun K => (He.Fa.exm "BadPlay" "RiseError" true).ok K,
  fun K => (He.Fa.exm "BadPlay" "BadSign" false).ok K,
  fun K => (He.Fa.exm "BadPlay" "BadPlay" true).ok K]
def d_law_pool : Rz.Dq := ⟨Rz.pG "_law_pool", "_law_pool", "_law_pool", defArgs s_law_pool, defBody s_law_pool, defScope s_law_pool, [], [], []⟩
def d_law_pick : Rz.Dq := ⟨Rz.pG "_law_pick", "_law_pick", "_law_pick", defArgs s_law_pick, defBody s_law_pick, defScope s_law_pick, [], [], []⟩
def d_law_alphabet : Rz.Dq := ⟨Rz.pG "_law_alphabet", "_law_alphabet", "_law_alphabet", defArgs s_law_alphabet, defBody s_law_alphabet, defScope s_law_alphabet, [], [], []⟩
def d_law_word_of : Rz.Dq := ⟨Rz.pG "_law_word_of", "_law_word_of", "_law_word_of", defArgs s_law_word_of, defBody s_law_word_of, defScope s_law_word_of, [], [], []⟩
def d_law_book_of : Rz.Dq := ⟨Rz.pG "_law_book_of", "_law_book_of", "_law_book_of", defArgs s_law_book_of, defBody s_law_book_of, defScope s_law_book_of, [], [], []⟩
def d_law_take : Rz.Dq := ⟨Rz.pG "_law_take", "_law_take", "_law_take", defArgs s_law_take, defBody s_law_take, defScope s_law_take, [], [], []⟩
def d_law_top : Rz.Dq := ⟨Rz.pG "_law_top", "_law_top", "_law_top", defArgs s_law_top, defBody s_law_top, defScope s_law_top, [], [], []⟩
def d_law_open_steps : Rz.Dq := ⟨Rz.pG "_law_open_steps", "_law_open_steps", "_law_open_steps", defArgs s_law_open_steps, defBody s_law_open_steps, defScope s_law_open_steps, [], [], []⟩
def d_law_bad_step : Rz.Dq := ⟨Rz.pG "_law_bad_step", "_law_bad_step", "_law_bad_step", defArgs s_law_bad_step, defBody s_law_bad_step, defScope s_law_bad_step, [], [], []⟩
def d_law_odd_sign : Rz.Dq := ⟨Rz.pG "_law_odd_sign", "_law_odd_sign", "_law_odd_sign", defArgs s_law_odd_sign, defBody s_law_odd_sign, defScope s_law_odd_sign, [], [], []⟩
def d_as_string : Rz.Dq := ⟨Rz.pG "as_string", "as_string", "as_string", defArgs s_as_string, defBody s_as_string, defScope s_as_string, [], [], []⟩
def d_check_text : Rz.Dq := ⟨Rz.pG "check_text", "check_text", "check_text", defArgs s_check_text, defBody s_check_text, defScope s_check_text, [], [], []⟩
def d_Rule_init : Rz.Dq := ⟨Rz.pM "Rule" "__init__", "__init__", "Rule.__init__", defArgs s_Rule_init, defBody s_Rule_init, defScope s_Rule_init, [], [.str ""], []⟩
def d_Book_add : Rz.Dq := ⟨Rz.pM "Book" "add", "add", "Book.add", defArgs s_Book_add, defBody s_Book_add, defScope s_Book_add, [], [], []⟩
def d_Book_init : Rz.Dq := ⟨Rz.pM "Book" "__init__", "__init__", "Book.__init__", defArgs s_Book_init, defBody s_Book_init, defScope s_Book_init, [], [], []⟩
def d_Book_read : Rz.Dq := ⟨Rz.pC "Book" "read", "read", "Book.read", defArgs s_Book_read, defBody s_Book_read, defScope s_Book_read, [], [], []⟩
def d_law_lines_of : Rz.Dq := ⟨Rz.pG "_law_lines_of", "_law_lines_of", "_law_lines_of", defArgs s_law_lines_of, defBody s_law_lines_of, defScope s_law_lines_of, [], [], []⟩
def d_Book_iter : Rz.Dq := ⟨Rz.pM "Book" "__iter__", "__iter__", "Book.__iter__", defArgs s_Book_iter, defBody s_Book_iter, defScope s_Book_iter, [], [], []⟩
def d_Book_len : Rz.Dq := ⟨Rz.pM "Book" "__len__", "__len__", "Book.__len__", defArgs s_Book_len, defBody s_Book_len, defScope s_Book_len, [], [], []⟩
def d_Row_init : Rz.Dq := ⟨Rz.pM "Row" "__init__", "__init__", "Row.__init__", defArgs s_Row_init, defBody s_Row_init, defScope s_Row_init, [], [.str "", .non], []⟩
def d_check_bound : Rz.Dq := ⟨Rz.pG "check_bound", "check_bound", "check_bound", defArgs s_check_bound, defBody s_check_bound, defScope s_check_bound, [], [], []⟩
def d_Row_signs : Rz.Dq := ⟨Rz.pP "Row" "signs", "signs", "Row.signs", defArgs s_Row_signs, defBody s_Row_signs, defScope s_Row_signs, [], [], []⟩
def d_Rule_fits : Rz.Dq := ⟨Rz.pM "Rule" "fits", "fits", "Rule.fits", defArgs s_Rule_fits, defBody s_Rule_fits, defScope s_Rule_fits, [], [], []⟩
def d_Row_heights : Rz.Dq := ⟨Rz.pP "Row" "heights", "heights", "Row.heights", defArgs s_Row_heights, defBody s_Row_heights, defScope s_Row_heights, [], [], []⟩
def d_Rule_written_height : Rz.Dq := ⟨Rz.pM "Rule" "written_height", "written_height", "Rule.written_height", defArgs s_Rule_written_height, defBody s_Rule_written_height, defScope s_Rule_written_height, [], [], []⟩
def d_Row_getitem : Rz.Dq := ⟨Rz.pM "Row" "__getitem__", "__getitem__", "Row.__getitem__", defArgs s_Row_getitem, defBody s_Row_getitem, defScope s_Row_getitem, [], [], []⟩
def d_Row_add : Rz.Dq := ⟨Rz.pM "Row" "__add__", "__add__", "Row.__add__", defArgs s_Row_add, defBody s_Row_add, defScope s_Row_add, [], [], []⟩
def d_Row_len : Rz.Dq := ⟨Rz.pM "Row" "__len__", "__len__", "Row.__len__", defArgs s_Row_len, defBody s_Row_len, defScope s_Row_len, [], [], []⟩
def d_Rule_call : Rz.Dq := ⟨Rz.pM "Rule" "__call__", "__call__", "Rule.__call__", defArgs s_Rule_call, defBody s_Rule_call, defScope s_Rule_call, [], [.int 0], []⟩
def d_Book_take : Rz.Dq := ⟨Rz.pM "Book" "take", "take", "Book.take", defArgs s_Book_take, defBody s_Book_take, defScope s_Book_take, [], [], [("most", .int 9)]⟩
def d_Play_init : Rz.Dq := ⟨Rz.pM "Play" "__init__", "__init__", "Play.__init__", defArgs s_Play_init, defBody s_Play_init, defScope s_Play_init, [], [], []⟩
def d_law_try_make : Rz.Dq := ⟨Rz.pG "_law_try_make", "_law_try_make", "_law_try_make", defArgs s_law_try_make, defBody s_law_try_make, defScope s_law_try_make, [], [], []⟩
def d_Rule_str : Rz.Dq := ⟨Rz.pM "Rule" "__str__", "__str__", "Rule.__str__", defArgs s_Rule_str, defBody s_Rule_str, defScope s_Rule_str, [], [], []⟩
def d_Book_written : Rz.Dq := ⟨Rz.pM "Book" "written", "written", "Book.written", defArgs s_Book_written, defBody s_Book_written, defScope s_Book_written, [], [], []⟩
def d_law_is_int : Rz.Dq := ⟨Rz.pG "_law_is_int", "_law_is_int", "_law_is_int", defArgs s_law_is_int, defBody s_law_is_int, defScope s_law_is_int, [], [], []⟩
def d_Book_drop : Rz.Dq := ⟨Rz.pM "Book" "drop", "drop", "Book.drop", defArgs s_Book_drop, defBody s_Book_drop, defScope s_Book_drop, [], [], []⟩
def d_Play_len : Rz.Dq := ⟨Rz.pM "Play" "__len__", "__len__", "Play.__len__", defArgs s_Play_len, defBody s_Play_len, defScope s_Play_len, [], [], []⟩
def d_Play_iter : Rz.Dq := ⟨Rz.pM "Play" "__iter__", "__iter__", "Play.__iter__", defArgs s_Play_iter, defBody s_Play_iter, defScope s_Play_iter, [], [], []⟩
def d_Play_rows : Rz.Dq := ⟨Rz.pM "Play" "rows", "rows", "Play.rows", defArgs s_Play_rows, defBody s_Play_rows, defScope s_Play_rows, [], [], []⟩
def d_Row_iter : Rz.Dq := ⟨Rz.pM "Row" "__iter__", "__iter__", "Row.__iter__", defArgs s_Row_iter, defBody s_Row_iter, defScope s_Row_iter, [], [], []⟩
def d_Row_abs : Rz.Dq := ⟨Rz.pM "Row" "__abs__", "__abs__", "Row.__abs__", defArgs s_Row_abs, defBody s_Row_abs, defScope s_Row_abs, [], [], []⟩
def d_law_shows : Rz.Dq := ⟨Rz.pG "_law_shows", "_law_shows", "_law_shows", defArgs s_law_shows, defBody s_law_shows, defScope s_law_shows, [], [], []⟩
def d_is_sign : Rz.Dq := ⟨Rz.pG "is_sign", "is_sign", "is_sign", defArgs s_is_sign, defBody s_is_sign, defScope s_is_sign, [], [], []⟩
def d_Row_setitem : Rz.Dq := ⟨Rz.pM "Row" "__setitem__", "__setitem__", "Row.__setitem__", defArgs s_Row_setitem, defBody s_Row_setitem, defScope s_Row_setitem, [], [], []⟩
def d_Play_end : Rz.Dq := ⟨Rz.pM "Play" "end", "end", "Play.end", defArgs s_Play_end, defBody s_Play_end, defScope s_Play_end, [], [], []⟩
def d_law_fine : Rz.Dq := ⟨Rz.pG "_law_fine", "_law_fine", "_law_fine", defArgs s_law_fine, defBody s_law_fine, defScope s_law_fine, [], [], []⟩
def d_law : Rz.Dq := ⟨Rz.pG "law", "law", "law", defArgs s_law, defBody s_law, defScope s_law, [], [], []⟩
def d_BadLine_init : Rz.Dq := ⟨Rz.pM "BadLine" "__init__", "__init__", "BadLine.__init__", defArgs s_BadLine_init, defBody s_BadLine_init, defScope s_BadLine_init, ["__class__"], [], []⟩
def d_BadSign_init : Rz.Dq := ⟨Rz.pM "BadSign" "__init__", "__init__", "BadSign.__init__", defArgs s_BadSign_init, defBody s_BadSign_init, defScope s_BadSign_init, ["__class__"], [], []⟩
def d_BadRule_init : Rz.Dq := ⟨Rz.pM "BadRule" "__init__", "__init__", "BadRule.__init__", defArgs s_BadRule_init, defBody s_BadRule_init, defScope s_BadRule_init, ["__class__"], [], []⟩
def d_BookFull_init : Rz.Dq := ⟨Rz.pM "BookFull" "__init__", "__init__", "BookFull.__init__", defArgs s_BookFull_init, defBody s_BookFull_init, defScope s_BookFull_init, ["__class__"], [], []⟩
def d_Uneven_init : Rz.Dq := ⟨Rz.pM "Uneven" "__init__", "__init__", "Uneven.__init__", defArgs s_Uneven_init, defBody s_Uneven_init, defScope s_Uneven_init, ["__class__"], [], []⟩
def d_BadHeight_init : Rz.Dq := ⟨Rz.pM "BadHeight" "__init__", "__init__", "BadHeight.__init__", defArgs s_BadHeight_init, defBody s_BadHeight_init, defScope s_BadHeight_init, ["__class__"], [], []⟩
def d_BadBound_init : Rz.Dq := ⟨Rz.pM "BadBound" "__init__", "__init__", "BadBound.__init__", defArgs s_BadBound_init, defBody s_BadBound_init, defScope s_BadBound_init, ["__class__"], [], []⟩
def d_NoRule_init : Rz.Dq := ⟨Rz.pM "NoRule" "__init__", "__init__", "NoRule.__init__", defArgs s_NoRule_init, defBody s_NoRule_init, defScope s_NoRule_init, ["__class__"], [], []⟩
def d_Mismatch_init : Rz.Dq := ⟨Rz.pM "Mismatch" "__init__", "__init__", "Mismatch.__init__", defArgs s_Mismatch_init, defBody s_Mismatch_init, defScope s_Mismatch_init, ["__class__"], [], []⟩
def d_Beyond_init : Rz.Dq := ⟨Rz.pM "Beyond" "__init__", "__init__", "Beyond.__init__", defArgs s_Beyond_init, defBody s_Beyond_init, defScope s_Beyond_init, ["__class__"], [], []⟩
def d_NoPlace_init : Rz.Dq := ⟨Rz.pM "NoPlace" "__init__", "__init__", "NoPlace.__init__", defArgs s_NoPlace_init, defBody s_NoPlace_init, defScope s_NoPlace_init, ["__class__"], [], []⟩
def d_BadPlay_init : Rz.Dq := ⟨Rz.pM "BadPlay" "__init__", "__init__", "BadPlay.__init__", defArgs s_BadPlay_init, defBody s_BadPlay_init, defScope s_BadPlay_init, ["__class__"], [], []⟩
def fa4 : List (Rz.Fg → Bool) := []
def fn0 : List Rz.Dq := [d_law_pool, d_law_pick, d_law_alphabet, d_law_word_of, d_law_book_of, d_law_take, d_law_top, d_law_open_steps, d_law_bad_step, d_law_odd_sign, d_as_string, d_check_text, d_Rule_init, d_Book_add]
def fn1 : List Rz.Dq := [d_Book_init, d_Book_read, d_law_lines_of, d_Book_iter, d_Book_len, d_Row_init, d_check_bound, d_Row_signs, d_Rule_fits, d_Row_heights, d_Rule_written_height, d_Row_getitem, d_Row_add, d_Row_len]
def fn2 : List Rz.Dq := [d_Rule_call, d_Book_take, d_Play_init, d_law_try_make, d_Rule_str, d_Book_written, d_law_is_int, d_Book_drop, d_Play_len, d_Play_iter, d_Play_rows, d_Row_iter, d_Row_abs, d_law_shows]
def fn3 : List Rz.Dq := [d_is_sign, d_Row_setitem, d_Play_end, d_law_fine, d_law, d_BadLine_init, d_BadSign_init, d_BadRule_init, d_BookFull_init, d_Uneven_init, d_BadHeight_init, d_BadBound_init, d_NoRule_init, d_Mismatch_init]
def fn4 : List Rz.Dq := [d_Beyond_init, d_NoPlace_init, d_BadPlay_init]
def fa : List (Rz.Fg → Bool) := fa0 ++ fa1 ++ fa2 ++ fa3 ++ fa4
def fn : List Rz.Dq := fn0 ++ fn1 ++ fn2 ++ fn3 ++ fn4
abbrev R : PySem.W.OpenRow := PySem.W.OpenLaw.row PySem.Challenge.rw_risensigns_k18_play_walked
abbrev hk : PySem.W.Hook := Rz.hookR 6 fa fn
def ob (s : PySem.W.SharedT) : Rz.AlR := Rz.obsRG 6 fa fn (HandSHeadRun.getT s)
theorem ob_eq (s : PySem.W.SharedT) : ob s = hk.obs s.abs := Rz.obsRG_eq (HandSHeadRun.getT_eq s)
def loose0 : List PySem.Str := ["_wall", "RiseError", "BadSign", "Uneven", "BadHeight", "NoPlace", "BadRule", "BookFull", "NoRule", "BadLine", "Mismatch", "Beyond", "BadPlay", "BadBound", "TOP", "SIGNS", "as_string", "check_text", "is_sign", "Row"]
def loose1 : List PySem.Str := ["MOST_SIGNS", "MOST_RULES", "check_bound", "Rule", "Book", "Play", "_law_pool", "_law_pick", "_law_alphabet", "_law_word_of", "_law_book_of", "_law_is_int", "_law_take", "_law_top", "_law_lines_of", "_law_shows", "_law_odd_sign", "_law_open_steps", "_law_bad_step", "_law_try_make"]
def loose2 : List PySem.Str := ["_law_fine"]
def loose : List PySem.Str := loose0 ++ loose1 ++ loose2
theorem headL (w : World) : Rz.LkEq R 20000 w := by
  intro os
  kernel_rfl
theorem headS (w : World) : Rz.SnEq R (PySem.W.view R.prog [46]) 20000 loose w := by
  intro os
  kernel_rfl
theorem run0 (w : World) : Rz.ObEq R 20000 6 fa0 fn0 w := by
  intro os
  kernel_rfl
theorem run1 (w : World) : Rz.ObEq R 20000 6 fa1 fn1 w := by
  intro os
  kernel_rfl
theorem run2 (w : World) : Rz.ObEq R 20000 6 fa2 fn2 w := by
  intro os
  kernel_rfl
theorem run3 (w : World) : Rz.ObEq R 20000 6 fa3 fn3 w := by
  intro os
  kernel_rfl
theorem run4 (w : World) : Rz.ObEq R 20000 6 fa4 fn4 w := by
  intro os
  kernel_rfl
theorem run (w : World) : HandSHeadRun.RunEq R (PySem.W.view R.prog [46]) hk ob 20000 loose w := Rz.run_all (headL w) (headS w) (Rz.ObEq.app (Rz.ObEq.app (Rz.ObEq.app (Rz.ObEq.app (run0 w) (run1 w)) (run2 w)) (run3 w)) (run4 w))
section
variable {w : World} {K : Frg} {mg : Str → Option Value} {base : Heap}
/-! _law_pool -/
abbrev N_law_pool : List Str := ["_law_script", "_law_draws", "_law_seed", "_law_cell", "_law_k", "_law_rest", "_law_value"]
def t_law_pool (K : Frg) (E : XK) : TS :=
  (tSeq (tAsg (tLst tNil) (gName 1)) (tSeq (tAsg (tC (.int 0)) (gName 2)) (tSeq (tFor (iList K (tVar 0)) (gName 3) (tSeq (tAsg (tCB (rAbsA) (tCons (tVar 3) tNil)) (gName 5)) (tSeq (tAsg (tOp rModA (tCB (rIntA) (tCons (tOp rAddA (tOp rMulA (tVar 2) (tC (.int 31))) (tVar 5)) tNil)) (tC (.int 1009))) (gName 2)) (tIfS (tTest (tOp rLtA (tVar 5) (tOp rPowA (tC (.int 10)) (tC (.int 18))))) (tDrop (tBM K "list" rAppend (tVar 1) (tCons (tVar 5) tNil))) (tFor (iRng1 (tCons (tC (.int 60)) tNil)) (gName 4) (tIfS (tTest (tOp rGtA (tVar 5) (tC (.int 0)))) (tSeq (tDrop (tBM K "list" rAppend (tVar 1) (tCons (tOp rModA (tCB (rIntA) (tCons (tVar 5) tNil)) (tC (.int 1000))) tNil))) (tAsg (tOp rDivA (tVar 5) (tC (.int 1000))) (gName 5))) tNext)))))) (tSeq (tFor (iRng1 (tCons (tC (.int 90)) tNil)) (gName 4) (tSeq (tAsg (tOp rModA (tCB (rIntA) (tCons (tOp rMulA (tOp rAddA (tVar 2) (tC (.int 1))) (tOp rAddA (tOp rDivA (tOp rAddA (tOp rMulA (tOp rMulA (tC (.int 3)) (tVar 4)) (tVar 4)) (tOp rMulA (tC (.int 5)) (tVar 4))) (tC (.int 2))) (tC (.int 7)))) tNil)) (tC (.int 1009))) (gName 6)) (tDrop (tBM K "list" rAppend (tVar 1) (tCons (tOp rModA (tCB (rIntA) (tCons (tOp rAddA (tOp rMulA (tVar 6) (tVar 6)) (tVar 4)) tNil)) (tC (.int 1013))) tNil))))) (tRet (tVar 1))))))
def sp_law_pool (K : Frg) : Sp := fun vs H Q E => vs.length = 1 ∧ t_law_pool K E { nx := fun _ H' => Q .non H', rt := Q } (start N_law_pool vs) H
theorem sc_law_pool : FnScope N_law_pool ["_law_script"] (defScope s_law_pool) := ⟨rfl, rfl, rfl, by decide +kernel, rfl, by decide +kernel, by decide +kernel⟩
theorem ok_law_pool (T : Txt PROG K mg) : ∃ fd, FnOk PROG w K mg base (L2.CX PROG w) 1 (Rz.pG "_law_pool" K) fd ["_law_script"] (sp_law_pool K) ∧ FunD K "_law_pool" "_law_pool" (defArgs s_law_pool) (defBody s_law_pool) (defScope s_law_pool) [] [] (Rz.pG "_law_pool" K) fd := by
  obtain ⟨fd, F⟩ := T.F_law_pool
  refine ⟨fd, F.ok sc_law_pool (fun vs H Q E h => h.1) (fun cdv A outer s H vs Q E hr h => ⟨t_law_pool K E, ?_, h.2⟩), F⟩
  exact (pss_cons (ps_set (i := 1) sc_law_pool.nd rfl (by first | exact Or.inl rfl | exact Or.inr rfl) (pe_lst pa_nil)) (pss_cons (ps_set (i := 2) sc_law_pool.nd rfl (by first | exact Or.inl rfl | exact Or.inr rfl) pe_int) (pss_cons (ps_for (passes_of rfl) rfl (pi_list (pv 0)) (pg_name (i := 3) sc_law_pool.nd rfl (by first | exact Or.inl rfl | exact Or.inr rfl)) (pss_cons (ps_set (i := 5) sc_law_pool.nd rfl (by first | exact Or.inl rfl | exact Or.inr rfl) (pe_callB c_abs rfl T.f_abs (by decide +kernel) (pa_cons (pv 3) pa_nil))) (pss_cons (ps_set (i := 2) sc_law_pool.nd rfl (by first | exact Or.inl rfl | exact Or.inr rfl) (pe_op op_modA (pe_callTy c_int rfl T.f_int (by decide +kernel) (pa_cons (pe_op op_addA (pe_op op_mulA (pv 2) pe_int) (pv 5)) pa_nil)) pe_int)) (pss_one (ps_if (pt_cmpR op_ltA (pv 5) (pe_op op_powA pe_int pe_int) (nomark _)) (pss_one (ps_expr (pe_bm PySem.F.plainAttrs_list PySem.F.slot_list_append PySem.F.type_list_append mt_append (pv 1) (pa_cons (pv 5) pa_nil)))) (pss_one (ps_for (passes_of rfl) rfl (pi_range1 rfl T.f_range (pa_cons pe_int pa_nil)) (pg_name (i := 4) sc_law_pool.nd rfl (by first | exact Or.inl rfl | exact Or.inr rfl)) (pss_one (ps_if (pt_cmpR op_gtA (pv 5) pe_int (nomark _)) (pss_cons (ps_expr (pe_bm PySem.F.plainAttrs_list PySem.F.slot_list_append PySem.F.type_list_append mt_append (pv 1) (pa_cons (pe_op op_modA (pe_callTy c_int rfl T.f_int (by decide +kernel) (pa_cons (pv 5) pa_nil)) pe_int) pa_nil))) (pss_one (ps_set (i := 5) sc_law_pool.nd rfl (by first | exact Or.inl rfl | exact Or.inr rfl) (pe_op op_divA (pv 5) pe_int)))) pss_nil))))))))) (pss_cons (ps_for (passes_of rfl) rfl (pi_range1 rfl T.f_range (pa_cons pe_int pa_nil)) (pg_name (i := 4) sc_law_pool.nd rfl (by first | exact Or.inl rfl | exact Or.inr rfl)) (pss_cons (ps_set (i := 6) sc_law_pool.nd rfl (by first | exact Or.inl rfl | exact Or.inr rfl) (pe_op op_modA (pe_callTy c_int rfl T.f_int (by decide +kernel) (pa_cons (pe_op op_mulA (pe_op op_addA (pv 2) pe_int) (pe_op op_addA (pe_op op_divA (pe_op op_addA (pe_op op_mulA (pe_op op_mulA pe_int (pv 4)) (pv 4)) (pe_op op_mulA pe_int (pv 4))) pe_int) pe_int)) pa_nil)) pe_int)) (pss_one (ps_expr (pe_bm PySem.F.plainAttrs_list PySem.F.slot_list_append PySem.F.type_list_append mt_append (pv 1) (pa_cons (pe_op op_modA (pe_callTy c_int rfl T.f_int (by decide +kernel) (pa_cons (pe_op op_addA (pe_op op_mulA (pv 6) (pv 6)) (pv 4)) pa_nil)) pe_int) pa_nil)))))) (pss_one (ps_ret (pv 1)))))))
/-! _law_pick -/
abbrev N_law_pick : List Str := ["_law_draws", "_law_many"]
def t_law_pick (K : Frg) (E : XK) : TS :=
  (tSeq (tIfS (tTest (tOp (rEqA K) (tVar 0) (tLst tNil))) (tRet (tC (.int 0))) tNext) (tRet (tOp rModA (tCB (rIntA) (tCons (tBM K "list" rPopAt (tVar 0) (tCons (tC (.int 0)) tNil)) tNil)) (tVar 1))))
def sp_law_pick (K : Frg) : Sp := fun vs H Q E => vs.length = 2 ∧ t_law_pick K E { nx := fun _ H' => Q .non H', rt := Q } (start N_law_pick vs) H
theorem sc_law_pick : FnScope N_law_pick ["_law_draws", "_law_many"] (defScope s_law_pick) := ⟨rfl, rfl, rfl, by decide +kernel, rfl, by decide +kernel, by decide +kernel⟩
theorem ok_law_pick (T : Txt PROG K mg) : ∃ fd, FnOk PROG w K mg base (L2.CX PROG w) 1 (Rz.pG "_law_pick" K) fd ["_law_draws", "_law_many"] (sp_law_pick K) ∧ FunD K "_law_pick" "_law_pick" (defArgs s_law_pick) (defBody s_law_pick) (defScope s_law_pick) [] [] (Rz.pG "_law_pick" K) fd := by
  obtain ⟨fd, F⟩ := T.F_law_pick
  refine ⟨fd, F.ok sc_law_pick (fun vs H Q E h => h.1) (fun cdv A outer s H vs Q E hr h => ⟨t_law_pick K E, ?_, h.2⟩), F⟩
  exact (pss_cons (ps_if (pt_cmpR (op_eqA hr) (pv 0) (pe_lst pa_nil) (nomark _)) (pss_one (ps_ret pe_int)) pss_nil) (pss_one (ps_ret (pe_op op_modA (pe_callTy c_int rfl T.f_int (by decide +kernel) (pa_cons (pe_bm PySem.F.plainAttrs_list PySem.F.slot_list_pop PySem.F.type_list_pop mt_popAt (pv 0) (pa_cons pe_int pa_nil)) pa_nil)) (pv 1)))))
/-! _law_alphabet -/
abbrev N_law_alphabet : List Str := ["_law_draws", "_law_many", "_law_letters", "_law_signs", "_law_k", "_law_left", "_law_letter"]
def t_law_alphabet (K : Frg) (E : XK) : TS :=
  (tSeq (tAsg (tC (.str "abcdefghijklmnopqrstuvwxyz")) (gName 2)) (tSeq (tAsg (tC (.str "")) (gName 3)) (tSeq (tFor (iRng1 (tCons (tVar 1) tNil)) (gName 4) (tSeq (tAsg (tLc (iStr (tVar 2)) (gName 6) (tTest (tOp (rNotInA K) (tVar 6) (tVar 3))) (tVar 6) [6]) (gName 5)) (tAsg (tOp rAddA (tVar 3) (tOp (rIx K) (tVar 5) (tCallSD (sp_law_pick K) [] (WE (W0 E)) (tCons (tVar 0) (tCons (tCB (rLenA K) (tCons (tVar 5) tNil)) tNil))))) (gName 3)))) (tRet (tVar 3)))))
def sp_law_alphabet (K : Frg) : Sp := fun vs H Q E => vs.length = 2 ∧ t_law_alphabet K E { nx := fun _ H' => Q .non H', rt := Q } (start N_law_alphabet vs) H
theorem sc_law_alphabet : FnScope N_law_alphabet ["_law_draws", "_law_many"] (defScope s_law_alphabet) := ⟨rfl, rfl, rfl, by decide +kernel, rfl, by decide +kernel, by decide +kernel⟩
theorem ok_law_alphabet (T : Txt PROG K mg) : ∃ fd, FnOk PROG w K mg base (L2.CX PROG w) 2 (Rz.pG "_law_alphabet" K) fd ["_law_draws", "_law_many"] (sp_law_alphabet K) ∧ FunD K "_law_alphabet" "_law_alphabet" (defArgs s_law_alphabet) (defBody s_law_alphabet) (defScope s_law_alphabet) [] [] (Rz.pG "_law_alphabet" K) fd := by
  obtain ⟨fd_law_pick, G_law_pick, D_law_pick⟩ := ok_law_pick (w := w) (base := base) T
  have b_law_pick_2 : Binds K fd_law_pick _ [] := D_law_pick.bindsN (ps := ["_law_draws", "_law_many"]) (fun _ _ _ _ _ _ us hl => match us, hl with | [_, _], _ => rfl)
  obtain ⟨fd, F⟩ := T.F_law_alphabet
  refine ⟨fd, F.ok sc_law_alphabet (fun vs H Q E h => h.1) (fun cdv A outer s H vs Q E hr h => ⟨t_law_alphabet K E, ?_, h.2⟩), F⟩
  exact (pss_cons (ps_set (i := 2) sc_law_alphabet.nd rfl (by first | exact Or.inl rfl | exact Or.inr rfl) pe_str) (pss_cons (ps_set (i := 3) sc_law_alphabet.nd rfl (by first | exact Or.inl rfl | exact Or.inr rfl) pe_str) (pss_cons (ps_for (passes_of rfl) rfl (pi_range1 rfl T.f_range (pa_cons (pv 1) pa_nil)) (pg_name (i := 4) sc_law_alphabet.nd rfl (by first | exact Or.inl rfl | exact Or.inr rfl)) (pss_cons (by first | (refine ps_setLc (i := 5) (own := [("_law_letter", 6)]) rfl sc_law_alphabet.nd rfl rfl ?e ?f ?g ?h ?i ?j; (case e => exact sw_true rfl rfl rfl (by decide +kernel)); (case f => exact (pi_str (pv 2))); (case g => exact (blkOk_by (own := [("_law_letter", 6)]) (N := N_law_alphabet) (sc := defScope s_law_alphabet) (by decide +kernel))); (case h => exact (fun _ _ _ _ _ => (pg_name (i := 6) sc_law_alphabet.nd rfl (by first | exact Or.inl rfl | exact Or.inr rfl)))); (case i => exact (fun _ _ _ _ _ => (pts_one (pt_cmpR op_notInA (pv 6) (pv 3) (by rfl))))); (case j => exact (fun _ _ _ _ _ => (pv 6)))) | exact (ps_set (i := 5) sc_law_alphabet.nd rfl (by first | exact Or.inl rfl | exact Or.inr rfl) (pe_lc (own := [("_law_letter", 6)]) rfl sc_law_alphabet.nd (pi_str (pv 2)) (blkOk_by (own := [("_law_letter", 6)]) (N := N_law_alphabet) (sc := defScope s_law_alphabet) (by decide +kernel)) (fun _ _ _ _ _ => (pg_name (i := 6) sc_law_alphabet.nd rfl (by first | exact Or.inl rfl | exact Or.inr rfl))) (fun _ _ _ _ _ => (pts_one (pt_cmpR op_notInA (pv 6) (pv 3) (by rfl)))) (fun _ _ _ _ _ => (pv 6))))) (pss_one (ps_set (i := 3) sc_law_alphabet.nd rfl (by first | exact Or.inl rfl | exact Or.inr rfl) (pe_op op_addA (pv 3) (pe_ix ix_seq (pv 5) (pe_callSD G_law_pick (hr.mono (by decide)) rfl T.g__law_pick D_law_pick.kp b_law_pick_2 .nil (fun σ => passAt (takes_of rfl rfl rfl rfl) σ) (pa_cons (pv 0) (pa_cons (pe_callB c_len rfl T.f_len (by decide +kernel) (pa_cons (pv 5) pa_nil)) pa_nil))) (fun _ _ => rfl))))))) (pss_one (ps_ret (pv 3))))))
/-! _law_word_of -/
abbrev N_law_word_of : List Str := ["_law_draws", "_law_signs", "_law_least", "_law_greatest", "_law_size", "_law_k"]
def t_law_word_of (K : Frg) (E : XK) : TS :=
  (tSeq (tAsg (tOp rAddA (tVar 2) (tCallSD (sp_law_pick K) [] (WE (W0 E)) (tCons (tVar 0) (tCons (tOp rAddA (tOp rSubA (tVar 3) (tVar 2)) (tC (.int 1))) tNil)))) (gName 4)) (tRet (tM1 (rJoinA K) (tC (.str "")) (tLc (iRng1 (tCons (tVar 4) tNil)) (gName 5) tYes (tOp (rIx K) (tVar 1) (tCallSD (sp_law_pick K) [] (WE WN) (tCons (tVar 0) (tCons (tCB (rLenA K) (tCons (tVar 1) tNil)) tNil)))) [5]))))
def sp_law_word_of (K : Frg) : Sp := fun vs H Q E => vs.length = 4 ∧ t_law_word_of K E { nx := fun _ H' => Q .non H', rt := Q } (start N_law_word_of vs) H
theorem sc_law_word_of : FnScope N_law_word_of ["_law_draws", "_law_signs", "_law_least", "_law_greatest"] (defScope s_law_word_of) := ⟨rfl, rfl, rfl, by decide +kernel, rfl, by decide +kernel, by decide +kernel⟩
theorem ok_law_word_of (T : Txt PROG K mg) : ∃ fd, FnOk PROG w K mg base (L2.CX PROG w) 2 (Rz.pG "_law_word_of" K) fd ["_law_draws", "_law_signs", "_law_least", "_law_greatest"] (sp_law_word_of K) ∧ FunD K "_law_word_of" "_law_word_of" (defArgs s_law_word_of) (defBody s_law_word_of) (defScope s_law_word_of) [] [] (Rz.pG "_law_word_of" K) fd := by
  obtain ⟨fd_law_pick, G_law_pick, D_law_pick⟩ := ok_law_pick (w := w) (base := base) T
  have b_law_pick_2 : Binds K fd_law_pick _ [] := D_law_pick.bindsN (ps := ["_law_draws", "_law_many"]) (fun _ _ _ _ _ _ us hl => match us, hl with | [_, _], _ => rfl)
  obtain ⟨fd, F⟩ := T.F_law_word_of
  refine ⟨fd, F.ok sc_law_word_of (fun vs H Q E h => h.1) (fun cdv A outer s H vs Q E hr h => ⟨t_law_word_of K E, ?_, h.2⟩), F⟩
  exact (pss_cons (ps_set (i := 4) sc_law_word_of.nd rfl (by first | exact Or.inl rfl | exact Or.inr rfl) (pe_op op_addA (pv 2) (pe_callSD G_law_pick (hr.mono (by decide)) rfl T.g__law_pick D_law_pick.kp b_law_pick_2 .nil (fun σ => passAt (takes_of rfl rfl rfl rfl) σ) (pa_cons (pv 0) (pa_cons (pe_op op_addA (pe_op op_subA (pv 3) (pv 2)) pe_int) pa_nil))))) (pss_one (ps_ret (pe_joinA pe_str (pe_lc (own := [("_law_k", 5)]) rfl sc_law_word_of.nd (pi_range1 rfl T.f_range (pa_cons (pv 4) pa_nil)) (blkOk_by (own := [("_law_k", 5)]) (N := N_law_word_of) (sc := defScope s_law_word_of) (by decide +kernel)) (fun _ _ _ _ _ => (pg_name (i := 5) sc_law_word_of.nd rfl (by first | exact Or.inl rfl | exact Or.inr rfl))) (fun _ _ _ _ _ => pts_nil) (fun _ _ _ _ _ => (pe_ix ix_seq (pv 1) (pe_callSD G_law_pick (hr.mono (by decide)) rfl T.g__law_pick D_law_pick.kp b_law_pick_2 .nil (fun σ => passAt takes0 σ) (pa_cons (pv 0) (pa_cons (pe_callB c_len rfl T.f_len (by decide +kernel) (pa_cons (pv 1) pa_nil)) pa_nil))) (fun _ _ => rfl))))))))
/-! _law_book_of -/
abbrev N_law_book_of : List Str := ["_law_draws", "_law_signs", "_law_plans", "_law_kind", "_law_many", "_law_rules", "_law_k", "_law_plan", "_law_left", "_law_part"]
def t_law_book_of (K : Frg) (E : XK) : TS :=
  (tSeq (tAsg (tLst (tCons (tC (.str "01:1")) (tCons (tC (.str "00:010")) (tCons (tC (.str "01:110")) (tCons (tC (.str "01:10")) (tCons (tC (.str "00:1 11:0")) (tCons (tC (.str "01: 10:")) (tCons (tC (.str "0:12 21:0")) (tCons (tC (.str "00:0")) tNil))))))))) (gName 2)) (tSeq (tAsg (tOp rAddA (tVar 2) (tLst (tCons (tC (.str "001:10")) (tCons (tC (.str "010:1001")) (tCons (tC (.str "0:1 1:2")) (tCons (tC (.str "00:12 2:")) tNil)))))) (gName 2)) (tSeq (tAsg (tCallSD (sp_law_pick K) [] (WE (W0 E)) (tCons (tVar 0) (tCons (tC (.int 3)) tNil))) (gName 3)) (tSeq (tIfS (tTest (tOp (rEqA K) (tVar 3) (tC (.int 0)))) (tSeq (tAsg (tOp (rIx K) (tVar 2) (tCallSD (sp_law_pick K) [] (WE (W0 E)) (tCons (tVar 0) (tCons (tCB (rLenA K) (tCons (tVar 2) tNil)) tNil)))) (gName 7)) (tSeq (tFor (iRng1 (tCons (tC (.int 3)) tNil)) (gName 6) (tAsg (tReplIx (tVar 7) "012" (tVar 6) (tVar 1) (tVar 6)) (gName 7))) (tRet (tLc (iList K (tSplit (tVar 7) (tC (.str " ")))) (gName 9) tYes (tTup (tCons (tOp (rIx K) (tSplit (tVar 9) (tC (.str ":"))) (tC (.int 0))) (tCons (tOp (rIx K) (tSplit (tVar 9) (tC (.str ":"))) (tC (.int 1))) tNil))) [9])))) tNext) (tSeq (tAsg (tCallSD (sp_law_pick K) [] (WE (W0 E)) (tCons (tVar 0) (tCons (tC (.int 4)) tNil))) (gName 4)) (tSeq (tIfS (tAnd (tTest (tOp (rEqA K) (tVar 3) (tC (.int 1)))) (tTest (tOp (rEqA K) (tCallSD (sp_law_pick K) [] (WE (W0 E)) (tCons (tVar 0) (tCons (tC (.int 4)) tNil))) (tC (.int 3))))) (tAsg (tOp rAddA (tC (.int 4)) (tCallSD (sp_law_pick K) [] (WE (W0 E)) (tCons (tVar 0) (tCons (tC (.int 3)) tNil)))) (gName 4)) tNext) (tSeq (tAsg (tLst tNil) (gName 5)) (tSeq (tFor (iRng1 (tCons (tVar 4) tNil)) (gName 6) (tSeq (tAsg (tCallSD (sp_law_word_of K) [] (WE (W0 E)) (tCons (tVar 0) (tCons (tVar 1) (tCons (tC (.int 1)) (tCons (tC (.int 4)) tNil))))) (gName 8)) (tDrop (tBM K "list" rAppend (tVar 5) (tCons (tTup (tCons (tVar 8) (tCons (tCallSD (sp_law_word_of K) [] (WE (W0 E)) (tCons (tVar 0) (tCons (tVar 1) (tCons (tC (.int 0)) (tCons (tC (.int 4)) tNil))))) tNil))) tNil))))) (tRet (tVar 5))))))))))
def sp_law_book_of (K : Frg) : Sp := fun vs H Q E => vs.length = 2 ∧ t_law_book_of K E { nx := fun _ H' => Q .non H', rt := Q } (start N_law_book_of vs) H
theorem sc_law_book_of : FnScope N_law_book_of ["_law_draws", "_law_signs"] (defScope s_law_book_of) := ⟨rfl, rfl, rfl, by decide +kernel, rfl, by decide +kernel, by decide +kernel⟩
theorem ok_law_book_of (T : Txt PROG K mg) : ∃ fd, FnOk PROG w K mg base (L2.CX PROG w) 3 (Rz.pG "_law_book_of" K) fd ["_law_draws", "_law_signs"] (sp_law_book_of K) ∧ FunD K "_law_book_of" "_law_book_of" (defArgs s_law_book_of) (defBody s_law_book_of) (defScope s_law_book_of) [] [] (Rz.pG "_law_book_of" K) fd := by
  obtain ⟨fd_law_pick, G_law_pick, D_law_pick⟩ := ok_law_pick (w := w) (base := base) T
  obtain ⟨fd_law_word_of, G_law_word_of, D_law_word_of⟩ := ok_law_word_of (w := w) (base := base) T
  have b_law_pick_2 : Binds K fd_law_pick _ [] := D_law_pick.bindsN (ps := ["_law_draws", "_law_many"]) (fun _ _ _ _ _ _ us hl => match us, hl with | [_, _], _ => rfl)
  have b_law_word_of_4 : Binds K fd_law_word_of _ [] := D_law_word_of.bindsN (ps := ["_law_draws", "_law_signs", "_law_least", "_law_greatest"]) (fun _ _ _ _ _ _ us hl => match us, hl with | [_, _, _, _], _ => rfl)
  obtain ⟨fd, F⟩ := T.F_law_book_of
  refine ⟨fd, F.ok sc_law_book_of (fun vs H Q E h => h.1) (fun cdv A outer s H vs Q E hr h => ⟨t_law_book_of K E, ?_, h.2⟩), F⟩
  exact (pss_cons (ps_set (i := 2) sc_law_book_of.nd rfl (by first | exact Or.inl rfl | exact Or.inr rfl) (pe_lst (pa_cons pe_str (pa_cons pe_str (pa_cons pe_str (pa_cons pe_str (pa_cons pe_str (pa_cons pe_str (pa_cons pe_str (pa_cons pe_str pa_nil)))))))))) (pss_cons (ps_set (i := 2) sc_law_book_of.nd rfl (by first | exact Or.inl rfl | exact Or.inr rfl) (pe_op op_addA (pv 2) (pe_lst (pa_cons pe_str (pa_cons pe_str (pa_cons pe_str (pa_cons pe_str pa_nil))))))) (pss_cons (ps_set (i := 3) sc_law_book_of.nd rfl (by first | exact Or.inl rfl | exact Or.inr rfl) (pe_callSD G_law_pick (hr.mono (by decide)) rfl T.g__law_pick D_law_pick.kp b_law_pick_2 .nil (fun σ => passAt (takes_of rfl rfl rfl rfl) σ) (pa_cons (pv 0) (pa_cons pe_int pa_nil)))) (pss_cons (ps_if (pt_cmpR (op_eqA hr) (pv 3) pe_int (nomark _)) (pss_cons (ps_set (i := 7) sc_law_book_of.nd rfl (by first | exact Or.inl rfl | exact Or.inr rfl) (pe_ix ix_seq (pv 2) (pe_callSD G_law_pick (hr.mono (by decide)) rfl T.g__law_pick D_law_pick.kp b_law_pick_2 .nil (fun σ => passAt (takes_of rfl rfl rfl rfl) σ) (pa_cons (pv 0) (pa_cons (pe_callB c_len rfl T.f_len (by decide +kernel) (pa_cons (pv 2) pa_nil)) pa_nil))) (fun _ _ => rfl))) (pss_cons (ps_for (passes_of rfl) rfl (pi_range1 rfl T.f_range (pa_cons pe_int pa_nil)) (pg_name (i := 6) sc_law_book_of.nd rfl (by first | exact Or.inl rfl | exact Or.inr rfl)) (pss_one (ps_set (i := 7) sc_law_book_of.nd rfl (by first | exact Or.inl rfl | exact Or.inr rfl) (pe_replIx (pv 7) (pv 6) (pv 1) (pv 6) (fun _ _ => rfl) (fun _ _ => rfl))))) (pss_one (ps_ret (pe_lc (own := [("_law_part", 9)]) rfl sc_law_book_of.nd (pi_list (pe_splitS (pv 7) pe_str)) (blkOk_by (own := [("_law_part", 9)]) (N := N_law_book_of) (sc := defScope s_law_book_of) (by decide +kernel)) (fun _ _ _ _ _ => (pg_name (i := 9) sc_law_book_of.nd rfl (by first | exact Or.inl rfl | exact Or.inr rfl))) (fun _ _ _ _ _ => pts_nil) (fun _ _ _ _ _ => (pe_tup (pa_cons (pe_ix ix_seq (pe_splitS (pv 9) pe_str) pe_int (fun _ _ => rfl)) (pa_cons (pe_ix ix_seq (pe_splitS (pv 9) pe_str) pe_int (fun _ _ => rfl)) pa_nil))))))))) pss_nil) (pss_cons (ps_set (i := 4) sc_law_book_of.nd rfl (by first | exact Or.inl rfl | exact Or.inr rfl) (pe_callSD G_law_pick (hr.mono (by decide)) rfl T.g__law_pick D_law_pick.kp b_law_pick_2 .nil (fun σ => passAt (takes_of rfl rfl rfl rfl) σ) (pa_cons (pv 0) (pa_cons pe_int pa_nil)))) (pss_cons (ps_if (PW.pt (pw_and (pt_cmpR (op_eqA hr) (pv 3) pe_int (nomark _)) (pw_and1 (pt_cmpR (op_eqA hr) (pe_callSD G_law_pick (hr.mono (by decide)) rfl T.g__law_pick D_law_pick.kp b_law_pick_2 .nil (fun σ => passAt (takes_of rfl rfl rfl rfl) σ) (pa_cons (pv 0) (pa_cons pe_int pa_nil))) pe_int (nomark _))))) (pss_one (ps_set (i := 4) sc_law_book_of.nd rfl (by first | exact Or.inl rfl | exact Or.inr rfl) (pe_op op_addA pe_int (pe_callSD G_law_pick (hr.mono (by decide)) rfl T.g__law_pick D_law_pick.kp b_law_pick_2 .nil (fun σ => passAt (takes_of rfl rfl rfl rfl) σ) (pa_cons (pv 0) (pa_cons pe_int pa_nil)))))) pss_nil) (pss_cons (ps_set (i := 5) sc_law_book_of.nd rfl (by first | exact Or.inl rfl | exact Or.inr rfl) (pe_lst pa_nil)) (pss_cons (ps_for (passes_of rfl) rfl (pi_range1 rfl T.f_range (pa_cons (pv 4) pa_nil)) (pg_name (i := 6) sc_law_book_of.nd rfl (by first | exact Or.inl rfl | exact Or.inr rfl)) (pss_cons (ps_set (i := 8) sc_law_book_of.nd rfl (by first | exact Or.inl rfl | exact Or.inr rfl) (pe_callSD G_law_word_of (hr.mono (by decide)) rfl T.g__law_word_of D_law_word_of.kp b_law_word_of_4 .nil (fun σ => passAt (takes_of rfl rfl rfl rfl) σ) (pa_cons (pv 0) (pa_cons (pv 1) (pa_cons pe_int (pa_cons pe_int pa_nil)))))) (pss_one (ps_expr (pe_bm PySem.F.plainAttrs_list PySem.F.slot_list_append PySem.F.type_list_append mt_append (pv 5) (pa_cons (pe_tup (pa_cons (pv 8) (pa_cons (pe_callSD G_law_word_of (hr.mono (by decide)) rfl T.g__law_word_of D_law_word_of.kp b_law_word_of_4 .nil (fun σ => passAt (takes_of rfl rfl rfl rfl) σ) (pa_cons (pv 0) (pa_cons (pv 1) (pa_cons pe_int (pa_cons pe_int pa_nil))))) pa_nil))) pa_nil)))))) (pss_one (ps_ret (pv 5)))))))))))
/-! _law_take -/
abbrev N_law_take : List Str := ["_law_row", "_law_rule", "_law_at", "_law_left", "_law_part", "_law_least", "_law_sign", "_law_height"]
def t_law_take (K : Frg) (E : XK) : TS :=
  (tSeq (tAsg (tOp (rIx K) (tVar 1) (tC (.int 0))) (gName 3)) (tSeq (tAsg (tIf (tTest (tOp rGeA (tVar 2) (tC (.int 0)))) (tSl (rSlA K) (tVar 0) (tPart (tVar 2)) (tPart (tOp rAddA (tVar 2) (tCB (rLenA K) (tCons (tVar 3) tNil))))) (tLst tNil)) (gName 4)) (tSeq (tIfS (tTest (tOp (rNeA K) (tM1 (rJoinA K) (tC (.str "")) (tLc (iList K (tVar 4)) (gTup K 2 (gCons (gName 6) (gCons (gName 7) gNil))) tYes (tVar 6) [6, 7])) (tVar 3))) (tRet (tC .non)) tNext) (tSeq (tAsg (tCB (rMinA K) (tCons (tLc (iList K (tVar 4)) (gTup K 2 (gCons (gName 6) (gCons (gName 7) gNil))) tYes (tVar 7) [6, 7]) tNil)) (gName 5)) (tRet (tOp rAddA (tOp rAddA (tSl (rSlA K) (tVar 0) tNoPart (tPart (tVar 2))) (tLc (iStr (tOp (rIx K) (tVar 1) (tC (.int 1)))) (gName 6) tYes (tTup (tCons (tVar 6) (tCons (tOp rAddA (tVar 5) (tC (.int 1))) tNil))) [6])) (tSl (rSlA K) (tVar 0) (tPart (tOp rAddA (tVar 2) (tCB (rLenA K) (tCons (tVar 3) tNil)))) tNoPart)))))))
def sp_law_take (K : Frg) : Sp := fun vs H Q E => vs.length = 3 ∧ t_law_take K E { nx := fun _ H' => Q .non H', rt := Q } (start N_law_take vs) H
theorem sc_law_take : FnScope N_law_take ["_law_row", "_law_rule", "_law_at"] (defScope s_law_take) := ⟨rfl, rfl, rfl, by decide +kernel, rfl, by decide +kernel, by decide +kernel⟩
theorem ok_law_take (T : Txt PROG K mg) : ∃ fd, FnOk PROG w K mg base (L2.CX PROG w) 1 (Rz.pG "_law_take" K) fd ["_law_row", "_law_rule", "_law_at"] (sp_law_take K) ∧ FunD K "_law_take" "_law_take" (defArgs s_law_take) (defBody s_law_take) (defScope s_law_take) [] [] (Rz.pG "_law_take" K) fd := by
  obtain ⟨fd, F⟩ := T.F_law_take
  refine ⟨fd, F.ok sc_law_take (fun vs H Q E h => h.1) (fun cdv A outer s H vs Q E hr h => ⟨t_law_take K E, ?_, h.2⟩), F⟩
  exact (pss_cons (ps_set (i := 3) sc_law_take.nd rfl (by first | exact Or.inl rfl | exact Or.inr rfl) (pe_ix ix_seq (pv 1) pe_int (fun _ _ => rfl))) (pss_cons (ps_set (i := 4) sc_law_take.nd rfl (by first | exact Or.inl rfl | exact Or.inr rfl) (pe_ifExp (pt_cmpR op_geA (pv 2) pe_int (nomark _)) (pe_slice sl_A (pv 0) (po_some (pv 2)) (po_some (pe_op op_addA (pv 2) (pe_callB c_len rfl T.f_len (by decide +kernel) (pa_cons (pv 3) pa_nil))))) (pe_lst pa_nil))) (pss_cons (ps_if (pt_cmpR (op_neA hr) (pe_joinA pe_str (pe_lc (own := [("_law_sign", 6), ("_law_height", 7)]) rfl sc_law_take.nd (pi_list (pv 4)) (blkOk_by (own := [("_law_sign", 6), ("_law_height", 7)]) (N := N_law_take) (sc := defScope s_law_take) (by decide +kernel)) (fun _ _ _ _ _ => (pg_tup rfl (pgs_cons (pg_name (i := 6) sc_law_take.nd rfl (by first | exact Or.inl rfl | exact Or.inr rfl)) (pgs_cons (pg_name (i := 7) sc_law_take.nd rfl (by first | exact Or.inl rfl | exact Or.inr rfl)) pgs_nil)))) (fun _ _ _ _ _ => pts_nil) (fun _ _ _ _ _ => (pv 6)))) (pv 3) (nomark _)) (pss_one (ps_ret pe_non)) pss_nil) (pss_cons (ps_set (i := 5) sc_law_take.nd rfl (by first | exact Or.inl rfl | exact Or.inr rfl) (pe_callB (c_min rfl) rfl T.f_min (by decide +kernel) (pa_cons (pe_lc (own := [("_law_sign", 6), ("_law_height", 7)]) rfl sc_law_take.nd (pi_list (pv 4)) (blkOk_by (own := [("_law_sign", 6), ("_law_height", 7)]) (N := N_law_take) (sc := defScope s_law_take) (by decide +kernel)) (fun _ _ _ _ _ => (pg_tup rfl (pgs_cons (pg_name (i := 6) sc_law_take.nd rfl (by first | exact Or.inl rfl | exact Or.inr rfl)) (pgs_cons (pg_name (i := 7) sc_law_take.nd rfl (by first | exact Or.inl rfl | exact Or.inr rfl)) pgs_nil)))) (fun _ _ _ _ _ => pts_nil) (fun _ _ _ _ _ => (pv 7))) pa_nil))) (pss_one (ps_ret (pe_op op_addA (pe_op op_addA (pe_slice sl_A (pv 0) po_none (po_some (pv 2))) (pe_lc (own := [("_law_sign", 6)]) rfl sc_law_take.nd (pi_str (pe_ix ix_seq (pv 1) pe_int (fun _ _ => rfl))) (blkOk_by (own := [("_law_sign", 6)]) (N := N_law_take) (sc := defScope s_law_take) (by decide +kernel)) (fun _ _ _ _ _ => (pg_name (i := 6) sc_law_take.nd rfl (by first | exact Or.inl rfl | exact Or.inr rfl))) (fun _ _ _ _ _ => pts_nil) (fun _ _ _ _ _ => (pe_tup (pa_cons (pv 6) (pa_cons (pe_op op_addA (pv 5) pe_int) pa_nil)))))) (pe_slice sl_A (pv 0) (po_some (pe_op op_addA (pv 2) (pe_callB c_len rfl T.f_len (by decide +kernel) (pa_cons (pv 3) pa_nil)))) po_none))))))))
/-! _law_top -/
abbrev N_law_top : List Str := ["_law_row", "_law_sign", "_law_height"]
def t_law_top (K : Frg) (E : XK) : TS :=
  (tRet (tCB (rMaxA K) (tCons (tOp rAddA (tLst (tCons (tC (.int 0)) tNil)) (tLc (iList K (tVar 0)) (gTup K 2 (gCons (gName 1) (gCons (gName 2) gNil))) tYes (tVar 2) [1, 2])) tNil)))
def sp_law_top (K : Frg) : Sp := fun vs H Q E => vs.length = 1 ∧ t_law_top K E { nx := fun _ H' => Q .non H', rt := Q } (start N_law_top vs) H
theorem sc_law_top : FnScope N_law_top ["_law_row"] (defScope s_law_top) := ⟨rfl, rfl, rfl, by decide +kernel, rfl, by decide +kernel, by decide +kernel⟩
theorem ok_law_top (T : Txt PROG K mg) : ∃ fd, FnOk PROG w K mg base (L2.CX PROG w) 1 (Rz.pG "_law_top" K) fd ["_law_row"] (sp_law_top K) ∧ FunD K "_law_top" "_law_top" (defArgs s_law_top) (defBody s_law_top) (defScope s_law_top) [] [] (Rz.pG "_law_top" K) fd := by
  obtain ⟨fd, F⟩ := T.F_law_top
  refine ⟨fd, F.ok sc_law_top (fun vs H Q E h => h.1) (fun cdv A outer s H vs Q E hr h => ⟨t_law_top K E, ?_, h.2⟩), F⟩
  exact (pss_one (ps_ret (pe_callB (c_max rfl) rfl T.f_max (by decide +kernel) (pa_cons (pe_op op_addA (pe_lst (pa_cons pe_int pa_nil)) (pe_lc (own := [("_law_sign", 1), ("_law_height", 2)]) rfl sc_law_top.nd (pi_list (pv 0)) (blkOk_by (own := [("_law_sign", 1), ("_law_height", 2)]) (N := N_law_top) (sc := defScope s_law_top) (by decide +kernel)) (fun _ _ _ _ _ => (pg_tup rfl (pgs_cons (pg_name (i := 1) sc_law_top.nd rfl (by first | exact Or.inl rfl | exact Or.inr rfl)) (pgs_cons (pg_name (i := 2) sc_law_top.nd rfl (by first | exact Or.inl rfl | exact Or.inr rfl)) pgs_nil)))) (fun _ _ _ _ _ => pts_nil) (fun _ _ _ _ _ => (pv 2)))) pa_nil))))
/-! _law_open_steps -/
abbrev N_law_open_steps : List Str := ["_law_row", "_law_rules", "_law_found", "_law_at", "_law_number", "_law_after"]
def t_law_open_steps (K : Frg) (E : XK) : TS :=
  (tSeq (tAsg (tLst tNil) (gName 2)) (tSeq (tFor (iRng1 (tCons (tCB (rLenA K) (tCons (tVar 0) tNil)) tNil)) (gName 3) (tFor (iRng1 (tCons (tCB (rLenA K) (tCons (tVar 1) tNil)) tNil)) (gName 4) (tSeq (tAsg (tCallSD (sp_law_take K) [] (WE (W0 E)) (tCons (tVar 0) (tCons (tOp (rIx K) (tVar 1) (tVar 4)) (tCons (tVar 3) tNil)))) (gName 5)) (tIfS (tAnd (tTest (tOp rNotN' (tVar 5) (tC .non))) (tTest (tOp rLeA (tCallSD (sp_law_top K) [] (WE (W0 E)) (tCons (tVar 5) tNil)) (tC (.int 9))))) (tDrop (tBM K "list" rAppend (tVar 2) (tCons (tTup (tCons (tVar 4) (tCons (tVar 3) tNil))) tNil))) tNext)))) (tRet (tVar 2))))
def sp_law_open_steps (K : Frg) : Sp := fun vs H Q E => vs.length = 2 ∧ t_law_open_steps K E { nx := fun _ H' => Q .non H', rt := Q } (start N_law_open_steps vs) H
theorem sc_law_open_steps : FnScope N_law_open_steps ["_law_row", "_law_rules"] (defScope s_law_open_steps) := ⟨rfl, rfl, rfl, by decide +kernel, rfl, by decide +kernel, by decide +kernel⟩
theorem ok_law_open_steps (T : Txt PROG K mg) : ∃ fd, FnOk PROG w K mg base (L2.CX PROG w) 2 (Rz.pG "_law_open_steps" K) fd ["_law_row", "_law_rules"] (sp_law_open_steps K) ∧ FunD K "_law_open_steps" "_law_open_steps" (defArgs s_law_open_steps) (defBody s_law_open_steps) (defScope s_law_open_steps) [] [] (Rz.pG "_law_open_steps" K) fd := by
  obtain ⟨fd_law_take, G_law_take, D_law_take⟩ := ok_law_take (w := w) (base := base) T
  obtain ⟨fd_law_top, G_law_top, D_law_top⟩ := ok_law_top (w := w) (base := base) T
  have b_law_take_3 : Binds K fd_law_take _ [] := D_law_take.bindsN (ps := ["_law_row", "_law_rule", "_law_at"]) (fun _ _ _ _ _ _ us hl => match us, hl with | [_, _, _], _ => rfl)
  have b_law_top_1 : Binds K fd_law_top _ [] := D_law_top.bindsN (ps := ["_law_row"]) (fun _ _ _ _ _ _ us hl => match us, hl with | [_], _ => rfl)
  obtain ⟨fd, F⟩ := T.F_law_open_steps
  refine ⟨fd, F.ok sc_law_open_steps (fun vs H Q E h => h.1) (fun cdv A outer s H vs Q E hr h => ⟨t_law_open_steps K E, ?_, h.2⟩), F⟩
  exact (pss_cons (ps_set (i := 2) sc_law_open_steps.nd rfl (by first | exact Or.inl rfl | exact Or.inr rfl) (pe_lst pa_nil)) (pss_cons (ps_for (passes_of rfl) rfl (pi_range1 rfl T.f_range (pa_cons (pe_callB c_len rfl T.f_len (by decide +kernel) (pa_cons (pv 0) pa_nil)) pa_nil)) (pg_name (i := 3) sc_law_open_steps.nd rfl (by first | exact Or.inl rfl | exact Or.inr rfl)) (pss_one (ps_for (passes_of rfl) rfl (pi_range1 rfl T.f_range (pa_cons (pe_callB c_len rfl T.f_len (by decide +kernel) (pa_cons (pv 1) pa_nil)) pa_nil)) (pg_name (i := 4) sc_law_open_steps.nd rfl (by first | exact Or.inl rfl | exact Or.inr rfl)) (pss_cons (ps_set (i := 5) sc_law_open_steps.nd rfl (by first | exact Or.inl rfl | exact Or.inr rfl) (pe_callSD G_law_take (hr.mono (by decide)) rfl T.g__law_take D_law_take.kp b_law_take_3 .nil (fun σ => passAt (takes_of rfl rfl rfl rfl) σ) (pa_cons (pv 0) (pa_cons (pe_ix ix_seq (pv 1) (pv 4) (fun _ _ => rfl)) (pa_cons (pv 3) pa_nil))))) (pss_one (ps_if (PW.pt (pw_and (pt_cmpR op_isNotA (pv 5) pe_non (nomark _)) (pw_and1 (pt_cmpR op_leA (pe_callSD G_law_top (hr.mono (by decide)) rfl T.g__law_top D_law_top.kp b_law_top_1 .nil (fun σ => passAt (takes_of rfl rfl rfl rfl) σ) (pa_cons (pv 5) pa_nil)) pe_int (nomark _))))) (pss_one (ps_expr (pe_bm PySem.F.plainAttrs_list PySem.F.slot_list_append PySem.F.type_list_append mt_append (pv 2) (pa_cons (pe_tup (pa_cons (pv 4) (pa_cons (pv 3) pa_nil))) pa_nil)))) pss_nil)))))) (pss_one (ps_ret (pv 2)))))
/-! _law_bad_step -/
abbrev N_law_bad_step : List Str := ["_law_draws", "_law_row", "_law_rules", "_law_number", "_law_at"]
def t_law_bad_step (K : Frg) (E : XK) : TS :=
  (tSeq (tAsg (tCallSD (sp_law_pick K) [] (WE (W0 E)) (tCons (tVar 0) (tCons (tOp rAddA (tCB (rLenA K) (tCons (tVar 2) tNil)) (tC (.int 1))) tNil))) (gName 3)) (tSeq (tAsg (tOp rSubA (tCallSD (sp_law_pick K) [] (WE (W0 E)) (tCons (tVar 0) (tCons (tOp rAddA (tCB (rLenA K) (tCons (tVar 1) tNil)) (tC (.int 3))) tNil))) (tC (.int 1))) (gName 4)) (tSeq (tIfS (tTest (tOp (rEqA K) (tCallSD (sp_law_pick K) [] (WE (W0 E)) (tCons (tVar 0) (tCons (tC (.int 2)) tNil))) (tC (.int 1)))) (tAsg (tOp (rIx K) (tLst (tCons (tOp rSubA (tUn rNegA (tC (.int 1))) (tCallSD (sp_law_pick K) [] (WE (W0 E)) (tCons (tVar 0) (tCons (tC (.int 9)) tNil)))) (tCons (tOp rAddA (tCB (rLenA K) (tCons (tVar 2) tNil)) (tCallSD (sp_law_pick K) [] (WE (W0 E)) (tCons (tVar 0) (tCons (tC (.int 9)) tNil)))) tNil))) (tCallSD (sp_law_pick K) [] (WE (W0 E)) (tCons (tVar 0) (tCons (tC (.int 2)) tNil)))) (gName 3)) tNext) (tRet (tTup (tCons (tVar 3) (tCons (tVar 4) tNil)))))))
def sp_law_bad_step (K : Frg) : Sp := fun vs H Q E => vs.length = 3 ∧ t_law_bad_step K E { nx := fun _ H' => Q .non H', rt := Q } (start N_law_bad_step vs) H
theorem sc_law_bad_step : FnScope N_law_bad_step ["_law_draws", "_law_row", "_law_rules"] (defScope s_law_bad_step) := ⟨rfl, rfl, rfl, by decide +kernel, rfl, by decide +kernel, by decide +kernel⟩
theorem ok_law_bad_step (T : Txt PROG K mg) : ∃ fd, FnOk PROG w K mg base (L2.CX PROG w) 2 (Rz.pG "_law_bad_step" K) fd ["_law_draws", "_law_row", "_law_rules"] (sp_law_bad_step K) ∧ FunD K "_law_bad_step" "_law_bad_step" (defArgs s_law_bad_step) (defBody s_law_bad_step) (defScope s_law_bad_step) [] [] (Rz.pG "_law_bad_step" K) fd := by
  obtain ⟨fd_law_pick, G_law_pick, D_law_pick⟩ := ok_law_pick (w := w) (base := base) T
  have b_law_pick_2 : Binds K fd_law_pick _ [] := D_law_pick.bindsN (ps := ["_law_draws", "_law_many"]) (fun _ _ _ _ _ _ us hl => match us, hl with | [_, _], _ => rfl)
  obtain ⟨fd, F⟩ := T.F_law_bad_step
  refine ⟨fd, F.ok sc_law_bad_step (fun vs H Q E h => h.1) (fun cdv A outer s H vs Q E hr h => ⟨t_law_bad_step K E, ?_, h.2⟩), F⟩
  exact (pss_cons (ps_set (i := 3) sc_law_bad_step.nd rfl (by first | exact Or.inl rfl | exact Or.inr rfl) (pe_callSD G_law_pick (hr.mono (by decide)) rfl T.g__law_pick D_law_pick.kp b_law_pick_2 .nil (fun σ => passAt (takes_of rfl rfl rfl rfl) σ) (pa_cons (pv 0) (pa_cons (pe_op op_addA (pe_callB c_len rfl T.f_len (by decide +kernel) (pa_cons (pv 2) pa_nil)) pe_int) pa_nil)))) (pss_cons (ps_set (i := 4) sc_law_bad_step.nd rfl (by first | exact Or.inl rfl | exact Or.inr rfl) (pe_op op_subA (pe_callSD G_law_pick (hr.mono (by decide)) rfl T.g__law_pick D_law_pick.kp b_law_pick_2 .nil (fun σ => passAt (takes_of rfl rfl rfl rfl) σ) (pa_cons (pv 0) (pa_cons (pe_op op_addA (pe_callB c_len rfl T.f_len (by decide +kernel) (pa_cons (pv 1) pa_nil)) pe_int) pa_nil))) pe_int)) (pss_cons (ps_if (pt_cmpR (op_eqA hr) (pe_callSD G_law_pick (hr.mono (by decide)) rfl T.g__law_pick D_law_pick.kp b_law_pick_2 .nil (fun σ => passAt (takes_of rfl rfl rfl rfl) σ) (pa_cons (pv 0) (pa_cons pe_int pa_nil))) pe_int (nomark _)) (pss_one (ps_set (i := 3) sc_law_bad_step.nd rfl (by first | exact Or.inl rfl | exact Or.inr rfl) (pe_ix ix_seq (pe_lst (pa_cons (pe_op op_subA (pe_un un_neg pe_int) (pe_callSD G_law_pick (hr.mono (by decide)) rfl T.g__law_pick D_law_pick.kp b_law_pick_2 .nil (fun σ => passAt (takes_of rfl rfl rfl rfl) σ) (pa_cons (pv 0) (pa_cons pe_int pa_nil)))) (pa_cons (pe_op op_addA (pe_callB c_len rfl T.f_len (by decide +kernel) (pa_cons (pv 2) pa_nil)) (pe_callSD G_law_pick (hr.mono (by decide)) rfl T.g__law_pick D_law_pick.kp b_law_pick_2 .nil (fun σ => passAt (takes_of rfl rfl rfl rfl) σ) (pa_cons (pv 0) (pa_cons pe_int pa_nil)))) pa_nil))) (pe_callSD G_law_pick (hr.mono (by decide)) rfl T.g__law_pick D_law_pick.kp b_law_pick_2 .nil (fun σ => passAt (takes_of rfl rfl rfl rfl) σ) (pa_cons (pv 0) (pa_cons pe_int pa_nil))) (fun _ _ => rfl)))) pss_nil) (pss_one (ps_ret (pe_tup (pa_cons (pv 3) (pa_cons (pv 4) pa_nil))))))))
/-! _law_odd_sign -/
abbrev N_law_odd_sign : List Str := ["_law_draws", "_law_odd"]
def t_law_odd_sign (K : Frg) (E : XK) : TS :=
  (tSeq (tAsg (tC (.str " !\"#$&'()*+,-./0123456789:;<=>?@ABCDEFGHIJKLMNOPQRSTUVWXYZ[\\]^_`{|}~\n\t")) (gName 1)) (tRet (tOp (rIx K) (tVar 1) (tCallSD (sp_law_pick K) [] (WE (W0 E)) (tCons (tVar 0) (tCons (tCB (rLenA K) (tCons (tVar 1) tNil)) tNil))))))
def sp_law_odd_sign (K : Frg) : Sp := fun vs H Q E => vs.length = 1 ∧ t_law_odd_sign K E { nx := fun _ H' => Q .non H', rt := Q } (start N_law_odd_sign vs) H
theorem sc_law_odd_sign : FnScope N_law_odd_sign ["_law_draws"] (defScope s_law_odd_sign) := ⟨rfl, rfl, rfl, by decide +kernel, rfl, by decide +kernel, by decide +kernel⟩
theorem ok_law_odd_sign (T : Txt PROG K mg) : ∃ fd, FnOk PROG w K mg base (L2.CX PROG w) 2 (Rz.pG "_law_odd_sign" K) fd ["_law_draws"] (sp_law_odd_sign K) ∧ FunD K "_law_odd_sign" "_law_odd_sign" (defArgs s_law_odd_sign) (defBody s_law_odd_sign) (defScope s_law_odd_sign) [] [] (Rz.pG "_law_odd_sign" K) fd := by
  obtain ⟨fd_law_pick, G_law_pick, D_law_pick⟩ := ok_law_pick (w := w) (base := base) T
  have b_law_pick_2 : Binds K fd_law_pick _ [] := D_law_pick.bindsN (ps := ["_law_draws", "_law_many"]) (fun _ _ _ _ _ _ us hl => match us, hl with | [_, _], _ => rfl)
  obtain ⟨fd, F⟩ := T.F_law_odd_sign
  refine ⟨fd, F.ok sc_law_odd_sign (fun vs H Q E h => h.1) (fun cdv A outer s H vs Q E hr h => ⟨t_law_odd_sign K E, ?_, h.2⟩), F⟩
  exact (pss_cons (ps_set (i := 1) sc_law_odd_sign.nd rfl (by first | exact Or.inl rfl | exact Or.inr rfl) pe_str) (pss_one (ps_ret (pe_ix ix_seq (pv 1) (pe_callSD G_law_pick (hr.mono (by decide)) rfl T.g__law_pick D_law_pick.kp b_law_pick_2 .nil (fun σ => passAt (takes_of rfl rfl rfl rfl) σ) (pa_cons (pv 0) (pa_cons (pe_callB c_len rfl T.f_len (by decide +kernel) (pa_cons (pv 1) pa_nil)) pa_nil))) (fun _ _ => rfl)))))
/-! as_string -/
abbrev N_as_string : List Str := ["text"]
def t_as_string (K : Frg) (E : XK) : TS :=
  (tSeq (tIfS (tB (tCB (rIsiA K) (tCons (tVar 0) (tCons (tC (.ty "bytes")) tNil)))) (tRet tDeadE) tNext) (tRet (tVar 0)))
def sp_as_string (K : Frg) : Sp := fun vs H Q E => vs.length = 1 ∧ t_as_string K E { nx := fun _ H' => Q .non H', rt := Q } (start N_as_string vs) H
theorem sc_as_string : FnScope N_as_string ["text"] (defScope s_as_string) := ⟨rfl, rfl, rfl, by decide +kernel, rfl, by decide +kernel, by decide +kernel⟩
theorem ok_as_string (T : Txt PROG K mg) : ∃ fd, FnOk PROG w K mg base (L2N.CX PROG w) 1 (Rz.pG "as_string" K) fd ["text"] (sp_as_string K) ∧ FunD K "as_string" "as_string" (defArgs s_as_string) (defBody s_as_string) (defScope s_as_string) [] [] (Rz.pG "as_string" K) fd := by
  obtain ⟨fd, F⟩ := T.F_as_string
  refine ⟨fd, F.ok sc_as_string (fun vs H Q E h => h.1) (fun cdv A outer s H vs Q E hr h => ⟨t_as_string K E, ?_, h.2⟩), F⟩
  exact (pss_cons (ps_if (pt_val (pe_callB c_isi rfl T.f_isinstance (by decide +kernel) (pa_cons (pv 0) (pa_cons (pe_bltn rfl T.f_bytes (by decide +kernel) rfl) pa_nil)))) (pss_one (ps_ret pe_dead)) pss_nil) (pss_one (ps_ret (pv 0))))
/-! check_text -/
abbrev N_check_text : List Str := ["text", "at", "sign"]
def t_check_text (K : Frg) (E : XK) : TS :=
  (tFor (iEnumS (tCons (tVar 0) tNil)) (gTup K 2 (gCons (gName 1) (gCons (gName 2) gNil))) (tIfS (tTest (tOp (rNotInA K) (tVar 2) (tC (.str "abcdefghijklmnopqrstuvwxyz")))) (tRaise (tMkX (He.ga K "BadSign") "at" (tCons (tVar 1) tNil)) (W0 E)) tNext))
def sp_check_text (K : Frg) : Sp := fun vs H Q E => vs.length = 1 ∧ t_check_text K E { nx := fun _ H' => Q .non H', rt := Q } (start N_check_text vs) H
theorem sc_check_text : FnScope N_check_text ["text"] (defScope s_check_text) := ⟨rfl, rfl, rfl, by decide +kernel, rfl, by decide +kernel, by decide +kernel⟩
theorem ok_check_text (T : Txt PROG K mg) : ∃ fd, FnOk PROG w K mg base (L2N.CX PROG w) 1 (Rz.pG "check_text" K) fd ["text"] (sp_check_text K) ∧ FunD K "check_text" "check_text" (defArgs s_check_text) (defBody s_check_text) (defScope s_check_text) [] [] (Rz.pG "check_text" K) fd := by
  obtain ⟨fd, F⟩ := T.F_check_text
  refine ⟨fd, F.ok sc_check_text (fun vs H Q E h => h.1) (fun cdv A outer s H vs Q E hr h => ⟨t_check_text K E, ?_, h.2⟩), F⟩
  exact (pss_one (ps_for (passes_of rfl) rfl (pi_enumS rfl T.f_enumerate (pa_cons (pv 0) pa_nil)) (pg_tup rfl (pgs_cons (pg_name (i := 1) sc_check_text.nd rfl (by first | exact Or.inl rfl | exact Or.inr rfl)) (pgs_cons (pg_name (i := 2) sc_check_text.nd rfl (by first | exact Or.inl rfl | exact Or.inr rfl)) pgs_nil))) (pss_one (ps_if (pt_cmpR op_notInA (pv 2) (pe_gstr rfl T.k_SIGNS) (by rfl)) (pss_one (ps_raiseN rfl (L2N.takes_of rfl rfl rfl rfl) (pmkF_sup1 T.x_BadSign T.f_super hr.d5 rfl T.g_BadSign (pa_cons (pv 1) pa_nil)))) pss_nil))))
/-! Rule.__init__ -/
abbrev N_Rule_init : List Str := ["self", "left", "right"]
def t_Rule_init (K : Frg) (E : XK) : TS :=
  (tSeq (tDrop (tCallSD (sp_check_text K) [] (WE (W0 E)) (tCons (tVar 1) tNil))) (tSeq (tDrop (tCallSD (sp_check_text K) [] (WE (W0 E)) (tCons (tVar 2) tNil))) (tSeq (tIfS (tOr (tNot (tTest (tChain rLeA rLeA (tC (.int 1)) (tCB (rLenA K) (tCons (tVar 1) tNil)) (tC (.int 4))))) (tTest (tOp rGtA (tCB (rLenA K) (tCons (tVar 2) tNil)) (tC (.int 4))))) (tRaise (tMkX0 (He.ga K "BadRule")) (W0 E)) tNext) (tSeq (sFld K (tVar 0) (tVar 1) "left") (sFld K (tVar 0) (tVar 2) "right")))))
def sp_Rule_init (K : Frg) : Sp := fun vs H Q E => vs.length = 3 ∧ t_Rule_init K E { nx := fun _ H' => Q .non H', rt := Q } (start N_Rule_init vs) H
theorem sc_Rule_init : FnScope N_Rule_init ["self", "left", "right"] (defScope s_Rule_init) := ⟨rfl, rfl, rfl, by decide +kernel, rfl, by decide +kernel, by decide +kernel⟩
theorem ok_Rule_init (T : Txt PROG K mg) : ∃ fd, FnOk PROG w K mg base (L2N.CX PROG w) 2 (Rz.pM "Rule" "__init__" K) fd ["self", "left", "right"] (sp_Rule_init K) ∧ FunD K "__init__" "Rule.__init__" (defArgs s_Rule_init) (defBody s_Rule_init) (defScope s_Rule_init) [.str ""] [] (Rz.pM "Rule" "__init__" K) fd := by
  obtain ⟨fd_check_text, G_check_text, D_check_text⟩ := ok_check_text (w := w) (base := base) T
  have b_check_text_1 : Binds K fd_check_text _ [] := D_check_text.bindsN (ps := ["text"]) (fun _ _ _ _ _ _ us hl => match us, hl with | [_], _ => rfl)
  obtain ⟨fd, F⟩ := T.F_Rule_init
  refine ⟨fd, F.ok sc_Rule_init (fun vs H Q E h => h.1) (fun cdv A outer s H vs Q E hr h => ⟨t_Rule_init K E, ?_, h.2⟩), F⟩
  exact (pss_cons (ps_expr (pe_callSD G_check_text (hr.mono (by decide)) rfl T.g_check_text D_check_text.kp b_check_text_1 .nil (fun σ => L2N.passAt (L2N.takes_of rfl rfl rfl rfl) σ) (pa_cons (pv 1) pa_nil))) (pss_cons (ps_expr (pe_callSD G_check_text (hr.mono (by decide)) rfl T.g_check_text D_check_text.kp b_check_text_1 .nil (fun σ => L2N.passAt (L2N.takes_of rfl rfl rfl rfl) σ) (pa_cons (pv 2) pa_nil))) (pss_cons (ps_if (PW.pt (pw_or (pt_not (pt_chain op_leA op_leA pe_int (pe_callB c_len rfl T.f_len (by decide +kernel) (pa_cons (pv 1) pa_nil)) (pe_gint rfl T.k_MOST_SIGNS))) (pw_or1 (pt_cmpR op_gtA (pe_callB c_len rfl T.f_len (by decide +kernel) (pa_cons (pv 2) pa_nil)) (pe_gint rfl T.k_MOST_SIGNS) (nomark _))))) (pss_one (ps_raiseN rfl (L2N.takes_of rfl rfl rfl rfl) (pmkF_sup0 T.x_BadRule T.f_super hr.d5 rfl T.g_BadRule))) pss_nil) (pss_cons (ps_fld (pv 0) (pv 1) rfl) (pss_one (ps_fld (pv 0) (pv 2) rfl))))))
/-! Book.add -/
abbrev N_Book_add : List Str := ["self", "rule"]
def t_Book_add (K : Frg) (E : XK) : TS :=
  (tSeq (tIfS (tTest (tOp (rEqA K) (tCB (rLenA K) (tCons (tFld K (tVar 0) "rules") tNil)) (tC (.int 6)))) (tRaise (tMkX0 (He.ga K "BookFull")) (W0 E)) tNext) (tDrop (tBM K "list" rAppend (tFld K (tVar 0) "rules") (tCons (tVar 1) tNil))))
def sp_Book_add (K : Frg) : Sp := fun vs H Q E => vs.length = 2 ∧ t_Book_add K E { nx := fun _ H' => Q .non H', rt := Q } (start N_Book_add vs) H
theorem sc_Book_add : FnScope N_Book_add ["self", "rule"] (defScope s_Book_add) := ⟨rfl, rfl, rfl, by decide +kernel, rfl, by decide +kernel, by decide +kernel⟩
theorem ok_Book_add (T : Txt PROG K mg) : ∃ fd, FnOk PROG w K mg base (L2.CX PROG w) 1 (Rz.pM "Book" "add" K) fd ["self", "rule"] (sp_Book_add K) ∧ FunD K "add" "Book.add" (defArgs s_Book_add) (defBody s_Book_add) (defScope s_Book_add) [] [] (Rz.pM "Book" "add" K) fd := by
  obtain ⟨fd, F⟩ := T.F_Book_add
  refine ⟨fd, F.ok sc_Book_add (fun vs H Q E h => h.1) (fun cdv A outer s H vs Q E hr h => ⟨t_Book_add K E, ?_, h.2⟩), F⟩
  exact (pss_cons (ps_if (pt_cmpR (op_eqA hr) (pe_callB c_len rfl T.f_len (by decide +kernel) (pa_cons (pe_fld (pv 0) rfl) pa_nil)) (pe_gint rfl T.k_MOST_RULES) (nomark _)) (pss_one (ps_raise rfl (takes_of rfl rfl rfl rfl) (pmk_sup0 T.x_BookFull T.f_super hr rfl T.g_BookFull))) pss_nil) (pss_one (ps_expr (pe_bm PySem.F.plainAttrs_list PySem.F.slot_list_append PySem.F.type_list_append mt_append (pe_fld (pv 0) rfl) (pa_cons (pv 1) pa_nil)))))
/-! Book.__init__ -/
abbrev N_Book_init : List Str := ["self", "rules", "rule"]
def t_Book_init (K : Frg) (E : XK) : TS :=
  (tSeq (sFld K (tVar 0) (tLst tNil) "rules") (tFor (iTup K (tVar 1)) (gName 2) (tDrop (tMethZ (He.ga K "Book") "add" (sp_Book_add K) [] (WE (W0 E)) (tVar 0) (tCons (tVar 2) tNil)))))
def sp_Book_init (K : Frg) : Sp := fun vs H Q E => vs.length = 2 ∧ t_Book_init K E { nx := fun _ H' => Q .non H', rt := Q } (start N_Book_init vs) H
theorem sc_Book_init : FnScope N_Book_init ["self", "rules"] (defScope s_Book_init) := ⟨rfl, rfl, rfl, by decide +kernel, rfl, by decide +kernel, by decide +kernel⟩
theorem ok_Book_init (T : Txt PROG K mg) : ∃ fd, FnR PROG w K mg base (L2.CX PROG w) 2 (Rz.pM "Book" "__init__" K) (spStar 1 (sp_Book_init K)) ∧ FunD K "__init__" "Book.__init__" (defArgs s_Book_init) (defBody s_Book_init) (defScope s_Book_init) [] [] (Rz.pM "Book" "__init__" K) fd := by
  obtain ⟨fd_Book_add, G_Book_add, D_Book_add⟩ := ok_Book_add (w := w) (base := base) T
  have b_Book_add_2 : Binds K fd_Book_add _ [] := D_Book_add.bindsN (ps := ["self", "rule"]) (fun _ _ _ _ _ _ us hl => match us, hl with | [_, _], _ => rfl)
  obtain ⟨fd, F⟩ := T.F_Book_init
  refine ⟨fd, F.okStar (ps := ["self"]) (pv := "rules") sc_Book_init StX.cxUp (fun _ _ _ _ _ _ us rest hl => match us, hl, rest with | [_], _, [] => rfl | [_], _, _ :: _ => rfl) (fun cdv A outer s H vs Q E hr h => ⟨t_Book_init K E, ?_, h.2⟩), F⟩
  exact (pss_cons (ps_fld (pv 0) (pe_lst pa_nil) rfl) (pss_one (ps_for (passes_of rfl) rfl (pi_tup (pv 1)) (pg_name (i := 2) sc_Book_init.nd rfl (by first | exact Or.inl rfl | exact Or.inr rfl)) (pss_one (ps_expr (pe_methZ (pv 0) T.c_Book T.m_Book_add G_Book_add (hr.mono (by decide)) b_Book_add_2 .nil (fun σ => passAt (takes_of rfl rfl rfl rfl) σ) (pa_cons (pv 2) pa_nil)))))))
/-! Book.read -/
abbrev N_Book_read : List Str := ["cls", "text", "string", "rules", "lines", "index", "line", "parts", "why"]
def t_Book_read (K : Frg) (E : XK) : TS :=
  (tSeq (tAsg (tCallSD (sp_as_string K) [] (WE (W0 E)) (tCons (tVar 1) tNil)) (gName 2)) (tSeq (tAsg (tLst tNil) (gName 3)) (tSeq (tAsg (tIf (tTest (tOp (rNeA K) (tVar 2) (tC (.str "")))) (tSplit (tVar 2) (tC (.str "\n"))) (tLst tNil)) (gName 4)) (tSeq (tFor (iEnum K (tCons (tVar 4) tNil)) (gTup K 2 (gCons (gName 5) (gCons (gName 6) gNil))) (tSeq (tAsg (tSplit (tVar 6) (tC (.str ":"))) (gName 7)) (tSeq (tIfS (tTest (tOp (rNeA K) (tCB (rLenA K) (tCons (tVar 7) tNil)) (tC (.int 2)))) (tRaise (tMkX (He.ga K "BadLine") "line" (tCons (tOp rAddA (tVar 5) (tC (.int 1))) tNil)) (W0 E)) tNext) (tTryF K (.ref (He.ga K "RiseError")) 8 (tMkX (He.ga K "BadLine") "line" (tCons (tOp rAddA (tVar 5) (tC (.int 1))) tNil)) (W0 E) (fun W => (tDrop (tBM K "list" rAppend (tVar 3) (tCons (tMakeS (He.ga K "Rule") (sp_Rule_init K) (List.drop 1 [.str ""]) (WE W) (tCons (tOp (rIx K) (tVar 7) (tC (.int 0))) (tCons (tOp (rIx K) (tVar 7) (tC (.int 1))) tNil))) tNil)))))))) (tRet (tMakeSt K (He.ga K "Book") (spStar 1 (sp_Book_init K)) (WE (W0 E)) (tVar 0) (tVar 3)))))))
def sp_Book_read (K : Frg) : Sp := fun vs H Q E => vs.length = 2 ∧ t_Book_read K E { nx := fun _ H' => Q .non H', rt := Q } (start N_Book_read vs) H
theorem sc_Book_read : FnScope N_Book_read ["cls", "text"] (defScope s_Book_read) := ⟨rfl, rfl, rfl, by decide +kernel, rfl, by decide +kernel, by decide +kernel⟩
theorem ok_Book_read (T : Txt PROG K mg) : ∃ fd, FnOk PROG w K mg base (L2.CX PROG w) 4 (Rz.pC "Book" "read" K) fd ["cls", "text"] (sp_Book_read K) ∧ FunD K "read" "Book.read" (defArgs s_Book_read) (defBody s_Book_read) (defScope s_Book_read) [] [] (Rz.pC "Book" "read" K) fd := by
  obtain ⟨fd_as_string, G_as_string, D_as_string⟩ := ok_as_string (w := w) (base := base) T
  obtain ⟨fd_Rule_init, G_Rule_init, D_Rule_init⟩ := ok_Rule_init (w := w) (base := base) T
  obtain ⟨fd_Book_init, G_Book_init, D_Book_init⟩ := ok_Book_init (w := w) (base := base) T
  have b_as_string_1 : Binds K fd_as_string _ [] := D_as_string.bindsN (ps := ["text"]) (fun _ _ _ _ _ _ us hl => match us, hl with | [_], _ => rfl)
  obtain ⟨ds_Rule_init_3, V_Rule_init_3, b_Rule_init_3⟩ := D_Rule_init.binds1 (ps := ["self", "left", "right"]) 3 1 (by simp) rfl (fun _ _ _ _ _ _ _ us its h1 h2 => match us, its, h1, h2 with | [_, _, _], [_], _, _ => ⟨_, rfl, rfl⟩)
  obtain ⟨fd, F⟩ := T.F_Book_read
  refine ⟨fd, F.ok sc_Book_read (fun vs H Q E h => h.1) (fun cdv A outer s H vs Q E hr h => ⟨t_Book_read K E, ?_, h.2⟩), F⟩
  exact (pss_cons (ps_set (i := 2) sc_Book_read.nd rfl (by first | exact Or.inl rfl | exact Or.inr rfl) (pe_callSD G_as_string (hr.mono (by decide)) rfl T.g_as_string D_as_string.kp b_as_string_1 .nil (fun σ => passN (takes_of rfl rfl rfl rfl) σ) (pa_cons (pv 1) pa_nil))) (pss_cons (ps_set (i := 3) sc_Book_read.nd rfl (by first | exact Or.inl rfl | exact Or.inr rfl) (pe_lst pa_nil)) (pss_cons (ps_set (i := 4) sc_Book_read.nd rfl (by first | exact Or.inl rfl | exact Or.inr rfl) (pe_ifExp (pt_cmpR (op_neA hr) (pv 2) pe_str (nomark _)) (pe_splitS (pv 2) pe_str) (pe_lst pa_nil))) (pss_cons (ps_for (passes_of rfl) rfl (pi_enum rfl T.f_enumerate (pa_cons (pv 4) pa_nil)) (pg_tup rfl (pgs_cons (pg_name (i := 5) sc_Book_read.nd rfl (by first | exact Or.inl rfl | exact Or.inr rfl)) (pgs_cons (pg_name (i := 6) sc_Book_read.nd rfl (by first | exact Or.inl rfl | exact Or.inr rfl)) pgs_nil))) (pss_cons (ps_set (i := 7) sc_Book_read.nd rfl (by first | exact Or.inl rfl | exact Or.inr rfl) (pe_splitS (pv 6) pe_str)) (pss_cons (ps_if (pt_cmpR (op_neA hr) (pe_callB c_len rfl T.f_len (by decide +kernel) (pa_cons (pv 7) pa_nil)) pe_int (nomark _)) (pss_one (ps_raise rfl (takes_of rfl rfl rfl rfl) (pmk_sup1 T.x_BadLine T.f_super hr rfl T.g_BadLine (pa_cons (pe_op op_addA (pv 5) pe_int) pa_nil)))) pss_nil) (pss_one (ps_try_from (i := 8) rfl rfl sc_Book_read.nd (takes_of rfl rfl rfl rfl) rfl rfl ⟨rfl, by decide, Or.inl T.g_RiseError⟩ (by decide) (fun W pn xe tk po => by exact (pss_one (ps_expr (pe_bm PySem.F.plainAttrs_list PySem.F.slot_list_append PySem.F.type_list_append mt_append (pv 3) (pa_cons (pe_makeS T.mk_Rule G_Rule_init (hr.mono (by decide)) rfl T.g_Rule b_Rule_init_3 V_Rule_init_3 (fun σ => L2N.passAt tk σ) (pa_cons (pe_ix ix_seq (pv 7) pe_int (fun _ _ => rfl)) (pa_cons (pe_ix ix_seq (pv 7) pe_int (fun _ _ => rfl)) pa_nil))) pa_nil))))) (fun a pn => by exact (pmkF_sup1 T.x_BadLine T.f_super hr.d5 rfl T.g_BadLine (pa_cons (pe_op op_addA (pv 5) pe_int) pa_nil)))))))) (pss_one (ps_ret (pe_makeSt (pv 0) T.mk_Book G_Book_init (hr.mono (by decide)) (fun σ => passAt (takes_of rfl rfl rfl rfl) σ) (pv 3))))))))
/-! _law_lines_of -/
abbrev N_law_lines_of : List Str := ["_law_rules", "_law_left", "_law_right"]
def t_law_lines_of (K : Frg) (E : XK) : TS :=
  (tRet (tM1 (rJoinA K) (tC (.str "\n")) (tLc (iList K (tVar 0)) (gTup K 2 (gCons (gName 1) (gCons (gName 2) gNil))) tYes (tOp rAddA (tOp rAddA (tVar 1) (tC (.str ":"))) (tVar 2)) [1, 2])))
def sp_law_lines_of (K : Frg) : Sp := fun vs H Q E => vs.length = 1 ∧ t_law_lines_of K E { nx := fun _ H' => Q .non H', rt := Q } (start N_law_lines_of vs) H
theorem sc_law_lines_of : FnScope N_law_lines_of ["_law_rules"] (defScope s_law_lines_of) := ⟨rfl, rfl, rfl, by decide +kernel, rfl, by decide +kernel, by decide +kernel⟩
theorem ok_law_lines_of (T : Txt PROG K mg) : ∃ fd, FnOk PROG w K mg base (L2.CX PROG w) 1 (Rz.pG "_law_lines_of" K) fd ["_law_rules"] (sp_law_lines_of K) ∧ FunD K "_law_lines_of" "_law_lines_of" (defArgs s_law_lines_of) (defBody s_law_lines_of) (defScope s_law_lines_of) [] [] (Rz.pG "_law_lines_of" K) fd := by
  obtain ⟨fd, F⟩ := T.F_law_lines_of
  refine ⟨fd, F.ok sc_law_lines_of (fun vs H Q E h => h.1) (fun cdv A outer s H vs Q E hr h => ⟨t_law_lines_of K E, ?_, h.2⟩), F⟩
  exact (pss_one (ps_ret (pe_joinA pe_str (pe_lc (own := [("_law_left", 1), ("_law_right", 2)]) rfl sc_law_lines_of.nd (pi_list (pv 0)) (blkOk_by (own := [("_law_left", 1), ("_law_right", 2)]) (N := N_law_lines_of) (sc := defScope s_law_lines_of) (by decide +kernel)) (fun _ _ _ _ _ => (pg_tup rfl (pgs_cons (pg_name (i := 1) sc_law_lines_of.nd rfl (by first | exact Or.inl rfl | exact Or.inr rfl)) (pgs_cons (pg_name (i := 2) sc_law_lines_of.nd rfl (by first | exact Or.inl rfl | exact Or.inr rfl)) pgs_nil)))) (fun _ _ _ _ _ => pts_nil) (fun _ _ _ _ _ => (pe_op op_addA (pe_op op_addA (pv 1) pe_str) (pv 2)))))))
/-! Book.__iter__ -/
abbrev N_Book_iter : List Str := ["self"]
def t_Book_iter (K : Frg) (E : XK) : TS :=
  (tRet (tCB (rIterA K) (tCons (tFld K (tVar 0) "rules") tNil)))
def sp_Book_iter (K : Frg) : Sp := fun vs H Q E => vs.length = 1 ∧ t_Book_iter K E { nx := fun _ H' => Q .non H', rt := Q } (start N_Book_iter vs) H
theorem sc_Book_iter : FnScope N_Book_iter ["self"] (defScope s_Book_iter) := ⟨rfl, rfl, rfl, by decide +kernel, rfl, by decide +kernel, by decide +kernel⟩
theorem ok_Book_iter (T : Txt PROG K mg) : ∃ fd, FnOk PROG w K mg base (L2N.CX PROG w) 1 (Rz.pM "Book" "__iter__" K) fd ["self"] (sp_Book_iter K) ∧ FunD K "__iter__" "Book.__iter__" (defArgs s_Book_iter) (defBody s_Book_iter) (defScope s_Book_iter) [] [] (Rz.pM "Book" "__iter__" K) fd := by
  obtain ⟨fd, F⟩ := T.F_Book_iter
  refine ⟨fd, F.ok sc_Book_iter (fun vs H Q E h => h.1) (fun cdv A outer s H vs Q E hr h => ⟨t_Book_iter K E, ?_, h.2⟩), F⟩
  exact (pss_one (ps_ret (pe_callB c_iter rfl T.f_iter (by decide +kernel) (pa_cons (pe_fld (pv 0) rfl) pa_nil))))
/-! Book.__len__ -/
abbrev N_Book_len : List Str := ["self"]
def t_Book_len (K : Frg) (E : XK) : TS :=
  (tRet (tCB (rLenA K) (tCons (tFld K (tVar 0) "rules") tNil)))
def sp_Book_len (K : Frg) : Sp := fun vs H Q E => vs.length = 1 ∧ t_Book_len K E { nx := fun _ H' => Q .non H', rt := Q } (start N_Book_len vs) H
theorem sc_Book_len : FnScope N_Book_len ["self"] (defScope s_Book_len) := ⟨rfl, rfl, rfl, by decide +kernel, rfl, by decide +kernel, by decide +kernel⟩
theorem ok_Book_len (T : Txt PROG K mg) : ∃ fd, FnOk PROG w K mg base (L2N.CX PROG w) 1 (Rz.pM "Book" "__len__" K) fd ["self"] (sp_Book_len K) ∧ FunD K "__len__" "Book.__len__" (defArgs s_Book_len) (defBody s_Book_len) (defScope s_Book_len) [] [] (Rz.pM "Book" "__len__" K) fd := by
  obtain ⟨fd, F⟩ := T.F_Book_len
  refine ⟨fd, F.ok sc_Book_len (fun vs H Q E h => h.1) (fun cdv A outer s H vs Q E hr h => ⟨t_Book_len K E, ?_, h.2⟩), F⟩
  exact (pss_one (ps_ret (pe_callB c_len rfl T.f_len (by decide +kernel) (pa_cons (pe_fld (pv 0) rfl) pa_nil))))
/-! Row.__init__ -/
abbrev N_Row_init : List Str := ["self", "text", "heights", "signs", "height"]
def t_Row_init (K : Frg) (E : XK) : TS :=
  (tSeq (tAsg (tCallSD (sp_as_string K) [] (WE (W0 E)) (tCons (tVar 1) tNil)) (gName 3)) (tSeq (tDrop (tCallSD (sp_check_text K) [] (WE (W0 E)) (tCons (tVar 3) tNil))) (tSeq (tIfS (tTest (tOp rIsN' (tVar 2) (tC .non))) (tAsg (tOp rMulA (tLst (tCons (tC (.int 0)) tNil)) (tCB (rLenA K) (tCons (tVar 3) tNil))) (gName 2)) tNext) (tSeq (tIfS (tTest (tOp (rNeA K) (tCB (rLenA K) (tCons (tVar 2) tNil)) (tCB (rLenA K) (tCons (tVar 3) tNil)))) (tRaise (tMkX0 (He.ga K "Uneven")) (W0 E)) tNext) (tSeq (tFor (iList K (tVar 2)) (gName 4) (tIfS (tNot (tTest (tChain rLeA rLeA (tC (.int 0)) (tVar 4) (tC (.int 9))))) (tRaise (tMkX (He.ga K "BadHeight") "height" (tCons (tVar 4) tNil)) (W0 E)) tNext)) (sFld K (tVar 0) (tZipS K (tCons (tVar 3) (tCons (tVar 2) tNil))) "pairs"))))))
def sp_Row_init (K : Frg) : Sp := fun vs H Q E => vs.length = 3 ∧ t_Row_init K E { nx := fun _ H' => Q .non H', rt := Q } (start N_Row_init vs) H
theorem sc_Row_init : FnScope N_Row_init ["self", "text", "heights"] (defScope s_Row_init) := ⟨rfl, rfl, rfl, by decide +kernel, rfl, by decide +kernel, by decide +kernel⟩
theorem ok_Row_init (T : Txt PROG K mg) : ∃ fd, FnOk PROG w K mg base (L2N.CX PROG w) 2 (Rz.pM "Row" "__init__" K) fd ["self", "text", "heights"] (sp_Row_init K) ∧ FunD K "__init__" "Row.__init__" (defArgs s_Row_init) (defBody s_Row_init) (defScope s_Row_init) [.str "", .non] [] (Rz.pM "Row" "__init__" K) fd := by
  obtain ⟨fd_as_string, G_as_string, D_as_string⟩ := ok_as_string (w := w) (base := base) T
  obtain ⟨fd_check_text, G_check_text, D_check_text⟩ := ok_check_text (w := w) (base := base) T
  have b_as_string_1 : Binds K fd_as_string _ [] := D_as_string.bindsN (ps := ["text"]) (fun _ _ _ _ _ _ us hl => match us, hl with | [_], _ => rfl)
  have b_check_text_1 : Binds K fd_check_text _ [] := D_check_text.bindsN (ps := ["text"]) (fun _ _ _ _ _ _ us hl => match us, hl with | [_], _ => rfl)
  obtain ⟨fd, F⟩ := T.F_Row_init
  refine ⟨fd, F.ok sc_Row_init (fun vs H Q E h => h.1) (fun cdv A outer s H vs Q E hr h => ⟨t_Row_init K E, ?_, h.2⟩), F⟩
  exact (pss_cons (ps_set (i := 3) sc_Row_init.nd rfl (by first | exact Or.inl rfl | exact Or.inr rfl) (pe_callSD G_as_string (hr.mono (by decide)) rfl T.g_as_string D_as_string.kp b_as_string_1 .nil (fun σ => L2N.passAt (L2N.takes_of rfl rfl rfl rfl) σ) (pa_cons (pv 1) pa_nil))) (pss_cons (ps_expr (pe_callSD G_check_text (hr.mono (by decide)) rfl T.g_check_text D_check_text.kp b_check_text_1 .nil (fun σ => L2N.passAt (L2N.takes_of rfl rfl rfl rfl) σ) (pa_cons (pv 3) pa_nil))) (pss_cons (ps_if (pt_cmpR op_isA (pv 2) pe_non (nomark _)) (pss_one (ps_set (i := 2) sc_Row_init.nd rfl (by first | exact Or.inl rfl | exact Or.inr rfl) (pe_op op_mulA (pe_lst (pa_cons pe_int pa_nil)) (pe_callB c_len rfl T.f_len (by decide +kernel) (pa_cons (pv 3) pa_nil))))) pss_nil) (pss_cons (ps_if (pt_cmpR (op_neA hr) (pe_callB c_len rfl T.f_len (by decide +kernel) (pa_cons (pv 2) pa_nil)) (pe_callB c_len rfl T.f_len (by decide +kernel) (pa_cons (pv 3) pa_nil)) (nomark _)) (pss_one (ps_raiseN rfl (L2N.takes_of rfl rfl rfl rfl) (pmkF_sup0 T.x_Uneven T.f_super hr.d5 rfl T.g_Uneven))) pss_nil) (pss_cons (ps_for (passes_of rfl) rfl (pi_list (pv 2)) (pg_name (i := 4) sc_Row_init.nd rfl (by first | exact Or.inl rfl | exact Or.inr rfl)) (pss_one (ps_if (pt_not (pt_chain op_leA op_leA pe_int (pv 4) (pe_gint rfl T.k_TOP))) (pss_one (ps_raiseN rfl (L2N.takes_of rfl rfl rfl rfl) (pmkF_sup1 T.x_BadHeight T.f_super hr.d5 rfl T.g_BadHeight (pa_cons (pv 4) pa_nil)))) pss_nil))) (pss_one (ps_fld (pv 0) (pe_zipS rfl rfl T.f_list rfl T.f_zip (pa_cons (pv 3) (pa_cons (pv 2) pa_nil))) rfl)))))))
/-! check_bound -/
abbrev N_check_bound : List Str := ["most", "greatest"]
def t_check_bound (K : Frg) (E : XK) : TS :=
  (tIfS (tNot (tTest (tChain rLeA rLeA (tC (.int 0)) (tVar 0) (tVar 1)))) (tRaise (tMkX (He.ga K "BadBound") "most" (tCons (tVar 0) tNil)) (W0 E)) tNext)
def sp_check_bound (K : Frg) : Sp := fun vs H Q E => vs.length = 2 ∧ t_check_bound K E { nx := fun _ H' => Q .non H', rt := Q } (start N_check_bound vs) H
theorem sc_check_bound : FnScope N_check_bound ["most", "greatest"] (defScope s_check_bound) := ⟨rfl, rfl, rfl, by decide +kernel, rfl, by decide +kernel, by decide +kernel⟩
theorem ok_check_bound (T : Txt PROG K mg) : ∃ fd, FnOk PROG w K mg base (L2N.CX PROG w) 1 (Rz.pG "check_bound" K) fd ["most", "greatest"] (sp_check_bound K) ∧ FunD K "check_bound" "check_bound" (defArgs s_check_bound) (defBody s_check_bound) (defScope s_check_bound) [] [] (Rz.pG "check_bound" K) fd := by
  obtain ⟨fd, F⟩ := T.F_check_bound
  refine ⟨fd, F.ok sc_check_bound (fun vs H Q E h => h.1) (fun cdv A outer s H vs Q E hr h => ⟨t_check_bound K E, ?_, h.2⟩), F⟩
  exact (pss_one (ps_if (pt_not (pt_chain op_leA op_leA pe_int (pv 0) (pv 1))) (pss_one (ps_raiseN rfl (L2N.takes_of rfl rfl rfl rfl) (pmkF_sup1 T.x_BadBound T.f_super hr.d5 rfl T.g_BadBound (pa_cons (pv 0) pa_nil)))) pss_nil))
/-! Row.signs -/
abbrev N_Row_signs : List Str := ["self", "sign", "height"]
def t_Row_signs (K : Frg) (E : XK) : TS :=
  (tRet (tM1 (rJoinA K) (tC (.str "")) (tLc (iList K (tFld K (tVar 0) "pairs")) (gTup K 2 (gCons (gName 1) (gCons (gName 2) gNil))) tYes (tVar 1) [1, 2])))
def sp_Row_signs (K : Frg) : Sp := fun vs H Q E => vs.length = 1 ∧ t_Row_signs K E { nx := fun _ H' => Q .non H', rt := Q } (start N_Row_signs vs) H
theorem sc_Row_signs : FnScope N_Row_signs ["self"] (defScope s_Row_signs) := ⟨rfl, rfl, rfl, by decide +kernel, rfl, by decide +kernel, by decide +kernel⟩
theorem ok_Row_signs (T : Txt PROG K mg) : ∃ fd, FnOk PROG w K mg base (L2N.CX PROG w) 1 (Rz.pP "Row" "signs" K) fd ["self"] (sp_Row_signs K) ∧ FunD K "signs" "Row.signs" (defArgs s_Row_signs) (defBody s_Row_signs) (defScope s_Row_signs) [] [] (Rz.pP "Row" "signs" K) fd := by
  obtain ⟨fd, F⟩ := T.F_Row_signs
  refine ⟨fd, F.ok sc_Row_signs (fun vs H Q E h => h.1) (fun cdv A outer s H vs Q E hr h => ⟨t_Row_signs K E, ?_, h.2⟩), F⟩
  exact (pss_one (ps_ret (pe_joinA pe_str (pe_lc (own := [("sign", 1), ("height", 2)]) rfl sc_Row_signs.nd (pi_list (pe_fld (pv 0) rfl)) (blkOk_by (own := [("sign", 1), ("height", 2)]) (N := N_Row_signs) (sc := defScope s_Row_signs) (by decide +kernel)) (fun _ _ _ _ _ => (pg_tup rfl (pgs_cons (pg_name (i := 1) sc_Row_signs.nd rfl (by first | exact Or.inl rfl | exact Or.inr rfl)) (pgs_cons (pg_name (i := 2) sc_Row_signs.nd rfl (by first | exact Or.inl rfl | exact Or.inr rfl)) pgs_nil)))) (fun _ _ _ _ _ => pts_nil) (fun _ _ _ _ _ => (pv 1))))))
/-! Rule.fits -/
abbrev N_Rule_fits : List Str := ["self", "row", "at"]
def t_Rule_fits (K : Frg) (E : XK) : TS :=
  (tRet (tAndV (tOp rGeA (tVar 2) (tC (.int 0))) (tOp (rEqA K) (tSl (rSlA K) (tProp (He.ga K "Row") (sp_Row_signs K) [] E0 (tVar 1)) (tPart (tVar 2)) (tPart (tOp rAddA (tVar 2) (tCB (rLenA K) (tCons (tFld K (tVar 0) "left") tNil))))) (tFld K (tVar 0) "left"))))
def sp_Rule_fits (K : Frg) : Sp := fun vs H Q E => vs.length = 3 ∧ t_Rule_fits K E { nx := fun _ H' => Q .non H', rt := Q } (start N_Rule_fits vs) H
theorem sc_Rule_fits : FnScope N_Rule_fits ["self", "row", "at"] (defScope s_Rule_fits) := ⟨rfl, rfl, rfl, by decide +kernel, rfl, by decide +kernel, by decide +kernel⟩
theorem ok_Rule_fits (T : Txt PROG K mg) : ∃ fd, FnOk PROG w K mg base (L2N.CX PROG w) 3 (Rz.pM "Rule" "fits" K) fd ["self", "row", "at"] (sp_Rule_fits K) ∧ FunD K "fits" "Rule.fits" (defArgs s_Rule_fits) (defBody s_Rule_fits) (defScope s_Rule_fits) [] [] (Rz.pM "Rule" "fits" K) fd := by
  obtain ⟨fd_Row_signs, G_Row_signs, D_Row_signs⟩ := ok_Row_signs (w := w) (base := base) T
  have b_Row_signs_1 : Binds K fd_Row_signs _ [] := D_Row_signs.bindsN (ps := ["self"]) (fun _ _ _ _ _ _ us hl => match us, hl with | [_], _ => rfl)
  obtain ⟨fd, F⟩ := T.F_Rule_fits
  refine ⟨fd, F.ok sc_Rule_fits (fun vs H Q E h => h.1) (fun cdv A outer s H vs Q E hr h => ⟨t_Rule_fits K E, ?_, h.2⟩), F⟩
  exact (pss_one (ps_ret (pe_and (pe_cmpR op_geA (pv 2) pe_int (nomark _)) (pe_one (pe_cmpR (op_eqA hr) (pe_slice sl_A (pe_prop (pv 1) T.c_Row T.p_Row_signs G_Row_signs (hr.mono (by decide)) b_Row_signs_1 .nil passLN rfl) (po_some (pv 2)) (po_some (pe_op op_addA (pv 2) (pe_callB c_len rfl T.f_len (by decide +kernel) (pa_cons (pe_fld (pv 0) rfl) pa_nil))))) (pe_fld (pv 0) rfl) (nomark _))))))
/-! Row.heights -/
abbrev N_Row_heights : List Str := ["self", "sign", "height"]
def t_Row_heights (K : Frg) (E : XK) : TS :=
  (tRet (tLc (iList K (tFld K (tVar 0) "pairs")) (gTup K 2 (gCons (gName 1) (gCons (gName 2) gNil))) tYes (tVar 2) [1, 2]))
def sp_Row_heights (K : Frg) : Sp := fun vs H Q E => vs.length = 1 ∧ t_Row_heights K E { nx := fun _ H' => Q .non H', rt := Q } (start N_Row_heights vs) H
theorem sc_Row_heights : FnScope N_Row_heights ["self"] (defScope s_Row_heights) := ⟨rfl, rfl, rfl, by decide +kernel, rfl, by decide +kernel, by decide +kernel⟩
theorem ok_Row_heights (T : Txt PROG K mg) : ∃ fd, FnOk PROG w K mg base (L2N.CX PROG w) 1 (Rz.pP "Row" "heights" K) fd ["self"] (sp_Row_heights K) ∧ FunD K "heights" "Row.heights" (defArgs s_Row_heights) (defBody s_Row_heights) (defScope s_Row_heights) [] [] (Rz.pP "Row" "heights" K) fd := by
  obtain ⟨fd, F⟩ := T.F_Row_heights
  refine ⟨fd, F.ok sc_Row_heights (fun vs H Q E h => h.1) (fun cdv A outer s H vs Q E hr h => ⟨t_Row_heights K E, ?_, h.2⟩), F⟩
  exact (pss_one (ps_ret (pe_lc (own := [("sign", 1), ("height", 2)]) rfl sc_Row_heights.nd (pi_list (pe_fld (pv 0) rfl)) (blkOk_by (own := [("sign", 1), ("height", 2)]) (N := N_Row_heights) (sc := defScope s_Row_heights) (by decide +kernel)) (fun _ _ _ _ _ => (pg_tup rfl (pgs_cons (pg_name (i := 1) sc_Row_heights.nd rfl (by first | exact Or.inl rfl | exact Or.inr rfl)) (pgs_cons (pg_name (i := 2) sc_Row_heights.nd rfl (by first | exact Or.inl rfl | exact Or.inr rfl)) pgs_nil)))) (fun _ _ _ _ _ => pts_nil) (fun _ _ _ _ _ => (pv 2)))))
/-! Rule.written_height -/
abbrev N_Rule_written_height : List Str := ["self", "row", "at"]
def t_Rule_written_height (K : Frg) (E : XK) : TS :=
  (tRet (tOp rAddA (tC (.int 1)) (tCB (rMinA K) (tCons (tSl (rSlA K) (tProp (He.ga K "Row") (sp_Row_heights K) [] E0 (tVar 1)) (tPart (tVar 2)) (tPart (tOp rAddA (tVar 2) (tCB (rLenA K) (tCons (tFld K (tVar 0) "left") tNil))))) tNil))))
def sp_Rule_written_height (K : Frg) : Sp := fun vs H Q E => vs.length = 3 ∧ t_Rule_written_height K E { nx := fun _ H' => Q .non H', rt := Q } (start N_Rule_written_height vs) H
theorem sc_Rule_written_height : FnScope N_Rule_written_height ["self", "row", "at"] (defScope s_Rule_written_height) := ⟨rfl, rfl, rfl, by decide +kernel, rfl, by decide +kernel, by decide +kernel⟩
theorem ok_Rule_written_height (T : Txt PROG K mg) : ∃ fd, FnOk PROG w K mg base (L2N.CX PROG w) 3 (Rz.pM "Rule" "written_height" K) fd ["self", "row", "at"] (sp_Rule_written_height K) ∧ FunD K "written_height" "Rule.written_height" (defArgs s_Rule_written_height) (defBody s_Rule_written_height) (defScope s_Rule_written_height) [] [] (Rz.pM "Rule" "written_height" K) fd := by
  obtain ⟨fd_Row_heights, G_Row_heights, D_Row_heights⟩ := ok_Row_heights (w := w) (base := base) T
  have b_Row_heights_1 : Binds K fd_Row_heights _ [] := D_Row_heights.bindsN (ps := ["self"]) (fun _ _ _ _ _ _ us hl => match us, hl with | [_], _ => rfl)
  obtain ⟨fd, F⟩ := T.F_Rule_written_height
  refine ⟨fd, F.ok sc_Rule_written_height (fun vs H Q E h => h.1) (fun cdv A outer s H vs Q E hr h => ⟨t_Rule_written_height K E, ?_, h.2⟩), F⟩
  exact (pss_one (ps_ret (pe_op op_addA pe_int (pe_callB (c_min rfl) rfl T.f_min (by decide +kernel) (pa_cons (pe_slice sl_A (pe_prop (pv 1) T.c_Row T.p_Row_heights G_Row_heights (hr.mono (by decide)) b_Row_heights_1 .nil passLN rfl) (po_some (pv 2)) (po_some (pe_op op_addA (pv 2) (pe_callB c_len rfl T.f_len (by decide +kernel) (pa_cons (pe_fld (pv 0) rfl) pa_nil))))) pa_nil)))))
/-! Row.__getitem__ -/
abbrev N_Row_getitem : List Str := ["self", "at"]
def t_Row_getitem (K : Frg) (E : XK) : TS :=
  (tSeq (tIfS (tNot (tB (tCB (rIsiW K) (tCons (tVar 1) (tCons (tC (.ty "int")) tNil))))) (tRet (tMakeS (He.ga K "Row") (sp_Row_init K) (List.drop 2 [.str "", .non]) (WE (W0 E)) (tCons (tOp (rIxW K) (tProp (He.ga K "Row") (sp_Row_signs K) [] E0 (tVar 0)) (tVar 1)) (tCons (tOp (rIxW K) (tProp (He.ga K "Row") (sp_Row_heights K) [] E0 (tVar 0)) (tVar 1)) tNil)))) tNext) (tSeq (tIfS (tNot (tTest (tChain rLeA rLtA (tC (.int 0)) (tVar 1) (tCB (rLenA K) (tCons (tFld K (tVar 0) "pairs") tNil))))) (tRaise (tMkX (He.ga K "NoPlace") "at" (tCons (tVar 1) tNil)) (W0 E)) tNext) (tRet (tOp (rIxW K) (tFld K (tVar 0) "pairs") (tVar 1)))))
def sp_Row_getitem (K : Frg) : Sp := fun vs H Q E => vs.length = 2 ∧ t_Row_getitem K E { nx := fun _ H' => Q .non H', rt := Q } (start N_Row_getitem vs) H
theorem sc_Row_getitem : FnScope N_Row_getitem ["self", "at"] (defScope s_Row_getitem) := ⟨rfl, rfl, rfl, by decide +kernel, rfl, by decide +kernel, by decide +kernel⟩
theorem ok_Row_getitem (T : Txt PROG K mg) : ∃ fd, FnOk PROG w K mg base (L2N.CX PROG w) 4 (Rz.pM "Row" "__getitem__" K) fd ["self", "at"] (sp_Row_getitem K) ∧ FunD K "__getitem__" "Row.__getitem__" (defArgs s_Row_getitem) (defBody s_Row_getitem) (defScope s_Row_getitem) [] [] (Rz.pM "Row" "__getitem__" K) fd := by
  obtain ⟨fd_Row_init, G_Row_init, D_Row_init⟩ := ok_Row_init (w := w) (base := base) T
  obtain ⟨fd_Row_heights, G_Row_heights, D_Row_heights⟩ := ok_Row_heights (w := w) (base := base) T
  obtain ⟨fd_Row_signs, G_Row_signs, D_Row_signs⟩ := ok_Row_signs (w := w) (base := base) T
  obtain ⟨ds_Row_init_3, V_Row_init_3, b_Row_init_3⟩ := D_Row_init.binds1 (ps := ["self", "text", "heights"]) 3 2 (by simp) rfl (fun _ _ _ _ _ _ _ us its h1 h2 => match us, its, h1, h2 with | [_, _, _], [_, _], _, _ => ⟨_, rfl, rfl⟩)
  have b_Row_heights_1 : Binds K fd_Row_heights _ [] := D_Row_heights.bindsN (ps := ["self"]) (fun _ _ _ _ _ _ us hl => match us, hl with | [_], _ => rfl)
  have b_Row_signs_1 : Binds K fd_Row_signs _ [] := D_Row_signs.bindsN (ps := ["self"]) (fun _ _ _ _ _ _ us hl => match us, hl with | [_], _ => rfl)
  obtain ⟨fd, F⟩ := T.F_Row_getitem
  refine ⟨fd, F.ok sc_Row_getitem (fun vs H Q E h => h.1) (fun cdv A outer s H vs Q E hr h => ⟨t_Row_getitem K E, ?_, h.2⟩), F⟩
  exact (pss_cons (ps_if (pt_not (pt_val (pe_callB c_isiW rfl T.f_isinstance (by decide +kernel) (pa_cons (pv 1) (pa_cons (pe_bltn rfl T.f_int (by decide +kernel) rfl) pa_nil))))) (pss_one (ps_ret (pe_makeS T.mk_Row G_Row_init (hr.mono (by decide)) rfl T.g_Row b_Row_init_3 V_Row_init_3 (fun σ => L2N.passAt (L2N.takes_of rfl rfl rfl rfl) σ) (pa_cons (pe_ix ix_W (pe_prop (pv 0) T.c_Row T.p_Row_signs G_Row_signs (hr.mono (by decide)) b_Row_signs_1 .nil passLN rfl) (pv 1) (fun _ _ => rfl)) (pa_cons (pe_ix ix_W (pe_prop (pv 0) T.c_Row T.p_Row_heights G_Row_heights (hr.mono (by decide)) b_Row_heights_1 .nil passLN rfl) (pv 1) (fun _ _ => rfl)) pa_nil))))) pss_nil) (pss_cons (ps_if (pt_not (pt_chain op_leA op_ltA pe_int (pv 1) (pe_callB c_len rfl T.f_len (by decide +kernel) (pa_cons (pe_fld (pv 0) rfl) pa_nil)))) (pss_one (ps_raiseN rfl (L2N.takes_of rfl rfl rfl rfl) (pmkF_sup1 T.x_NoPlace T.f_super hr.d5 rfl T.g_NoPlace (pa_cons (pv 1) pa_nil)))) pss_nil) (pss_one (ps_ret (pe_ix ix_W (pe_fld (pv 0) rfl) (pv 1) (fun _ _ => rfl))))))
/-! Row.__add__ -/
abbrev N_Row_add : List Str := ["self", "other"]
def t_Row_add (K : Frg) (E : XK) : TS :=
  (tRet (tMakeS (He.ga K "Row") (sp_Row_init K) (List.drop 2 [.str "", .non]) (WE (W0 E)) (tCons (tOp rAddA (tProp (He.ga K "Row") (sp_Row_signs K) [] E0 (tVar 0)) (tProp (He.ga K "Row") (sp_Row_signs K) [] E0 (tVar 1))) (tCons (tOp rAddA (tProp (He.ga K "Row") (sp_Row_heights K) [] E0 (tVar 0)) (tProp (He.ga K "Row") (sp_Row_heights K) [] E0 (tVar 1))) tNil))))
def sp_Row_add (K : Frg) : Sp := fun vs H Q E => vs.length = 2 ∧ t_Row_add K E { nx := fun _ H' => Q .non H', rt := Q } (start N_Row_add vs) H
theorem sc_Row_add : FnScope N_Row_add ["self", "other"] (defScope s_Row_add) := ⟨rfl, rfl, rfl, by decide +kernel, rfl, by decide +kernel, by decide +kernel⟩
theorem ok_Row_add (T : Txt PROG K mg) : ∃ fd, FnOk PROG w K mg base (L2N.CX PROG w) 4 (Rz.pM "Row" "__add__" K) fd ["self", "other"] (sp_Row_add K) ∧ FunD K "__add__" "Row.__add__" (defArgs s_Row_add) (defBody s_Row_add) (defScope s_Row_add) [] [] (Rz.pM "Row" "__add__" K) fd := by
  obtain ⟨fd_Row_init, G_Row_init, D_Row_init⟩ := ok_Row_init (w := w) (base := base) T
  obtain ⟨fd_Row_heights, G_Row_heights, D_Row_heights⟩ := ok_Row_heights (w := w) (base := base) T
  obtain ⟨fd_Row_signs, G_Row_signs, D_Row_signs⟩ := ok_Row_signs (w := w) (base := base) T
  obtain ⟨ds_Row_init_3, V_Row_init_3, b_Row_init_3⟩ := D_Row_init.binds1 (ps := ["self", "text", "heights"]) 3 2 (by simp) rfl (fun _ _ _ _ _ _ _ us its h1 h2 => match us, its, h1, h2 with | [_, _, _], [_, _], _, _ => ⟨_, rfl, rfl⟩)
  have b_Row_heights_1 : Binds K fd_Row_heights _ [] := D_Row_heights.bindsN (ps := ["self"]) (fun _ _ _ _ _ _ us hl => match us, hl with | [_], _ => rfl)
  have b_Row_signs_1 : Binds K fd_Row_signs _ [] := D_Row_signs.bindsN (ps := ["self"]) (fun _ _ _ _ _ _ us hl => match us, hl with | [_], _ => rfl)
  obtain ⟨fd, F⟩ := T.F_Row_add
  refine ⟨fd, F.ok sc_Row_add (fun vs H Q E h => h.1) (fun cdv A outer s H vs Q E hr h => ⟨t_Row_add K E, ?_, h.2⟩), F⟩
  exact (pss_one (ps_ret (pe_makeS T.mk_Row G_Row_init (hr.mono (by decide)) rfl T.g_Row b_Row_init_3 V_Row_init_3 (fun σ => L2N.passAt (L2N.takes_of rfl rfl rfl rfl) σ) (pa_cons (pe_op op_addA (pe_prop (pv 0) T.c_Row T.p_Row_signs G_Row_signs (hr.mono (by decide)) b_Row_signs_1 .nil passLN rfl) (pe_prop (pv 1) T.c_Row T.p_Row_signs G_Row_signs (hr.mono (by decide)) b_Row_signs_1 .nil passLN rfl)) (pa_cons (pe_op op_addA (pe_prop (pv 0) T.c_Row T.p_Row_heights G_Row_heights (hr.mono (by decide)) b_Row_heights_1 .nil passLN rfl) (pe_prop (pv 1) T.c_Row T.p_Row_heights G_Row_heights (hr.mono (by decide)) b_Row_heights_1 .nil passLN rfl)) pa_nil)))))
/-! Row.__len__ -/
abbrev N_Row_len : List Str := ["self"]
def t_Row_len (K : Frg) (E : XK) : TS :=
  (tRet (tCB (rLenA K) (tCons (tFld K (tVar 0) "pairs") tNil)))
def sp_Row_len (K : Frg) : Sp := fun vs H Q E => vs.length = 1 ∧ t_Row_len K E { nx := fun _ H' => Q .non H', rt := Q } (start N_Row_len vs) H
theorem sc_Row_len : FnScope N_Row_len ["self"] (defScope s_Row_len) := ⟨rfl, rfl, rfl, by decide +kernel, rfl, by decide +kernel, by decide +kernel⟩
theorem ok_Row_len (T : Txt PROG K mg) : ∃ fd, FnOk PROG w K mg base (L2N.CX PROG w) 1 (Rz.pM "Row" "__len__" K) fd ["self"] (sp_Row_len K) ∧ FunD K "__len__" "Row.__len__" (defArgs s_Row_len) (defBody s_Row_len) (defScope s_Row_len) [] [] (Rz.pM "Row" "__len__" K) fd := by
  obtain ⟨fd, F⟩ := T.F_Row_len
  refine ⟨fd, F.ok sc_Row_len (fun vs H Q E h => h.1) (fun cdv A outer s H vs Q E hr h => ⟨t_Row_len K E, ?_, h.2⟩), F⟩
  exact (pss_one (ps_ret (pe_callB c_len rfl T.f_len (by decide +kernel) (pa_cons (pe_fld (pv 0) rfl) pa_nil))))
/-! Rule.__call__ -/
abbrev N_Rule_call : List Str := ["self", "row", "at", "height", "new"]
def t_Rule_call (K : Frg) (E : XK) : TS :=
  (tSeq (tIfS (tNot (tB (tMethZ (He.ga K "Rule") "fits" (sp_Rule_fits K) [] (WE (W0 E)) (tVar 0) (tCons (tVar 1) (tCons (tVar 2) tNil))))) (tRaise (tMkX (He.ga K "Mismatch") "at" (tCons (tVar 2) tNil)) (W0 E)) tNext) (tSeq (tAsg (tMethZ (He.ga K "Rule") "written_height" (sp_Rule_written_height K) [] (WE (W0 E)) (tVar 0) (tCons (tVar 1) (tCons (tVar 2) tNil))) (gName 3)) (tSeq (tIfS (tAnd (tTest (tOp (rNeA K) (tFld K (tVar 0) "right") (tC (.str "")))) (tTest (tOp rGtA (tVar 3) (tC (.int 9))))) (tRaise (tMkX (He.ga K "Beyond") "height" (tCons (tVar 3) tNil)) (W0 E)) tNext) (tSeq (tAsg (tMakeS (He.ga K "Row") (sp_Row_init K) (List.drop 2 [.str "", .non]) (WE (W0 E)) (tCons (tFld K (tVar 0) "right") (tCons (tOp rMulA (tLst (tCons (tVar 3) tNil)) (tCB (rLenA K) (tCons (tFld K (tVar 0) "right") tNil))) tNil))) (gName 4)) (tRet (tOwn (He.ga K "Row") (sp_Row_add K) (WE (W0 E)) (isIns (He.ga K "Row")) (tOwn (He.ga K "Row") (sp_Row_add K) (WE (W0 E)) (isIns (He.ga K "Row")) (tOwn (He.ga K "Row") (sp_Row_getitem K) (WE (W0 E)) anyV (tVar 1) (tSli (tC (.int 0)) (tVar 2))) (tVar 4)) (tOwn (He.ga K "Row") (sp_Row_getitem K) (WE (W0 E)) anyV (tVar 1) (tSli (tOp rAddA (tVar 2) (tCB (rLenA K) (tCons (tFld K (tVar 0) "left") tNil))) (tLenO (He.ga K "Row") (sp_Row_len K) (WE (W0 E)) (tCons (tVar 1) tNil))))))))))
def sp_Rule_call (K : Frg) : Sp := fun vs H Q E => vs.length = 3 ∧ t_Rule_call K E { nx := fun _ H' => Q .non H', rt := Q } (start N_Rule_call vs) H
theorem sc_Rule_call : FnScope N_Rule_call ["self", "row", "at"] (defScope s_Rule_call) := ⟨rfl, rfl, rfl, by decide +kernel, rfl, by decide +kernel, by decide +kernel⟩
theorem ok_Rule_call (T : Txt PROG K mg) : ∃ fd, FnOk PROG w K mg base (L2N.CX PROG w) 5 (Rz.pM "Rule" "__call__" K) fd ["self", "row", "at"] (sp_Rule_call K) ∧ FunD K "__call__" "Rule.__call__" (defArgs s_Rule_call) (defBody s_Rule_call) (defScope s_Rule_call) [.int 0] [] (Rz.pM "Rule" "__call__" K) fd := by
  obtain ⟨fd_Rule_fits, G_Rule_fits, D_Rule_fits⟩ := ok_Rule_fits (w := w) (base := base) T
  obtain ⟨fd_Rule_written_height, G_Rule_written_height, D_Rule_written_height⟩ := ok_Rule_written_height (w := w) (base := base) T
  obtain ⟨fd_Row_init, G_Row_init, D_Row_init⟩ := ok_Row_init (w := w) (base := base) T
  obtain ⟨fd_Row_getitem, G_Row_getitem, D_Row_getitem⟩ := ok_Row_getitem (w := w) (base := base) T
  obtain ⟨fd_Row_add, G_Row_add, D_Row_add⟩ := ok_Row_add (w := w) (base := base) T
  obtain ⟨fd_Row_len, G_Row_len, D_Row_len⟩ := ok_Row_len (w := w) (base := base) T
  have b_Rule_fits_3 : Binds K fd_Rule_fits _ [] := D_Rule_fits.bindsN (ps := ["self", "row", "at"]) (fun _ _ _ _ _ _ us hl => match us, hl with | [_, _, _], _ => rfl)
  have b_Rule_written_height_3 : Binds K fd_Rule_written_height _ [] := D_Rule_written_height.bindsN (ps := ["self", "row", "at"]) (fun _ _ _ _ _ _ us hl => match us, hl with | [_, _, _], _ => rfl)
  obtain ⟨ds_Row_init_3, V_Row_init_3, b_Row_init_3⟩ := D_Row_init.binds1 (ps := ["self", "text", "heights"]) 3 2 (by simp) rfl (fun _ _ _ _ _ _ _ us its h1 h2 => match us, its, h1, h2 with | [_, _, _], [_, _], _, _ => ⟨_, rfl, rfl⟩)
  have b_Row_getitem_2 : Binds K fd_Row_getitem _ [] := D_Row_getitem.bindsN (ps := ["self", "at"]) (fun _ _ _ _ _ _ us hl => match us, hl with | [_, _], _ => rfl)
  have b_Row_add_2 : Binds K fd_Row_add _ [] := D_Row_add.bindsN (ps := ["self", "other"]) (fun _ _ _ _ _ _ us hl => match us, hl with | [_, _], _ => rfl)
  have b_Row_len_1 : Binds K fd_Row_len _ [] := D_Row_len.bindsN (ps := ["self"]) (fun _ _ _ _ _ _ us hl => match us, hl with | [_], _ => rfl)
  obtain ⟨fd, F⟩ := T.F_Rule_call
  refine ⟨fd, F.ok sc_Rule_call (fun vs H Q E h => h.1) (fun cdv A outer s H vs Q E hr h => ⟨t_Rule_call K E, ?_, h.2⟩), F⟩
  exact (pss_cons (ps_if (pt_not (pt_val (pe_methZ (pv 0) T.c_Rule T.m_Rule_fits G_Rule_fits (hr.mono (by decide)) b_Rule_fits_3 .nil (fun σ => L2N.passAt (L2N.takes_of rfl rfl rfl rfl) σ) (pa_cons (pv 1) (pa_cons (pv 2) pa_nil))))) (pss_one (ps_raiseN rfl (L2N.takes_of rfl rfl rfl rfl) (pmkF_sup1 T.x_Mismatch T.f_super hr.d5 rfl T.g_Mismatch (pa_cons (pv 2) pa_nil)))) pss_nil) (pss_cons (ps_set (i := 3) sc_Rule_call.nd rfl (by first | exact Or.inl rfl | exact Or.inr rfl) (pe_methZ (pv 0) T.c_Rule T.m_Rule_written_height G_Rule_written_height (hr.mono (by decide)) b_Rule_written_height_3 .nil (fun σ => L2N.passAt (L2N.takes_of rfl rfl rfl rfl) σ) (pa_cons (pv 1) (pa_cons (pv 2) pa_nil)))) (pss_cons (ps_if (PW.pt (pw_and (pt_cmpR (op_neA hr) (pe_fld (pv 0) rfl) pe_str (nomark _)) (pw_and1 (pt_cmpR op_gtA (pv 3) (pe_gint rfl T.k_TOP) (nomark _))))) (pss_one (ps_raiseN rfl (L2N.takes_of rfl rfl rfl rfl) (pmkF_sup1 T.x_Beyond T.f_super hr.d5 rfl T.g_Beyond (pa_cons (pv 3) pa_nil)))) pss_nil) (pss_cons (ps_set (i := 4) sc_Rule_call.nd rfl (by first | exact Or.inl rfl | exact Or.inr rfl) (pe_makeS T.mk_Row G_Row_init (hr.mono (by decide)) rfl T.g_Row b_Row_init_3 V_Row_init_3 (fun σ => L2N.passAt (L2N.takes_of rfl rfl rfl rfl) σ) (pa_cons (pe_fld (pv 0) rfl) (pa_cons (pe_op op_mulA (pe_lst (pa_cons (pv 3) pa_nil)) (pe_callB c_len rfl T.f_len (by decide +kernel) (pa_cons (pe_fld (pv 0) rfl) pa_nil))) pa_nil)))) (pss_one (ps_ret (pe_addO (op := .Add) T.m_Row___add__ T.op_Row G_Row_add (hr.mono (by decide)) b_Row_add_2 (fun σ => L2N.passAt (L2N.takes_of rfl rfl rfl rfl) σ) (pe_addO (op := .Add) T.m_Row___add__ T.op_Row G_Row_add (hr.mono (by decide)) b_Row_add_2 (fun σ => L2N.passAt (L2N.takes_of rfl rfl rfl rfl) σ) (pe_getOS T.m_Row___getitem__ (fnIn_D D_Row_getitem) T.op_Row G_Row_getitem (hr.mono (by decide)) b_Row_getitem_2 (fun σ => L2N.passAt (L2N.takes_of rfl rfl rfl rfl) σ) (pv 1) (pe_sli pe_int (pv 2))) (pv 4)) (pe_getOS T.m_Row___getitem__ (fnIn_D D_Row_getitem) T.op_Row G_Row_getitem (hr.mono (by decide)) b_Row_getitem_2 (fun σ => L2N.passAt (L2N.takes_of rfl rfl rfl rfl) σ) (pv 1) (pe_sli (pe_op op_addA (pv 2) (pe_callB c_len rfl T.f_len (by decide +kernel) (pa_cons (pe_fld (pv 0) rfl) pa_nil))) (pe_lenO T.m_Row___len__ G_Row_len (hr.mono (by decide)) b_Row_len_1 (fun σ => L2N.passAt (L2N.takes_of rfl rfl rfl rfl) σ) rfl T.f_len (pa_cons (pv 1) pa_nil)))))))))))
/-! Book.take -/
abbrev N_Book_take : List Str := ["self", "row", "number", "at", "most", "rule", "height"]
def t_Book_take (K : Frg) (E : XK) : TS :=
  (tSeq (tDrop (tCallSD (sp_check_bound K) [] (WE (W0 E)) (tCons (tVar 4) (tCons (tC (.int 9)) tNil)))) (tSeq (tIfS (tNot (tTest (tChain rLeA rLtA (tC (.int 0)) (tVar 2) (tCB (rLenA K) (tCons (tFld K (tVar 0) "rules") tNil))))) (tRaise (tMkX (He.ga K "NoRule") "number" (tCons (tVar 2) tNil)) (W0 E)) tNext) (tSeq (tAsg (tOp (rIx K) (tFld K (tVar 0) "rules") (tVar 2)) (gName 5)) (tSeq (tIfS (tNot (tB (tMethZ (He.ga K "Rule") "fits" (sp_Rule_fits K) [] (WE (W0 E)) (tVar 5) (tCons (tVar 1) (tCons (tVar 3) tNil))))) (tRaise (tMkX (He.ga K "Mismatch") "at" (tCons (tVar 3) tNil)) (W0 E)) tNext) (tSeq (tAsg (tMethZ (He.ga K "Rule") "written_height" (sp_Rule_written_height K) [] (WE (W0 E)) (tVar 5) (tCons (tVar 1) (tCons (tVar 3) tNil))) (gName 6)) (tSeq (tIfS (tAnd (tTest (tOp (rNeA K) (tFld K (tVar 5) "right") (tC (.str "")))) (tTest (tOp rGtA (tVar 6) (tVar 4)))) (tRaise (tMkX (He.ga K "Beyond") "height" (tCons (tVar 6) tNil)) (W0 E)) tNext) (tRet (tCaO (He.ga K "Rule") (sp_Rule_call K) (List.drop 1 [.int 0]) (WE (W0 E)) (tVar 5) (tCons (tVar 1) (tCons (tVar 3) tNil))))))))))
def sp_Book_take (K : Frg) : Sp := fun vs H Q E => vs.length = 5 ∧ t_Book_take K E { nx := fun _ H' => Q .non H', rt := Q } (start N_Book_take vs) H
theorem sc_Book_take : FnScope N_Book_take ["self", "row", "number", "at", "most"] (defScope s_Book_take) := ⟨rfl, rfl, rfl, by decide +kernel, rfl, by decide +kernel, by decide +kernel⟩
theorem ok_Book_take (T : Txt PROG K mg) : ∃ fd, FnOk PROG w K mg base (L2N.CX PROG w) 6 (Rz.pM "Book" "take" K) fd ["self", "row", "number", "at", "most"] (sp_Book_take K) ∧ FunD K "take" "Book.take" (defArgs s_Book_take) (defBody s_Book_take) (defScope s_Book_take) [] [("most", .int 9)] (Rz.pM "Book" "take" K) fd := by
  obtain ⟨fd_check_bound, G_check_bound, D_check_bound⟩ := ok_check_bound (w := w) (base := base) T
  obtain ⟨fd_Rule_fits, G_Rule_fits, D_Rule_fits⟩ := ok_Rule_fits (w := w) (base := base) T
  obtain ⟨fd_Rule_written_height, G_Rule_written_height, D_Rule_written_height⟩ := ok_Rule_written_height (w := w) (base := base) T
  obtain ⟨fd_Rule_call, G_Rule_call, D_Rule_call⟩ := ok_Rule_call (w := w) (base := base) T
  have b_check_bound_2 : Binds K fd_check_bound _ [] := D_check_bound.bindsN (ps := ["most", "greatest"]) (fun _ _ _ _ _ _ us hl => match us, hl with | [_, _], _ => rfl)
  have b_Rule_fits_3 : Binds K fd_Rule_fits _ [] := D_Rule_fits.bindsN (ps := ["self", "row", "at"]) (fun _ _ _ _ _ _ us hl => match us, hl with | [_, _, _], _ => rfl)
  have b_Rule_written_height_3 : Binds K fd_Rule_written_height _ [] := D_Rule_written_height.bindsN (ps := ["self", "row", "at"]) (fun _ _ _ _ _ _ us hl => match us, hl with | [_, _, _], _ => rfl)
  obtain ⟨ds_Rule_call_3, V_Rule_call_3, b_Rule_call_3⟩ := D_Rule_call.binds1 (ps := ["self", "row", "at"]) 3 1 (by simp) rfl (fun _ _ _ _ _ _ _ us its h1 h2 => match us, its, h1, h2 with | [_, _, _], [_], _, _ => ⟨_, rfl, rfl⟩)
  obtain ⟨fd, F⟩ := T.F_Book_take
  refine ⟨fd, F.ok sc_Book_take (fun vs H Q E h => h.1) (fun cdv A outer s H vs Q E hr h => ⟨t_Book_take K E, ?_, h.2⟩), F⟩
  exact (pss_cons (ps_expr (pe_callSD G_check_bound (hr.mono (by decide)) rfl T.g_check_bound D_check_bound.kp b_check_bound_2 .nil (fun σ => L2N.passAt (L2N.takes_of rfl rfl rfl rfl) σ) (pa_cons (pv 4) (pa_cons (pe_gint rfl T.k_TOP) pa_nil)))) (pss_cons (ps_if (pt_not (pt_chain op_leA op_ltA pe_int (pv 2) (pe_callB c_len rfl T.f_len (by decide +kernel) (pa_cons (pe_fld (pv 0) rfl) pa_nil)))) (pss_one (ps_raiseN rfl (L2N.takes_of rfl rfl rfl rfl) (pmkF_sup1 T.x_NoRule T.f_super hr.d5 rfl T.g_NoRule (pa_cons (pv 2) pa_nil)))) pss_nil) (pss_cons (ps_set (i := 5) sc_Book_take.nd rfl (by first | exact Or.inl rfl | exact Or.inr rfl) (pe_ix ix_seq (pe_fld (pv 0) rfl) (pv 2) (fun _ _ => rfl))) (pss_cons (ps_if (pt_not (pt_val (pe_methZ (pv 5) T.c_Rule T.m_Rule_fits G_Rule_fits (hr.mono (by decide)) b_Rule_fits_3 .nil (fun σ => L2N.passAt (L2N.takes_of rfl rfl rfl rfl) σ) (pa_cons (pv 1) (pa_cons (pv 3) pa_nil))))) (pss_one (ps_raiseN rfl (L2N.takes_of rfl rfl rfl rfl) (pmkF_sup1 T.x_Mismatch T.f_super hr.d5 rfl T.g_Mismatch (pa_cons (pv 3) pa_nil)))) pss_nil) (pss_cons (ps_set (i := 6) sc_Book_take.nd rfl (by first | exact Or.inl rfl | exact Or.inr rfl) (pe_methZ (pv 5) T.c_Rule T.m_Rule_written_height G_Rule_written_height (hr.mono (by decide)) b_Rule_written_height_3 .nil (fun σ => L2N.passAt (L2N.takes_of rfl rfl rfl rfl) σ) (pa_cons (pv 1) (pa_cons (pv 3) pa_nil)))) (pss_cons (ps_if (PW.pt (pw_and (pt_cmpR (op_neA hr) (pe_fld (pv 5) rfl) pe_str (nomark _)) (pw_and1 (pt_cmpR op_gtA (pv 6) (pv 4) (nomark _))))) (pss_one (ps_raiseN rfl (L2N.takes_of rfl rfl rfl rfl) (pmkF_sup1 T.x_Beyond T.f_super hr.d5 rfl T.g_Beyond (pa_cons (pv 6) pa_nil)))) pss_nil) (pss_one (ps_ret (pe_caO (pv 5) ⟨T.m_Rule___call__, fnIn_D D_Rule_call⟩ G_Rule_call (hr.mono (by decide)) b_Rule_call_3 V_Rule_call_3 (fun σ => L2N.passAt (L2N.takes_of rfl rfl rfl rfl) σ) (pa_cons (pv 1) (pa_cons (pv 3) pa_nil)))))))))))
/-! Play.__init__ -/
abbrev N_Play_init : List Str := ["self", "book", "text", "steps", "rules", "row", "index", "step", "why"]
def t_Play_init (K : Frg) (E : XK) : TS :=
  (tSeq (tAsg (tListO (He.ga K "Book") (sp_Book_iter K) (sp_Book_len K) (WE (W0 E)) (tCons (tVar 1) tNil)) (gName 4)) (tSeq (sFld K (tVar 0) (tMakeSt K (He.ga K "Book") (spStar 1 (sp_Book_init K)) (WE (W0 E)) (tC (.ref (He.ga K "Book"))) (tVar 4)) "book") (tSeq (sFld K (tVar 0) (tVar 2) "text") (tSeq (sFld K (tVar 0) (tCB (rListA K) (tCons (tVar 3) tNil)) "taken") (tSeq (tAsg (tMakeS (He.ga K "Row") (sp_Row_init K) (List.drop 1 [.str "", .non]) (WE (W0 E)) (tCons (tVar 2) tNil)) (gName 5)) (tFor (iEnum K (tCons (tFld K (tVar 0) "taken") tNil)) (gTup K 2 (gCons (gName 6) (gCons (gName 7) gNil))) (tTryF K (.ref (He.ga K "RiseError")) 8 (tMkX (He.ga K "BadPlay") "step" (tCons (tVar 6) tNil)) (W0 E) (fun W => (tAsg (tMethZ (He.ga K "Book") "take" (sp_Book_take K) [.int 9] (WE W) (tFld K (tVar 0) "book") (tCons (tVar 5) (tCons (tOp (rIx K) (tVar 7) (tC (.int 0))) (tCons (tOp (rIx K) (tVar 7) (tC (.int 1))) tNil)))) (gName 5))))))))))
def sp_Play_init (K : Frg) : Sp := fun vs H Q E => vs.length = 4 ∧ t_Play_init K E { nx := fun _ H' => Q .non H', rt := Q } (start N_Play_init vs) H
theorem sc_Play_init : FnScope N_Play_init ["self", "book", "text", "steps"] (defScope s_Play_init) := ⟨rfl, rfl, rfl, by decide +kernel, rfl, by decide +kernel, by decide +kernel⟩
theorem ok_Play_init (T : Txt PROG K mg) : ∃ fd, FnOk PROG w K mg base (L2.CX PROG w) 7 (Rz.pM "Play" "__init__" K) fd ["self", "book", "text", "steps"] (sp_Play_init K) ∧ FunD K "__init__" "Play.__init__" (defArgs s_Play_init) (defBody s_Play_init) (defScope s_Play_init) [] [] (Rz.pM "Play" "__init__" K) fd := by
  obtain ⟨fd_Book_iter, G_Book_iter, D_Book_iter⟩ := ok_Book_iter (w := w) (base := base) T
  obtain ⟨fd_Book_len, G_Book_len, D_Book_len⟩ := ok_Book_len (w := w) (base := base) T
  obtain ⟨fd_Book_init, G_Book_init, D_Book_init⟩ := ok_Book_init (w := w) (base := base) T
  obtain ⟨fd_Row_init, G_Row_init, D_Row_init⟩ := ok_Row_init (w := w) (base := base) T
  obtain ⟨fd_Book_take, G_Book_take, D_Book_take⟩ := ok_Book_take (w := w) (base := base) T
  have b_Book_iter_1 : Binds K fd_Book_iter _ [] := D_Book_iter.bindsN (ps := ["self"]) (fun _ _ _ _ _ _ us hl => match us, hl with | [_], _ => rfl)
  have b_Book_len_1 : Binds K fd_Book_len _ [] := D_Book_len.bindsN (ps := ["self"]) (fun _ _ _ _ _ _ us hl => match us, hl with | [_], _ => rfl)
  obtain ⟨ds_Row_init_2, V_Row_init_2, b_Row_init_2⟩ := D_Row_init.binds1 (ps := ["self", "text", "heights"]) 2 1 (by simp) rfl (fun _ _ _ _ _ _ _ us its h1 h2 => match us, its, h1, h2 with | [_, _], [_, _], _, _ => ⟨_, rfl, rfl⟩)
  obtain ⟨ds_Book_take_4, V_Book_take_4, b_Book_take_4⟩ := D_Book_take.binds0 (ps := ["self", "row", "number", "at", "most"]) 4 (by simp) rfl (fun _ _ _ _ _ _ us ks h1 h2 => match us, ks, h1, h2 with | [_, _, _, _], [_], _, _ => ⟨_, _, _, _, _, _, rfl, rfl, rfl⟩)
  obtain ⟨fd, F⟩ := T.F_Play_init
  refine ⟨fd, F.ok sc_Play_init (fun vs H Q E h => h.1) (fun cdv A outer s H vs Q E hr h => ⟨t_Play_init K E, ?_, h.2⟩), F⟩
  exact (pss_cons (ps_set (i := 4) sc_Play_init.nd rfl (by first | exact Or.inl rfl | exact Or.inr rfl) (pe_listO T.m_Book___iter__ T.m_Book___len__ G_Book_iter G_Book_len (hr.mono (by decide)) (hr.mono (by decide)) b_Book_iter_1 b_Book_len_1 (fun σ => passN (takes_of rfl rfl rfl rfl) σ) shut_CXN rfl rfl T.f_list (pa_cons (pv 1) pa_nil))) (pss_cons (ps_fld (pv 0) (pe_makeSt (pe_glob rfl T.g_Book rfl) T.mk_Book G_Book_init (hr.mono (by decide)) (fun σ => passAt (takes_of rfl rfl rfl rfl) σ) (pv 4)) rfl) (pss_cons (ps_fld (pv 0) (pv 2) rfl) (pss_cons (ps_fld (pv 0) (pe_callTy c_list rfl T.f_list (by decide +kernel) (pa_cons (pv 3) pa_nil)) rfl) (pss_cons (ps_set (i := 5) sc_Play_init.nd rfl (by first | exact Or.inl rfl | exact Or.inr rfl) (pe_makeS T.mk_Row G_Row_init (hr.mono (by decide)) rfl T.g_Row b_Row_init_2 V_Row_init_2 (fun σ => passN (takes_of rfl rfl rfl rfl) σ) (pa_cons (pv 2) pa_nil))) (pss_one (ps_for (passes_of rfl) rfl (pi_enum rfl T.f_enumerate (pa_cons (pe_fld (pv 0) rfl) pa_nil)) (pg_tup rfl (pgs_cons (pg_name (i := 6) sc_Play_init.nd rfl (by first | exact Or.inl rfl | exact Or.inr rfl)) (pgs_cons (pg_name (i := 7) sc_Play_init.nd rfl (by first | exact Or.inl rfl | exact Or.inr rfl)) pgs_nil))) (pss_one (ps_try_from (i := 8) rfl rfl sc_Play_init.nd (takes_of rfl rfl rfl rfl) rfl rfl ⟨rfl, by decide, Or.inl T.g_RiseError⟩ (by decide) (fun W pn xe tk po => by exact (pss_one (ps_set (i := 5) sc_Play_init.nd rfl (by first | exact Or.inl rfl | exact Or.inr rfl) (pe_methZ (pe_fld (pv 0) rfl) T.c_Book T.m_Book_take G_Book_take (hr.mono (by decide)) b_Book_take_4 V_Book_take_4 (fun σ => L2N.passAt tk σ) (pa_cons (pv 5) (pa_cons (pe_ix ix_seq (pv 7) pe_int (fun _ _ => rfl)) (pa_cons (pe_ix ix_seq (pv 7) pe_int (fun _ _ => rfl)) pa_nil))))))) (fun a pn => by exact (pmkF_sup1 T.x_BadPlay T.f_super hr.d5 rfl T.g_BadPlay (pa_cons (pv 6) pa_nil))))))))))))
/-! _law_try_make -/
abbrev N_law_try_make : List Str := ["_law_book", "_law_text", "_law_steps", "e", "f"]
def t_law_try_make (K : Frg) (E : XK) : TS :=
  (tTry K (W0 E) (fun W => (tRet (tTup (tCons (tC (.str "play")) (tCons (tMakeS (He.ga K "Play") (sp_Play_init K) [] (WE W) (tCons (tVar 0) (tCons (tVar 1) (tCons (tVar 2) tNil)))) tNil))))) [⟨.ref (He.ga K "BadSign"), some 3, fun a cls d => (tRet (tTup (tCons (tC (.str "sign")) (tCons (tXf a cls d (He.ga K "BadSign") "at" (tVar 3)) tNil))))⟩, ⟨.ref (He.ga K "BadPlay"), some 4, fun a cls d => (tRet (tTup (tCons (tC (.str "step")) (tCons (tXf a cls d (He.ga K "BadPlay") "step" (tVar 4)) tNil))))⟩])
def sp_law_try_make (K : Frg) : Sp := fun vs H Q E => vs.length = 3 ∧ t_law_try_make K E { nx := fun _ H' => Q .non H', rt := Q } (start N_law_try_make vs) H
theorem sc_law_try_make : FnScope N_law_try_make ["_law_book", "_law_text", "_law_steps"] (defScope s_law_try_make) := ⟨rfl, rfl, rfl, by decide +kernel, rfl, by decide +kernel, by decide +kernel⟩
theorem ok_law_try_make (T : Txt PROG K mg) : ∃ fd, FnOk PROG w K mg base (L2.CX PROG w) 9 (Rz.pG "_law_try_make" K) fd ["_law_book", "_law_text", "_law_steps"] (sp_law_try_make K) ∧ FunD K "_law_try_make" "_law_try_make" (defArgs s_law_try_make) (defBody s_law_try_make) (defScope s_law_try_make) [] [] (Rz.pG "_law_try_make" K) fd := by
  obtain ⟨fd_Play_init, G_Play_init, D_Play_init⟩ := ok_Play_init (w := w) (base := base) T
  have b_Play_init_4 : Binds K fd_Play_init _ [] := D_Play_init.bindsN (ps := ["self", "book", "text", "steps"]) (fun _ _ _ _ _ _ us hl => match us, hl with | [_, _, _, _], _ => rfl)
  obtain ⟨fd, F⟩ := T.F_law_try_make
  refine ⟨fd, F.ok sc_law_try_make (fun vs H Q E h => h.1) (fun cdv A outer s H vs Q E hr h => ⟨t_law_try_make K E, ?_, h.2⟩), F⟩
  exact (pss_one (ps_tryM rfl rfl sc_law_try_make.nd (takes_of rfl rfl rfl rfl) (fun W pn xe tk po => by exact (pss_one (ps_ret (pe_tup (pa_cons pe_str (pa_cons (pe_makeS T.mk_Play G_Play_init (hr.mono (by decide)) rfl T.g_Play b_Play_init_4 .nil (fun σ => passAt tk σ) (pa_cons (pv 0) (pa_cons (pv 1) (pa_cons (pv 2) pa_nil)))) pa_nil)))))) (HdsMix.consA (i := 3) rfl rfl ⟨rfl, by decide, Or.inl T.g_BadSign⟩ (fun a oe cls d pn hz hf => by exact (pss_one (ps_ret (pe_tup (pa_cons pe_str (pa_cons (pe_xf (T.xb_BadSign).2 T.n_BadSign_at hz hf (pv 3)) pa_nil)))))) (HdsMix.consA (i := 4) rfl rfl ⟨rfl, by decide, Or.inl T.g_BadPlay⟩ (fun a oe cls d pn hz hf => by exact (pss_one (ps_ret (pe_tup (pa_cons pe_str (pa_cons (pe_xf (T.xb_BadPlay).2 T.n_BadPlay_step hz hf (pv 4)) pa_nil)))))) HdsMix.nil))))
/-! Rule.__str__ -/
abbrev N_Rule_str : List Str := ["self"]
def t_Rule_str (K : Frg) (E : XK) : TS :=
  (tRet (tJoined [(tFmt (tFld K (tVar 0) "left")), (tC (.str ":")), (tFmt (tFld K (tVar 0) "right"))]))
def sp_Rule_str (K : Frg) : Sp := fun vs H Q E => vs.length = 1 ∧ t_Rule_str K E { nx := fun _ H' => Q .non H', rt := Q } (start N_Rule_str vs) H
theorem sc_Rule_str : FnScope N_Rule_str ["self"] (defScope s_Rule_str) := ⟨rfl, rfl, rfl, by decide +kernel, rfl, by decide +kernel, by decide +kernel⟩
theorem ok_Rule_str (T : Txt PROG K mg) : ∃ fd, FnOk PROG w K mg base (L2.CX PROG w) 1 (Rz.pM "Rule" "__str__" K) fd ["self"] (sp_Rule_str K) ∧ FunD K "__str__" "Rule.__str__" (defArgs s_Rule_str) (defBody s_Rule_str) (defScope s_Rule_str) [] [] (Rz.pM "Rule" "__str__" K) fd := by
  obtain ⟨fd, F⟩ := T.F_Rule_str
  refine ⟨fd, F.ok sc_Rule_str (fun vs H Q E h => h.1) (fun cdv A outer s H vs Q E hr h => ⟨t_Rule_str K E, ?_, h.2⟩), F⟩
  exact (pss_one (ps_ret (pe_joined (PJ.cons (pe_fmt (pe_fld (pv 0) rfl)) (PJ.cons pe_str (PJ.cons (pe_fmt (pe_fld (pv 0) rfl)) PJ.nil))))))
/-! Book.written -/
abbrev N_Book_written : List Str := ["self", "rule"]
def t_Book_written (K : Frg) (E : XK) : TS :=
  (tRet (tM1 (rJoinA K) (tC (.str "\n")) (tLc (iList K (tFld K (tVar 0) "rules")) (gName 1) tYes (tStrO (He.ga K "Rule") (sp_Rule_str K) (WE WN) (tCons (tVar 1) tNil)) [1])))
def sp_Book_written (K : Frg) : Sp := fun vs H Q E => vs.length = 1 ∧ t_Book_written K E { nx := fun _ H' => Q .non H', rt := Q } (start N_Book_written vs) H
theorem sc_Book_written : FnScope N_Book_written ["self"] (defScope s_Book_written) := ⟨rfl, rfl, rfl, by decide +kernel, rfl, by decide +kernel, by decide +kernel⟩
theorem ok_Book_written (T : Txt PROG K mg) : ∃ fd, FnOk PROG w K mg base (L2.CX PROG w) 4 (Rz.pM "Book" "written" K) fd ["self"] (sp_Book_written K) ∧ FunD K "written" "Book.written" (defArgs s_Book_written) (defBody s_Book_written) (defScope s_Book_written) [] [] (Rz.pM "Book" "written" K) fd := by
  obtain ⟨fd_Rule_str, G_Rule_str, D_Rule_str⟩ := ok_Rule_str (w := w) (base := base) T
  have b_Rule_str_1 : Binds K fd_Rule_str _ [] := D_Rule_str.bindsN (ps := ["self"]) (fun _ _ _ _ _ _ us hl => match us, hl with | [_], _ => rfl)
  obtain ⟨fd, F⟩ := T.F_Book_written
  refine ⟨fd, F.ok sc_Book_written (fun vs H Q E h => h.1) (fun cdv A outer s H vs Q E hr h => ⟨t_Book_written K E, ?_, h.2⟩), F⟩
  exact (pss_one (ps_ret (pe_joinA pe_str (pe_lc (own := [("rule", 1)]) rfl sc_Book_written.nd (pi_list (pe_fld (pv 0) rfl)) (blkOk_by (own := [("rule", 1)]) (N := N_Book_written) (sc := defScope s_Book_written) (by decide +kernel)) (fun _ _ _ _ _ => (pg_name (i := 1) sc_Book_written.nd rfl (by first | exact Or.inl rfl | exact Or.inr rfl))) (fun _ _ _ _ _ => pts_nil) (fun _ _ _ _ _ => (pe_strO T.m_Rule___str__ G_Rule_str (hr.mono (by decide)) b_Rule_str_1 (fun σ => passAt takes0 σ) rfl T.f_str (pa_cons (pv 1) pa_nil)))))))
/-! _law_is_int -/
abbrev N_law_is_int : List Str := ["_law_value"]
def t_law_is_int (K : Frg) (E : XK) : TS :=
  (tRet (tAndV (tCB (rIsiA K) (tCons (tVar 0) (tCons (tC (.ty "int")) tNil))) (tNotV (tCB (rIsiA K) (tCons (tVar 0) (tCons (tC (.ty "bool")) tNil))))))
def sp_law_is_int (K : Frg) : Sp := fun vs H Q E => vs.length = 1 ∧ t_law_is_int K E { nx := fun _ H' => Q .non H', rt := Q } (start N_law_is_int vs) H
theorem sc_law_is_int : FnScope N_law_is_int ["_law_value"] (defScope s_law_is_int) := ⟨rfl, rfl, rfl, by decide +kernel, rfl, by decide +kernel, by decide +kernel⟩
theorem ok_law_is_int (T : Txt PROG K mg) : ∃ fd, FnOk PROG w K mg base (L2.CX PROG w) 1 (Rz.pG "_law_is_int" K) fd ["_law_value"] (sp_law_is_int K) ∧ FunD K "_law_is_int" "_law_is_int" (defArgs s_law_is_int) (defBody s_law_is_int) (defScope s_law_is_int) [] [] (Rz.pG "_law_is_int" K) fd := by
  obtain ⟨fd, F⟩ := T.F_law_is_int
  refine ⟨fd, F.ok sc_law_is_int (fun vs H Q E h => h.1) (fun cdv A outer s H vs Q E hr h => ⟨t_law_is_int K E, ?_, h.2⟩), F⟩
  exact (pss_one (ps_ret (pe_and (pe_callB c_isi rfl T.f_isinstance (by decide +kernel) (pa_cons (pv 0) (pa_cons (pe_bltn rfl T.f_int (by decide +kernel) rfl) pa_nil))) (pe_one (pe_not (pe_callB c_isi rfl T.f_isinstance (by decide +kernel) (pa_cons (pv 0) (pa_cons (pe_bltn rfl T.f_bool (by decide +kernel) rfl) pa_nil))))))))
/-! Book.drop -/
abbrev N_Book_drop : List Str := ["self", "number"]
def t_Book_drop (K : Frg) (E : XK) : TS :=
  (tSeq (tIfS (tNot (tTest (tChain rLeA rLtA (tC (.int 0)) (tVar 1) (tCB (rLenA K) (tCons (tFld K (tVar 0) "rules") tNil))))) (tRaise (tMkX (He.ga K "NoRule") "number" (tCons (tVar 1) tNil)) (W0 E)) tNext) (tRet (tBM K "list" rPopAt (tFld K (tVar 0) "rules") (tCons (tVar 1) tNil))))
def sp_Book_drop (K : Frg) : Sp := fun vs H Q E => vs.length = 2 ∧ t_Book_drop K E { nx := fun _ H' => Q .non H', rt := Q } (start N_Book_drop vs) H
theorem sc_Book_drop : FnScope N_Book_drop ["self", "number"] (defScope s_Book_drop) := ⟨rfl, rfl, rfl, by decide +kernel, rfl, by decide +kernel, by decide +kernel⟩
theorem ok_Book_drop (T : Txt PROG K mg) : ∃ fd, FnOk PROG w K mg base (L2.CX PROG w) 1 (Rz.pM "Book" "drop" K) fd ["self", "number"] (sp_Book_drop K) ∧ FunD K "drop" "Book.drop" (defArgs s_Book_drop) (defBody s_Book_drop) (defScope s_Book_drop) [] [] (Rz.pM "Book" "drop" K) fd := by
  obtain ⟨fd, F⟩ := T.F_Book_drop
  refine ⟨fd, F.ok sc_Book_drop (fun vs H Q E h => h.1) (fun cdv A outer s H vs Q E hr h => ⟨t_Book_drop K E, ?_, h.2⟩), F⟩
  exact (pss_cons (ps_if (pt_not (pt_chain op_leA op_ltA pe_int (pv 1) (pe_callB c_len rfl T.f_len (by decide +kernel) (pa_cons (pe_fld (pv 0) rfl) pa_nil)))) (pss_one (ps_raise rfl (takes_of rfl rfl rfl rfl) (pmk_sup1 T.x_NoRule T.f_super hr rfl T.g_NoRule (pa_cons (pv 1) pa_nil)))) pss_nil) (pss_one (ps_ret (pe_bm PySem.F.plainAttrs_list PySem.F.slot_list_pop PySem.F.type_list_pop mt_popAt (pe_fld (pv 0) rfl) (pa_cons (pv 1) pa_nil)))))
/-! Play.__len__ -/
abbrev N_Play_len : List Str := ["self"]
def t_Play_len (K : Frg) (E : XK) : TS :=
  (tRet (tCB (rLenA K) (tCons (tFld K (tVar 0) "taken") tNil)))
def sp_Play_len (K : Frg) : Sp := fun vs H Q E => vs.length = 1 ∧ t_Play_len K E { nx := fun _ H' => Q .non H', rt := Q } (start N_Play_len vs) H
theorem sc_Play_len : FnScope N_Play_len ["self"] (defScope s_Play_len) := ⟨rfl, rfl, rfl, by decide +kernel, rfl, by decide +kernel, by decide +kernel⟩
theorem ok_Play_len (T : Txt PROG K mg) : ∃ fd, FnOk PROG w K mg base (L2N.CX PROG w) 1 (Rz.pM "Play" "__len__" K) fd ["self"] (sp_Play_len K) ∧ FunD K "__len__" "Play.__len__" (defArgs s_Play_len) (defBody s_Play_len) (defScope s_Play_len) [] [] (Rz.pM "Play" "__len__" K) fd := by
  obtain ⟨fd, F⟩ := T.F_Play_len
  refine ⟨fd, F.ok sc_Play_len (fun vs H Q E h => h.1) (fun cdv A outer s H vs Q E hr h => ⟨t_Play_len K E, ?_, h.2⟩), F⟩
  exact (pss_one (ps_ret (pe_callB c_len rfl T.f_len (by decide +kernel) (pa_cons (pe_fld (pv 0) rfl) pa_nil))))
/-! Play.__iter__ -/
abbrev N_Play_iter : List Str := ["self"]
def t_Play_iter (K : Frg) (E : XK) : TS :=
  (tRet (tCB (rIterA K) (tCons (tFld K (tVar 0) "taken") tNil)))
def sp_Play_iter (K : Frg) : Sp := fun vs H Q E => vs.length = 1 ∧ t_Play_iter K E { nx := fun _ H' => Q .non H', rt := Q } (start N_Play_iter vs) H
theorem sc_Play_iter : FnScope N_Play_iter ["self"] (defScope s_Play_iter) := ⟨rfl, rfl, rfl, by decide +kernel, rfl, by decide +kernel, by decide +kernel⟩
theorem ok_Play_iter (T : Txt PROG K mg) : ∃ fd, FnOk PROG w K mg base (L2N.CX PROG w) 1 (Rz.pM "Play" "__iter__" K) fd ["self"] (sp_Play_iter K) ∧ FunD K "__iter__" "Play.__iter__" (defArgs s_Play_iter) (defBody s_Play_iter) (defScope s_Play_iter) [] [] (Rz.pM "Play" "__iter__" K) fd := by
  obtain ⟨fd, F⟩ := T.F_Play_iter
  refine ⟨fd, F.ok sc_Play_iter (fun vs H Q E h => h.1) (fun cdv A outer s H vs Q E hr h => ⟨t_Play_iter K E, ?_, h.2⟩), F⟩
  exact (pss_one (ps_ret (pe_callB c_iter rfl T.f_iter (by decide +kernel) (pa_cons (pe_fld (pv 0) rfl) pa_nil))))
abbrev N_Play_rows : List Str := ["self", "row", "number", "at"]
theorem sc_Play_rows : GScope N_Play_rows ["self"] (defScope s_Play_rows) := ⟨rfl, rfl, rfl, by decide +kernel, rfl, by decide +kernel, by decide +kernel⟩
/-! Play.rows, walked in turns -/
def tw_Play_rows (K : Frg) : TGw :=
  (tWThen (tPlainW (tAsg (tMakeS (He.ga K "Row") (sp_Row_init K) (List.drop 1 [.str "", .non]) (WE (W0 E0)) (tCons (tFld K (tVar 0) "text") tNil)) (gName 1))) (tWThen (tWYield (tMakeS (He.ga K "Row") (sp_Row_init K) (List.drop 1 [.str "", .non]) (WE (W0 E0)) (tCons (tFld K (tVar 0) "text") tNil))) (tWThen (tWFor (iList K (tFld K (tVar 0) "taken")) (gTup K 2 (gCons (gName 2) (gCons (gName 3) gNil))) (tWThen (tPlainW (tAsg (tMethZ (He.ga K "Book") "take" (sp_Book_take K) [.int 9] (WE (W0 E0)) (tFld K (tVar 0) "book") (tCons (tVar 1) (tCons (tVar 2) (tCons (tVar 3) tNil)))) (gName 1))) (tWThen (tWYield (tOwn (He.ga K "Row") (sp_Row_add K) (WE (W0 E0)) (isIns (He.ga K "Row")) (tVar 1) (tMakeS (He.ga K "Row") (sp_Row_init K) (List.drop 0 [.str "", .non]) (WE (W0 E0)) tNil))) tW0))) tW0)))
theorem okw_Play_rows (T : Txt PROG K mg) : ∃ fd, GFw PROG w K mg base 7 (Rz.pM "Play" "rows" K) fd ["self"] (spW (tw_Play_rows K) N_Play_rows) ∧ FunD K "rows" "Play.rows" (defArgs s_Play_rows) (defBody s_Play_rows) (defScope s_Play_rows) [] [] (Rz.pM "Play" "rows" K) fd := by
  obtain ⟨fd_Row_init, G_Row_init, D_Row_init⟩ := ok_Row_init (w := w) (base := base) T
  obtain ⟨fd_Book_take, G_Book_take, D_Book_take⟩ := ok_Book_take (w := w) (base := base) T
  obtain ⟨fd_Row_add, G_Row_add, D_Row_add⟩ := ok_Row_add (w := w) (base := base) T
  obtain ⟨ds_Row_init_2, V_Row_init_2, b_Row_init_2⟩ := D_Row_init.binds1 (ps := ["self", "text", "heights"]) 2 1 (by simp) rfl (fun _ _ _ _ _ _ _ us its h1 h2 => match us, its, h1, h2 with | [_, _], [_, _], _, _ => ⟨_, rfl, rfl⟩)
  obtain ⟨ds_Book_take_4, V_Book_take_4, b_Book_take_4⟩ := D_Book_take.binds0 (ps := ["self", "row", "number", "at", "most"]) 4 (by simp) rfl (fun _ _ _ _ _ _ us ks h1 h2 => match us, ks, h1, h2 with | [_, _, _, _], [_], _, _ => ⟨_, _, _, _, _, _, rfl, rfl, rfl⟩)
  obtain ⟨ds_Row_init_1, V_Row_init_1, b_Row_init_1⟩ := D_Row_init.binds1 (ps := ["self", "text", "heights"]) 1 0 (by simp) rfl (fun _ _ _ _ _ _ _ us its h1 h2 => match us, its, h1, h2 with | [_], [_, _], _, _ => ⟨_, rfl, rfl⟩)
  have b_Row_add_2 : Binds K fd_Row_add _ [] := D_Row_add.bindsN (ps := ["self", "other"]) (fun _ _ _ _ _ _ us hl => match us, hl with | [_, _], _ => rfl)
  obtain ⟨fd, F⟩ := T.F_Play_rows
  refine ⟨fd, F.okGenW sc_Play_rows (by decide +kernel) (fun cdv X pins n A a go HB hrw => ?_), F⟩
  exact (gw_cons (gw_ps (fun s H hs => by have hr := hrw s H hs; exact (ps_set (i := 1) sc_Play_rows.nd rfl (by first | exact Or.inl rfl | exact Or.inr rfl) (pe_makeS T.mk_Row G_Row_init (hr.mono (by decide)) rfl T.g_Row b_Row_init_2 V_Row_init_2 (fun σ => passN takes_gcx σ) (pa_cons (pe_fld (pv 0) rfl) pa_nil))))) (gw_cons (gw_yield HB (fun s H hs => by have hr := hrw s H hs; exact (pe_makeS T.mk_Row G_Row_init (hr.mono (by decide)) rfl T.g_Row b_Row_init_2 V_Row_init_2 (fun σ => passN takes_gcx σ) (pa_cons (pe_fld (pv 0) rfl) pa_nil)))) (gw_cons (gw_for HB (fun s H hs => by have hr := hrw s H hs; exact (pi_list (pe_fld (pv 0) rfl))) (fun s H hs => by have hr := hrw s H hs; exact (pg_tup rfl (pgs_cons (pg_name (i := 2) sc_Play_rows.nd rfl (by first | exact Or.inl rfl | exact Or.inr rfl)) (pgs_cons (pg_name (i := 3) sc_Play_rows.nd rfl (by first | exact Or.inl rfl | exact Or.inr rfl)) pgs_nil)))) (gw_cons (gw_ps (fun s H hs => by have hr := hrw s H hs; exact (ps_set (i := 1) sc_Play_rows.nd rfl (by first | exact Or.inl rfl | exact Or.inr rfl) (pe_methZ (pe_fld (pv 0) rfl) T.c_Book T.m_Book_take G_Book_take (hr.mono (by decide)) b_Book_take_4 V_Book_take_4 (fun σ => passN takes_gcx σ) (pa_cons (pv 1) (pa_cons (pv 2) (pa_cons (pv 3) pa_nil))))))) (gw_cons (gw_yield HB (fun s H hs => by have hr := hrw s H hs; exact (pe_addO (op := .Add) T.m_Row___add__ T.op_Row G_Row_add (hr.mono (by decide)) b_Row_add_2 (fun σ => passN takes_gcx σ) (pv 1) (pe_make0S T.mk_Row G_Row_init (hr.mono (by decide)) rfl T.g_Row b_Row_init_1 V_Row_init_1 (fun σ => passN takes_gcx σ))))) gw_nil))) gw_nil)))
/-! Row.__iter__ -/
abbrev N_Row_iter : List Str := ["self"]
def t_Row_iter (K : Frg) (E : XK) : TS :=
  (tRet (tCB (rIterA K) (tCons (tFld K (tVar 0) "pairs") tNil)))
def sp_Row_iter (K : Frg) : Sp := fun vs H Q E => vs.length = 1 ∧ t_Row_iter K E { nx := fun _ H' => Q .non H', rt := Q } (start N_Row_iter vs) H
theorem sc_Row_iter : FnScope N_Row_iter ["self"] (defScope s_Row_iter) := ⟨rfl, rfl, rfl, by decide +kernel, rfl, by decide +kernel, by decide +kernel⟩
theorem ok_Row_iter (T : Txt PROG K mg) : ∃ fd, FnOk PROG w K mg base (L2N.CX PROG w) 1 (Rz.pM "Row" "__iter__" K) fd ["self"] (sp_Row_iter K) ∧ FunD K "__iter__" "Row.__iter__" (defArgs s_Row_iter) (defBody s_Row_iter) (defScope s_Row_iter) [] [] (Rz.pM "Row" "__iter__" K) fd := by
  obtain ⟨fd, F⟩ := T.F_Row_iter
  refine ⟨fd, F.ok sc_Row_iter (fun vs H Q E h => h.1) (fun cdv A outer s H vs Q E hr h => ⟨t_Row_iter K E, ?_, h.2⟩), F⟩
  exact (pss_one (ps_ret (pe_callB c_iter rfl T.f_iter (by decide +kernel) (pa_cons (pe_fld (pv 0) rfl) pa_nil))))
/-! Row.__abs__ -/
abbrev N_Row_abs : List Str := ["self"]
def t_Row_abs (K : Frg) (E : XK) : TS :=
  (tRet (tCB (rMaxA K) (tCons (tOp rAddA (tLst (tCons (tC (.int 0)) tNil)) (tProp (He.ga K "Row") (sp_Row_heights K) [] E0 (tVar 0))) tNil)))
def sp_Row_abs (K : Frg) : Sp := fun vs H Q E => vs.length = 1 ∧ t_Row_abs K E { nx := fun _ H' => Q .non H', rt := Q } (start N_Row_abs vs) H
theorem sc_Row_abs : FnScope N_Row_abs ["self"] (defScope s_Row_abs) := ⟨rfl, rfl, rfl, by decide +kernel, rfl, by decide +kernel, by decide +kernel⟩
theorem ok_Row_abs (T : Txt PROG K mg) : ∃ fd, FnOk PROG w K mg base (L2.CX PROG w) 3 (Rz.pM "Row" "__abs__" K) fd ["self"] (sp_Row_abs K) ∧ FunD K "__abs__" "Row.__abs__" (defArgs s_Row_abs) (defBody s_Row_abs) (defScope s_Row_abs) [] [] (Rz.pM "Row" "__abs__" K) fd := by
  obtain ⟨fd_Row_heights, G_Row_heights, D_Row_heights⟩ := ok_Row_heights (w := w) (base := base) T
  have b_Row_heights_1 : Binds K fd_Row_heights _ [] := D_Row_heights.bindsN (ps := ["self"]) (fun _ _ _ _ _ _ us hl => match us, hl with | [_], _ => rfl)
  obtain ⟨fd, F⟩ := T.F_Row_abs
  refine ⟨fd, F.ok sc_Row_abs (fun vs H Q E h => h.1) (fun cdv A outer s H vs Q E hr h => ⟨t_Row_abs K E, ?_, h.2⟩), F⟩
  exact (pss_one (ps_ret (pe_callB (c_max rfl) rfl T.f_max (by decide +kernel) (pa_cons (pe_op op_addA (pe_lst (pa_cons pe_int pa_nil)) (pe_prop (pv 0) T.c_Row T.p_Row_heights G_Row_heights (hr.mono (by decide)) b_Row_heights_1 .nil passLN rfl)) pa_nil))))
/-! _law_shows -/
abbrev N_law_shows : List Str := ["_law_row", "_law_pairs", "_law_told", "_law_k", "_law_pair"]
def t_law_shows (K : Frg) (E : XK) : TS :=
  (tSeq (tIfS (tOr (tNot (tB (tCB (rIsiA K) (tCons (tVar 0) (tCons (tC (.ref (He.ga K "Row"))) tNil))))) (tOr (tNot (tB (tCB (rIsiA K) (tCons (tProp (He.ga K "Row") (sp_Row_signs K) [] E0 (tVar 0)) (tCons (tC (.ty "str")) tNil))))) (tNot (tB (tCB (rIsiA K) (tCons (tProp (He.ga K "Row") (sp_Row_heights K) [] E0 (tVar 0)) (tCons (tC (.ty "list")) tNil))))))) (tRet (tC (.bl false))) tNext) (tSeq (tAsg (tListO (He.ga K "Row") (sp_Row_iter K) (sp_Row_len K) (WE (W0 E)) (tCons (tVar 0) tNil)) (gName 2)) (tSeq (tIfS (tOr (tTest (tOp (rNeA K) (tCB (rLenA K) (tCons (tVar 2) tNil)) (tCB (rLenA K) (tCons (tVar 1) tNil)))) (tOr (tTest (tOp (rNeA K) (tLenO (He.ga K "Row") (sp_Row_len K) (WE (W0 E)) (tCons (tVar 0) tNil)) (tCB (rLenA K) (tCons (tVar 1) tNil)))) (tTest (tOp (rNeA K) (tCB (rLenA K) (tCons (tProp (He.ga K "Row") (sp_Row_heights K) [] E0 (tVar 0)) tNil)) (tCB (rLenA K) (tCons (tVar 1) tNil)))))) (tRet (tC (.bl false))) tNext) (tSeq (tFor (iRng1 (tCons (tCB (rLenA K) (tCons (tVar 1) tNil)) tNil)) (gName 3) (tSeq (tIfS (tOr (tNot (tB (tCB (rIsiA K) (tCons (tOp (rIx K) (tVar 2) (tVar 3)) (tCons (tC (.ty "tuple")) tNil))))) (tOr (tTest (tOp (rNeA K) (tOp (rIx K) (tVar 2) (tVar 3)) (tOp (rIx K) (tVar 1) (tVar 3)))) (tNot (tB (tCallSD (sp_law_is_int K) [] (WE (W0 E)) (tCons (tOp (rIx K) (tOp (rIx K) (tVar 2) (tVar 3)) (tC (.int 1))) tNil)))))) (tRet (tC (.bl false))) tNext) (tIfS (tOr (tTest (tOp (rNeA K) (tOp (rIx K) (tProp (He.ga K "Row") (sp_Row_heights K) [] E0 (tVar 0)) (tVar 3)) (tOp (rIx K) (tOp (rIx K) (tVar 1) (tVar 3)) (tC (.int 1))))) (tNot (tB (tCallSD (sp_law_is_int K) [] (WE (W0 E)) (tCons (tOp (rIx K) (tProp (He.ga K "Row") (sp_Row_heights K) [] E0 (tVar 0)) (tVar 3)) tNil))))) (tRet (tC (.bl false))) tNext))) (tSeq (tIfS (tOr (tTest (tOp (rNeA K) (tProp (He.ga K "Row") (sp_Row_signs K) [] E0 (tVar 0)) (tM1 (rJoinA K) (tC (.str "")) (tLc (iList K (tVar 1)) (gName 4) tYes (tOp (rIx K) (tVar 4) (tC (.int 0))) [4])))) (tNot (tB (tCallSD (sp_law_is_int K) [] (WE (W0 E)) (tCons (tAbsO (He.ga K "Row") (sp_Row_abs K) (WE (W0 E)) (tCons (tVar 0) tNil)) tNil))))) (tRet (tC (.bl false))) tNext) (tRet (tOp (rEqA K) (tAbsO (He.ga K "Row") (sp_Row_abs K) (WE (W0 E)) (tCons (tVar 0) tNil)) (tCB (rMaxA K) (tCons (tOp rAddA (tLst (tCons (tC (.int 0)) tNil)) (tLc (iList K (tVar 1)) (gName 4) tYes (tOp (rIx K) (tVar 4) (tC (.int 1))) [4])) tNil)))))))))
def sp_law_shows (K : Frg) : Sp := fun vs H Q E => vs.length = 2 ∧ t_law_shows K E { nx := fun _ H' => Q .non H', rt := Q } (start N_law_shows vs) H
theorem sc_law_shows : FnScope N_law_shows ["_law_row", "_law_pairs"] (defScope s_law_shows) := ⟨rfl, rfl, rfl, by decide +kernel, rfl, by decide +kernel, by decide +kernel⟩
theorem ok_law_shows (T : Txt PROG K mg) : ∃ fd, FnOk PROG w K mg base (L2.CX PROG w) 5 (Rz.pG "_law_shows" K) fd ["_law_row", "_law_pairs"] (sp_law_shows K) ∧ FunD K "_law_shows" "_law_shows" (defArgs s_law_shows) (defBody s_law_shows) (defScope s_law_shows) [] [] (Rz.pG "_law_shows" K) fd := by
  obtain ⟨fd_Row_signs, G_Row_signs, D_Row_signs⟩ := ok_Row_signs (w := w) (base := base) T
  obtain ⟨fd_Row_heights, G_Row_heights, D_Row_heights⟩ := ok_Row_heights (w := w) (base := base) T
  obtain ⟨fd_Row_iter, G_Row_iter, D_Row_iter⟩ := ok_Row_iter (w := w) (base := base) T
  obtain ⟨fd_Row_len, G_Row_len, D_Row_len⟩ := ok_Row_len (w := w) (base := base) T
  obtain ⟨fd_law_is_int, G_law_is_int, D_law_is_int⟩ := ok_law_is_int (w := w) (base := base) T
  obtain ⟨fd_Row_abs, G_Row_abs, D_Row_abs⟩ := ok_Row_abs (w := w) (base := base) T
  have b_Row_signs_1 : Binds K fd_Row_signs _ [] := D_Row_signs.bindsN (ps := ["self"]) (fun _ _ _ _ _ _ us hl => match us, hl with | [_], _ => rfl)
  have b_Row_heights_1 : Binds K fd_Row_heights _ [] := D_Row_heights.bindsN (ps := ["self"]) (fun _ _ _ _ _ _ us hl => match us, hl with | [_], _ => rfl)
  have b_Row_iter_1 : Binds K fd_Row_iter _ [] := D_Row_iter.bindsN (ps := ["self"]) (fun _ _ _ _ _ _ us hl => match us, hl with | [_], _ => rfl)
  have b_Row_len_1 : Binds K fd_Row_len _ [] := D_Row_len.bindsN (ps := ["self"]) (fun _ _ _ _ _ _ us hl => match us, hl with | [_], _ => rfl)
  have b_law_is_int_1 : Binds K fd_law_is_int _ [] := D_law_is_int.bindsN (ps := ["_law_value"]) (fun _ _ _ _ _ _ us hl => match us, hl with | [_], _ => rfl)
  have b_Row_abs_1 : Binds K fd_Row_abs _ [] := D_Row_abs.bindsN (ps := ["self"]) (fun _ _ _ _ _ _ us hl => match us, hl with | [_], _ => rfl)
  obtain ⟨fd, F⟩ := T.F_law_shows
  refine ⟨fd, F.ok sc_law_shows (fun vs H Q E h => h.1) (fun cdv A outer s H vs Q E hr h => ⟨t_law_shows K E, ?_, h.2⟩), F⟩
  exact (pss_cons (ps_if (PW.pt (pw_or (pt_not (pt_val (pe_callB c_isi rfl T.f_isinstance (by decide +kernel) (pa_cons (pv 0) (pa_cons (pe_glob rfl T.g_Row rfl) pa_nil))))) (pw_or (pt_not (pt_val (pe_callB c_isi rfl T.f_isinstance (by decide +kernel) (pa_cons (pe_prop (pv 0) T.c_Row T.p_Row_signs G_Row_signs (hr.mono (by decide)) b_Row_signs_1 .nil passLN rfl) (pa_cons (pe_bltn rfl T.f_str (by decide +kernel) rfl) pa_nil))))) (pw_or1 (pt_not (pt_val (pe_callB c_isi rfl T.f_isinstance (by decide +kernel) (pa_cons (pe_prop (pv 0) T.c_Row T.p_Row_heights G_Row_heights (hr.mono (by decide)) b_Row_heights_1 .nil passLN rfl) (pa_cons (pe_bltn rfl T.f_list (by decide +kernel) rfl) pa_nil))))))))) (pss_one (ps_ret pe_bl)) pss_nil) (pss_cons (ps_set (i := 2) sc_law_shows.nd rfl (by first | exact Or.inl rfl | exact Or.inr rfl) (pe_listO T.m_Row___iter__ T.m_Row___len__ G_Row_iter G_Row_len (hr.mono (by decide)) (hr.mono (by decide)) b_Row_iter_1 b_Row_len_1 (fun σ => passN (takes_of rfl rfl rfl rfl) σ) shut_CXN rfl rfl T.f_list (pa_cons (pv 0) pa_nil))) (pss_cons (ps_if (PW.pt (pw_or (pt_cmpR (op_neA hr) (pe_callB c_len rfl T.f_len (by decide +kernel) (pa_cons (pv 2) pa_nil)) (pe_callB c_len rfl T.f_len (by decide +kernel) (pa_cons (pv 1) pa_nil)) (nomark _)) (pw_or (pt_cmpR (op_neA hr) (pe_lenO T.m_Row___len__ G_Row_len (hr.mono (by decide)) b_Row_len_1 (fun σ => passN (takes_of rfl rfl rfl rfl) σ) rfl T.f_len (pa_cons (pv 0) pa_nil)) (pe_callB c_len rfl T.f_len (by decide +kernel) (pa_cons (pv 1) pa_nil)) (nomark _)) (pw_or1 (pt_cmpR (op_neA hr) (pe_callB c_len rfl T.f_len (by decide +kernel) (pa_cons (pe_prop (pv 0) T.c_Row T.p_Row_heights G_Row_heights (hr.mono (by decide)) b_Row_heights_1 .nil passLN rfl) pa_nil)) (pe_callB c_len rfl T.f_len (by decide +kernel) (pa_cons (pv 1) pa_nil)) (nomark _)))))) (pss_one (ps_ret pe_bl)) pss_nil) (pss_cons (ps_for (passes_of rfl) rfl (pi_range1 rfl T.f_range (pa_cons (pe_callB c_len rfl T.f_len (by decide +kernel) (pa_cons (pv 1) pa_nil)) pa_nil)) (pg_name (i := 3) sc_law_shows.nd rfl (by first | exact Or.inl rfl | exact Or.inr rfl)) (pss_cons (ps_if (PW.pt (pw_or (pt_not (pt_val (pe_callB c_isi rfl T.f_isinstance (by decide +kernel) (pa_cons (pe_ix ix_seq (pv 2) (pv 3) (fun _ _ => rfl)) (pa_cons (pe_bltn rfl T.f_tuple (by decide +kernel) rfl) pa_nil))))) (pw_or (pt_cmpR (op_neA hr) (pe_ix ix_seq (pv 2) (pv 3) (fun _ _ => rfl)) (pe_ix ix_seq (pv 1) (pv 3) (fun _ _ => rfl)) (nomark _)) (pw_or1 (pt_not (pt_val (pe_callSD G_law_is_int (hr.mono (by decide)) rfl T.g__law_is_int D_law_is_int.kp b_law_is_int_1 .nil (fun σ => passAt (takes_of rfl rfl rfl rfl) σ) (pa_cons (pe_ix ix_seq (pe_ix ix_seq (pv 2) (pv 3) (fun _ _ => rfl)) pe_int (fun _ _ => rfl)) pa_nil)))))))) (pss_one (ps_ret pe_bl)) pss_nil) (pss_one (ps_if (PW.pt (pw_or (pt_cmpR (op_neA hr) (pe_ix ix_seq (pe_prop (pv 0) T.c_Row T.p_Row_heights G_Row_heights (hr.mono (by decide)) b_Row_heights_1 .nil passLN rfl) (pv 3) (fun _ _ => rfl)) (pe_ix ix_seq (pe_ix ix_seq (pv 1) (pv 3) (fun _ _ => rfl)) pe_int (fun _ _ => rfl)) (nomark _)) (pw_or1 (pt_not (pt_val (pe_callSD G_law_is_int (hr.mono (by decide)) rfl T.g__law_is_int D_law_is_int.kp b_law_is_int_1 .nil (fun σ => passAt (takes_of rfl rfl rfl rfl) σ) (pa_cons (pe_ix ix_seq (pe_prop (pv 0) T.c_Row T.p_Row_heights G_Row_heights (hr.mono (by decide)) b_Row_heights_1 .nil passLN rfl) (pv 3) (fun _ _ => rfl)) pa_nil))))))) (pss_one (ps_ret pe_bl)) pss_nil)))) (pss_cons (ps_if (PW.pt (pw_or (pt_cmpR (op_neA hr) (pe_prop (pv 0) T.c_Row T.p_Row_signs G_Row_signs (hr.mono (by decide)) b_Row_signs_1 .nil passLN rfl) (pe_joinA pe_str (pe_lc (own := [("_law_pair", 4)]) rfl sc_law_shows.nd (pi_list (pv 1)) (blkOk_by (own := [("_law_pair", 4)]) (N := N_law_shows) (sc := defScope s_law_shows) (by decide +kernel)) (fun _ _ _ _ _ => (pg_name (i := 4) sc_law_shows.nd rfl (by first | exact Or.inl rfl | exact Or.inr rfl))) (fun _ _ _ _ _ => pts_nil) (fun _ _ _ _ _ => (pe_ix ix_seq (pv 4) pe_int (fun _ _ => rfl))))) (nomark _)) (pw_or1 (pt_not (pt_val (pe_callSD G_law_is_int (hr.mono (by decide)) rfl T.g__law_is_int D_law_is_int.kp b_law_is_int_1 .nil (fun σ => passAt (takes_of rfl rfl rfl rfl) σ) (pa_cons (pe_absO T.m_Row___abs__ G_Row_abs (hr.mono (by decide)) b_Row_abs_1 (fun σ => passAt (takes_of rfl rfl rfl rfl) σ) rfl T.f_abs (pa_cons (pv 0) pa_nil)) pa_nil))))))) (pss_one (ps_ret pe_bl)) pss_nil) (pss_one (ps_ret (pe_cmpR (op_eqA hr) (pe_absO T.m_Row___abs__ G_Row_abs (hr.mono (by decide)) b_Row_abs_1 (fun σ => passAt (takes_of rfl rfl rfl rfl) σ) rfl T.f_abs (pa_cons (pv 0) pa_nil)) (pe_callB (c_max rfl) rfl T.f_max (by decide +kernel) (pa_cons (pe_op op_addA (pe_lst (pa_cons pe_int pa_nil)) (pe_lc (own := [("_law_pair", 4)]) rfl sc_law_shows.nd (pi_list (pv 1)) (blkOk_by (own := [("_law_pair", 4)]) (N := N_law_shows) (sc := defScope s_law_shows) (by decide +kernel)) (fun _ _ _ _ _ => (pg_name (i := 4) sc_law_shows.nd rfl (by first | exact Or.inl rfl | exact Or.inr rfl))) (fun _ _ _ _ _ => pts_nil) (fun _ _ _ _ _ => (pe_ix ix_seq (pv 4) pe_int (fun _ _ => rfl))))) pa_nil)) (nomark _)))))))))
/-! is_sign -/
abbrev N_is_sign : List Str := ["string"]
def t_is_sign (K : Frg) (E : XK) : TS :=
  (tRet (tAndV (tOp (rEqA K) (tCB (rLenA K) (tCons (tVar 0) tNil)) (tC (.int 1))) (tOp (rInA K) (tVar 0) (tC (.str "abcdefghijklmnopqrstuvwxyz")))))
def sp_is_sign (K : Frg) : Sp := fun vs H Q E => vs.length = 1 ∧ t_is_sign K E { nx := fun _ H' => Q .non H', rt := Q } (start N_is_sign vs) H
theorem sc_is_sign : FnScope N_is_sign ["string"] (defScope s_is_sign) := ⟨rfl, rfl, rfl, by decide +kernel, rfl, by decide +kernel, by decide +kernel⟩
theorem ok_is_sign (T : Txt PROG K mg) : ∃ fd, FnOk PROG w K mg base (L2.CX PROG w) 1 (Rz.pG "is_sign" K) fd ["string"] (sp_is_sign K) ∧ FunD K "is_sign" "is_sign" (defArgs s_is_sign) (defBody s_is_sign) (defScope s_is_sign) [] [] (Rz.pG "is_sign" K) fd := by
  obtain ⟨fd, F⟩ := T.F_is_sign
  refine ⟨fd, F.ok sc_is_sign (fun vs H Q E h => h.1) (fun cdv A outer s H vs Q E hr h => ⟨t_is_sign K E, ?_, h.2⟩), F⟩
  exact (pss_one (ps_ret (pe_and (pe_cmpR (op_eqA hr) (pe_callB c_len rfl T.f_len (by decide +kernel) (pa_cons (pv 0) pa_nil)) pe_int (nomark _)) (pe_one (pe_cmpR op_inA (pv 0) (pe_gstr rfl T.k_SIGNS) (by rfl))))))
/-! Row.__setitem__ -/
abbrev N_Row_setitem : List Str := ["self", "at", "worth", "sign", "height"]
def t_Row_setitem (K : Frg) (E : XK) : TS :=
  (tSeq (tIfS (tNot (tB (tCB (rIsiW K) (tCons (tVar 1) (tCons (tC (.ty "int")) tNil))))) (tSeq (tAsg (tCB (rListA K) (tCons (tFld K (tVar 2) "pairs") tNil)) (gSub (tFld K (tVar 0) "pairs") (tVar 1) rSetW)) tRetN) tNext) (tSeq (tIfS (tNot (tTest (tChain rLeA rLtA (tC (.int 0)) (tVar 1) (tCB (rLenA K) (tCons (tFld K (tVar 0) "pairs") tNil))))) (tRaise (tMkX (He.ga K "NoPlace") "at" (tCons (tVar 1) tNil)) (W0 E)) tNext) (tSeq (tAsg (tVar 2) (gTup K 2 (gCons (gName 3) (gCons (gName 4) gNil)))) (tSeq (tIfS (tNot (tB (tCallSD (sp_is_sign K) [] (WE (W0 E)) (tCons (tVar 3) tNil)))) (tRaise (tMkX (He.ga K "BadSign") "at" (tCons (tC (.int 0)) tNil)) (W0 E)) tNext) (tSeq (tIfS (tNot (tTest (tChain rLeA rLeA (tC (.int 0)) (tVar 4) (tC (.int 9))))) (tRaise (tMkX (He.ga K "BadHeight") "height" (tCons (tVar 4) tNil)) (W0 E)) tNext) (tAsg (tTup (tCons (tVar 3) (tCons (tVar 4) tNil))) (gSub (tFld K (tVar 0) "pairs") (tVar 1) rSetW)))))))
def sp_Row_setitem (K : Frg) : Sp := fun vs H Q E => vs.length = 3 ∧ t_Row_setitem K E { nx := fun _ H' => Q .non H', rt := Q } (start N_Row_setitem vs) H
theorem sc_Row_setitem : FnScope N_Row_setitem ["self", "at", "worth"] (defScope s_Row_setitem) := ⟨rfl, rfl, rfl, by decide +kernel, rfl, by decide +kernel, by decide +kernel⟩
theorem ok_Row_setitem (T : Txt PROG K mg) : ∃ fd, FnOk PROG w K mg base (L2.CX PROG w) 2 (Rz.pM "Row" "__setitem__" K) fd ["self", "at", "worth"] (sp_Row_setitem K) ∧ FunD K "__setitem__" "Row.__setitem__" (defArgs s_Row_setitem) (defBody s_Row_setitem) (defScope s_Row_setitem) [] [] (Rz.pM "Row" "__setitem__" K) fd := by
  obtain ⟨fd_is_sign, G_is_sign, D_is_sign⟩ := ok_is_sign (w := w) (base := base) T
  have b_is_sign_1 : Binds K fd_is_sign _ [] := D_is_sign.bindsN (ps := ["string"]) (fun _ _ _ _ _ _ us hl => match us, hl with | [_], _ => rfl)
  obtain ⟨fd, F⟩ := T.F_Row_setitem
  refine ⟨fd, F.ok sc_Row_setitem (fun vs H Q E h => h.1) (fun cdv A outer s H vs Q E hr h => ⟨t_Row_setitem K E, ?_, h.2⟩), F⟩
  exact (pss_cons (ps_if (pt_not (pt_val (pe_callB c_isiW rfl T.f_isinstance (by decide +kernel) (pa_cons (pv 1) (pa_cons (pe_bltn rfl T.f_int (by decide +kernel) rfl) pa_nil))))) (pss_cons (ps_asg (pe_callTy c_list rfl T.f_list (by decide +kernel) (pa_cons (pe_fld (pv 2) rfl) pa_nil)) (pg_sub (pe_fld (pv 0) rfl) (pv 1) set_W)) (pss_one ps_retN)) pss_nil) (pss_cons (ps_if (pt_not (pt_chain op_leA op_ltA pe_int (pv 1) (pe_callB c_len rfl T.f_len (by decide +kernel) (pa_cons (pe_fld (pv 0) rfl) pa_nil)))) (pss_one (ps_raise rfl (takes_of rfl rfl rfl rfl) (pmk_sup1 T.x_NoPlace T.f_super hr rfl T.g_NoPlace (pa_cons (pv 1) pa_nil)))) pss_nil) (pss_cons (ps_asg (pv 2) (pg_tup rfl (pgs_cons (pg_name (i := 3) sc_Row_setitem.nd rfl (by first | exact Or.inl rfl | exact Or.inr rfl)) (pgs_cons (pg_name (i := 4) sc_Row_setitem.nd rfl (by first | exact Or.inl rfl | exact Or.inr rfl)) pgs_nil)))) (pss_cons (ps_if (pt_not (pt_val (pe_callSD G_is_sign (hr.mono (by decide)) rfl T.g_is_sign D_is_sign.kp b_is_sign_1 .nil (fun σ => passAt (takes_of rfl rfl rfl rfl) σ) (pa_cons (pv 3) pa_nil)))) (pss_one (ps_raise rfl (takes_of rfl rfl rfl rfl) (pmk_sup1 T.x_BadSign T.f_super hr rfl T.g_BadSign (pa_cons pe_int pa_nil)))) pss_nil) (pss_cons (ps_if (pt_not (pt_chain op_leA op_leA pe_int (pv 4) (pe_gint rfl T.k_TOP))) (pss_one (ps_raise rfl (takes_of rfl rfl rfl rfl) (pmk_sup1 T.x_BadHeight T.f_super hr rfl T.g_BadHeight (pa_cons (pv 4) pa_nil)))) pss_nil) (pss_one (ps_asg (pe_tup (pa_cons (pv 3) (pa_cons (pv 4) pa_nil))) (pg_sub (pe_fld (pv 0) rfl) (pv 1) set_W))))))))
/-! Play.end -/
abbrev N_Play_end : List Str := ["self", "row", "number", "at"]
def t_Play_end (K : Frg) (E : XK) : TS :=
  (tSeq (tAsg (tMakeS (He.ga K "Row") (sp_Row_init K) (List.drop 1 [.str "", .non]) (WE (W0 E)) (tCons (tFld K (tVar 0) "text") tNil)) (gName 1)) (tSeq (tFor (iList K (tFld K (tVar 0) "taken")) (gTup K 2 (gCons (gName 2) (gCons (gName 3) gNil))) (tAsg (tMethZ (He.ga K "Book") "take" (sp_Book_take K) [.int 9] (WE (W0 E)) (tFld K (tVar 0) "book") (tCons (tVar 1) (tCons (tVar 2) (tCons (tVar 3) tNil)))) (gName 1))) (tRet (tVar 1))))
def sp_Play_end (K : Frg) : Sp := fun vs H Q E => vs.length = 1 ∧ t_Play_end K E { nx := fun _ H' => Q .non H', rt := Q } (start N_Play_end vs) H
theorem sc_Play_end : FnScope N_Play_end ["self"] (defScope s_Play_end) := ⟨rfl, rfl, rfl, by decide +kernel, rfl, by decide +kernel, by decide +kernel⟩
theorem ok_Play_end (T : Txt PROG K mg) : ∃ fd, FnOk PROG w K mg base (L2.CX PROG w) 7 (Rz.pM "Play" "end" K) fd ["self"] (sp_Play_end K) ∧ FunD K "end" "Play.end" (defArgs s_Play_end) (defBody s_Play_end) (defScope s_Play_end) [] [] (Rz.pM "Play" "end" K) fd := by
  obtain ⟨fd_Row_init, G_Row_init, D_Row_init⟩ := ok_Row_init (w := w) (base := base) T
  obtain ⟨fd_Book_take, G_Book_take, D_Book_take⟩ := ok_Book_take (w := w) (base := base) T
  obtain ⟨ds_Row_init_2, V_Row_init_2, b_Row_init_2⟩ := D_Row_init.binds1 (ps := ["self", "text", "heights"]) 2 1 (by simp) rfl (fun _ _ _ _ _ _ _ us its h1 h2 => match us, its, h1, h2 with | [_, _], [_, _], _, _ => ⟨_, rfl, rfl⟩)
  obtain ⟨ds_Book_take_4, V_Book_take_4, b_Book_take_4⟩ := D_Book_take.binds0 (ps := ["self", "row", "number", "at", "most"]) 4 (by simp) rfl (fun _ _ _ _ _ _ us ks h1 h2 => match us, ks, h1, h2 with | [_, _, _, _], [_], _, _ => ⟨_, _, _, _, _, _, rfl, rfl, rfl⟩)
  obtain ⟨fd, F⟩ := T.F_Play_end
  refine ⟨fd, F.ok sc_Play_end (fun vs H Q E h => h.1) (fun cdv A outer s H vs Q E hr h => ⟨t_Play_end K E, ?_, h.2⟩), F⟩
  exact (pss_cons (ps_set (i := 1) sc_Play_end.nd rfl (by first | exact Or.inl rfl | exact Or.inr rfl) (pe_makeS T.mk_Row G_Row_init (hr.mono (by decide)) rfl T.g_Row b_Row_init_2 V_Row_init_2 (fun σ => passN (takes_of rfl rfl rfl rfl) σ) (pa_cons (pe_fld (pv 0) rfl) pa_nil))) (pss_cons (ps_for (passes_of rfl) rfl (pi_list (pe_fld (pv 0) rfl)) (pg_tup rfl (pgs_cons (pg_name (i := 2) sc_Play_end.nd rfl (by first | exact Or.inl rfl | exact Or.inr rfl)) (pgs_cons (pg_name (i := 3) sc_Play_end.nd rfl (by first | exact Or.inl rfl | exact Or.inr rfl)) pgs_nil))) (pss_one (ps_set (i := 1) sc_Play_end.nd rfl (by first | exact Or.inl rfl | exact Or.inr rfl) (pe_methZ (pe_fld (pv 0) rfl) T.c_Book T.m_Book_take G_Book_take (hr.mono (by decide)) b_Book_take_4 V_Book_take_4 (fun σ => passN (takes_of rfl rfl rfl rfl) σ) (pa_cons (pv 1) (pa_cons (pv 2) (pa_cons (pv 3) pa_nil))))))) (pss_one (ps_ret (pv 1)))))
/-! _law_fine -/
abbrev N_law_fine : List Str := ["_law_play", "_law_text", "_law_steps", "_law_rows", "_law_told", "_law_step", "_law_count", "_law_row", "_law_end"]
def t_law_fine (K : Frg) (E : XK) : TS :=
  (tSeq (tIfS (tOr (tNot (tB (tCB (rIsiA K) (tCons (tFld K (tVar 0) "text") (tCons (tC (.ty "str")) tNil))))) (tOr (tTest (tOp (rNeA K) (tFld K (tVar 0) "text") (tVar 1))) (tTest (tOp (rNeA K) (tLenO (He.ga K "Play") (sp_Play_len K) (WE (W0 E)) (tCons (tVar 0) tNil)) (tCB (rLenA K) (tCons (tVar 2) tNil)))))) (tRet (tC (.bl false))) tNext) (tSeq (tAsg (tListO (He.ga K "Play") (sp_Play_iter K) (sp_Play_len K) (WE (W0 E)) (tCons (tVar 0) tNil)) (gName 4)) (tSeq (tIfS (tTest (tOp (rNeA K) (tVar 4) (tVar 2))) (tRet (tC (.bl false))) tNext) (tSeq (tFor (iList K (tVar 4)) (gName 5) (tIfS (tOr (tNot (tB (tCB (rIsiA K) (tCons (tVar 5) (tCons (tC (.ty "tuple")) tNil))))) (tOr (tNot (tB (tCallSD (sp_law_is_int K) [] (WE (W0 E)) (tCons (tOp (rIx K) (tVar 5) (tC (.int 0))) tNil)))) (tNot (tB (tCallSD (sp_law_is_int K) [] (WE (W0 E)) (tCons (tOp (rIx K) (tVar 5) (tC (.int 1))) tNil)))))) (tRet (tC (.bl false))) tNext)) (tSeq (tAsg (tC (.int 0)) (gName 6)) (tSeq (tForW (tMethW (He.ga K "Play") "rows" (spW (tw_Play_rows K) N_Play_rows) 1 (tVar 0) tNil) (gName 7) (tSeq (tIfS (tOr (tTest (tOp rGeA (tVar 6) (tCB (rLenA K) (tCons (tVar 3) tNil)))) (tNot (tB (tCallSD (sp_law_shows K) [] (WE WN) (tCons (tVar 7) (tCons (tOp (rIx K) (tVar 3) (tVar 6)) tNil)))))) (tRet (tC (.bl false))) tNext) (tSeq (tIfS (tTest (tOp rGtA (tLenO (He.ga K "Row") (sp_Row_len K) (WE WN) (tCons (tVar 7) tNil)) (tC (.int 0)))) (tAsg (tTup (tCons (tC (.str "p")) (tCons (tC (.int 8)) tNil))) (gSubO (He.ga K "Row") (sp_Row_setitem K) (WE WN) (tVar 7) (tC (.int 0)))) tNext) (tAsg (tOp rAddA (tVar 6) (tC (.int 1))) (gName 6))))) (tSeq (tAsg (tMethZ (He.ga K "Play") "end" (sp_Play_end K) [] (WE (W0 E)) (tVar 0) tNil) (gName 8)) (tSeq (tIfS (tOr (tTest (tOp (rNeA K) (tVar 6) (tCB (rLenA K) (tCons (tVar 3) tNil)))) (tNot (tB (tCallSD (sp_law_shows K) [] (WE (W0 E)) (tCons (tVar 8) (tCons (tOp (rIx K) (tVar 3) (tUn rNegA (tC (.int 1)))) tNil)))))) (tRet (tC (.bl false))) tNext) (tSeq (tIfS (tTest (tOp rGtA (tLenO (He.ga K "Row") (sp_Row_len K) (WE (W0 E)) (tCons (tVar 8) tNil)) (tC (.int 0)))) (tAsg (tTup (tCons (tC (.str "p")) (tCons (tC (.int 8)) tNil))) (gSubO (He.ga K "Row") (sp_Row_setitem K) (WE (W0 E)) (tVar 8) (tC (.int 0)))) tNext) (tRet (tCallSD (sp_law_shows K) [] (WE (W0 E)) (tCons (tMethZ (He.ga K "Play") "end" (sp_Play_end K) [] (WE (W0 E)) (tVar 0) tNil) (tCons (tOp (rIx K) (tVar 3) (tUn rNegA (tC (.int 1)))) tNil)))))))))))))
def sp_law_fine (K : Frg) : Sp := fun vs H Q E => vs.length = 4 ∧ t_law_fine K E { nx := fun _ H' => Q .non H', rt := Q } (start N_law_fine vs) H
theorem sc_law_fine : FnScope N_law_fine ["_law_play", "_law_text", "_law_steps", "_law_rows"] (defScope s_law_fine) := ⟨rfl, rfl, rfl, by decide +kernel, rfl, by decide +kernel, by decide +kernel⟩
theorem ok_law_fine (T : Txt PROG K mg) : ∃ fd, FnOk PROG w K mg base (L2.CX PROG w) 9 (Rz.pG "_law_fine" K) fd ["_law_play", "_law_text", "_law_steps", "_law_rows"] (sp_law_fine K) ∧ FunD K "_law_fine" "_law_fine" (defArgs s_law_fine) (defBody s_law_fine) (defScope s_law_fine) [] [] (Rz.pG "_law_fine" K) fd := by
  obtain ⟨fd_Play_len, G_Play_len, D_Play_len⟩ := ok_Play_len (w := w) (base := base) T
  obtain ⟨fd_Play_iter, G_Play_iter, D_Play_iter⟩ := ok_Play_iter (w := w) (base := base) T
  obtain ⟨fd_law_is_int, G_law_is_int, D_law_is_int⟩ := ok_law_is_int (w := w) (base := base) T
  obtain ⟨fd_law_shows, G_law_shows, D_law_shows⟩ := ok_law_shows (w := w) (base := base) T
  obtain ⟨fd_Row_len, G_Row_len, D_Row_len⟩ := ok_Row_len (w := w) (base := base) T
  obtain ⟨fd_Row_setitem, G_Row_setitem, D_Row_setitem⟩ := ok_Row_setitem (w := w) (base := base) T
  obtain ⟨fd_Play_end, G_Play_end, D_Play_end⟩ := ok_Play_end (w := w) (base := base) T
  have b_Play_len_1 : Binds K fd_Play_len _ [] := D_Play_len.bindsN (ps := ["self"]) (fun _ _ _ _ _ _ us hl => match us, hl with | [_], _ => rfl)
  have b_Play_iter_1 : Binds K fd_Play_iter _ [] := D_Play_iter.bindsN (ps := ["self"]) (fun _ _ _ _ _ _ us hl => match us, hl with | [_], _ => rfl)
  have b_law_is_int_1 : Binds K fd_law_is_int _ [] := D_law_is_int.bindsN (ps := ["_law_value"]) (fun _ _ _ _ _ _ us hl => match us, hl with | [_], _ => rfl)
  have b_law_shows_2 : Binds K fd_law_shows _ [] := D_law_shows.bindsN (ps := ["_law_row", "_law_pairs"]) (fun _ _ _ _ _ _ us hl => match us, hl with | [_, _], _ => rfl)
  have b_Row_len_1 : Binds K fd_Row_len _ [] := D_Row_len.bindsN (ps := ["self"]) (fun _ _ _ _ _ _ us hl => match us, hl with | [_], _ => rfl)
  have b_Row_setitem_3 : Binds K fd_Row_setitem _ [] := D_Row_setitem.bindsN (ps := ["self", "at", "worth"]) (fun _ _ _ _ _ _ us hl => match us, hl with | [_, _, _], _ => rfl)
  have b_Play_end_1 : Binds K fd_Play_end _ [] := D_Play_end.bindsN (ps := ["self"]) (fun _ _ _ _ _ _ us hl => match us, hl with | [_], _ => rfl)
  obtain ⟨fdw_Play_rows, GW_Play_rows, DW_Play_rows⟩ := okw_Play_rows (w := w) (base := base) T
  have bw_Play_rows : Binds K fdw_Play_rows _ [] := DW_Play_rows.bindsN (ps := ["self"]) (fun _ _ _ _ _ _ us hl => match us, hl with | [_], _ => rfl)
  obtain ⟨fd, F⟩ := T.F_law_fine
  refine ⟨fd, F.ok sc_law_fine (fun vs H Q E h => h.1) (fun cdv A outer s H vs Q E hr h => ⟨t_law_fine K E, ?_, h.2⟩), F⟩
  exact (pss_cons (ps_if (PW.pt (pw_or (pt_not (pt_val (pe_callB c_isi rfl T.f_isinstance (by decide +kernel) (pa_cons (pe_fld (pv 0) rfl) (pa_cons (pe_bltn rfl T.f_str (by decide +kernel) rfl) pa_nil))))) (pw_or (pt_cmpR (op_neA hr) (pe_fld (pv 0) rfl) (pv 1) (nomark _)) (pw_or1 (pt_cmpR (op_neA hr) (pe_lenO T.m_Play___len__ G_Play_len (hr.mono (by decide)) b_Play_len_1 (fun σ => passN (takes_of rfl rfl rfl rfl) σ) rfl T.f_len (pa_cons (pv 0) pa_nil)) (pe_callB c_len rfl T.f_len (by decide +kernel) (pa_cons (pv 2) pa_nil)) (nomark _)))))) (pss_one (ps_ret pe_bl)) pss_nil) (pss_cons (ps_set (i := 4) sc_law_fine.nd rfl (by first | exact Or.inl rfl | exact Or.inr rfl) (pe_listO T.m_Play___iter__ T.m_Play___len__ G_Play_iter G_Play_len (hr.mono (by decide)) (hr.mono (by decide)) b_Play_iter_1 b_Play_len_1 (fun σ => passN (takes_of rfl rfl rfl rfl) σ) shut_CXN rfl rfl T.f_list (pa_cons (pv 0) pa_nil))) (pss_cons (ps_if (pt_cmpR (op_neA hr) (pv 4) (pv 2) (nomark _)) (pss_one (ps_ret pe_bl)) pss_nil) (pss_cons (ps_for (passes_of rfl) rfl (pi_list (pv 4)) (pg_name (i := 5) sc_law_fine.nd rfl (by first | exact Or.inl rfl | exact Or.inr rfl)) (pss_one (ps_if (PW.pt (pw_or (pt_not (pt_val (pe_callB c_isi rfl T.f_isinstance (by decide +kernel) (pa_cons (pv 5) (pa_cons (pe_bltn rfl T.f_tuple (by decide +kernel) rfl) pa_nil))))) (pw_or (pt_not (pt_val (pe_callSD G_law_is_int (hr.mono (by decide)) rfl T.g__law_is_int D_law_is_int.kp b_law_is_int_1 .nil (fun σ => passAt (takes_of rfl rfl rfl rfl) σ) (pa_cons (pe_ix ix_seq (pv 5) pe_int (fun _ _ => rfl)) pa_nil)))) (pw_or1 (pt_not (pt_val (pe_callSD G_law_is_int (hr.mono (by decide)) rfl T.g__law_is_int D_law_is_int.kp b_law_is_int_1 .nil (fun σ => passAt (takes_of rfl rfl rfl rfl) σ) (pa_cons (pe_ix ix_seq (pv 5) pe_int (fun _ _ => rfl)) pa_nil)))))))) (pss_one (ps_ret pe_bl)) pss_nil))) (pss_cons (ps_set (i := 6) sc_law_fine.nd rfl (by first | exact Or.inl rfl | exact Or.inr rfl) pe_int) (pss_cons (ps_forW rfl (hr.mono (by decide)) (passes_of rfl) (pgw_meth0 (k := 7) (pv 0) T.c_Play T.m_Play_rows GW_Play_rows (hr.mono (by decide)) bw_Play_rows rfl) (pg_name (i := 7) sc_law_fine.nd rfl (by first | exact Or.inl rfl | exact Or.inr rfl)) (pss_cons (ps_if (PW.pt (pw_or (pt_cmpR op_geA (pv 6) (pe_callB c_len rfl T.f_len (by decide +kernel) (pa_cons (pv 3) pa_nil)) (nomark _)) (pw_or1 (pt_not (pt_val (pe_callSD G_law_shows (hr.mono (by decide)) rfl T.g__law_shows D_law_shows.kp b_law_shows_2 .nil (fun σ => passAt takes0 σ) (pa_cons (pv 7) (pa_cons (pe_ix ix_seq (pv 3) (pv 6) (fun _ _ => rfl)) pa_nil)))))))) (pss_one (ps_ret pe_bl)) pss_nil) (pss_cons (ps_if (pt_cmpR op_gtA (pe_lenO T.m_Row___len__ G_Row_len (hr.mono (by decide)) b_Row_len_1 (fun σ => passN takes0 σ) rfl T.f_len (pa_cons (pv 7) pa_nil)) pe_int (nomark _)) (pss_one (ps_asg (pe_tup (pa_cons pe_str (pa_cons pe_int pa_nil))) (pg_subO (l := (fun l => l)) T.m_Row___setitem__ T.op_Row G_Row_setitem (hr.mono (by decide)) b_Row_setitem_3 (fun σ => passAt takes0 σ) (pv 7) pe_int (by intro _; rfl)))) pss_nil) (pss_one (ps_set (i := 6) sc_law_fine.nd rfl (by first | exact Or.inl rfl | exact Or.inr rfl) (pe_op op_addA (pv 6) pe_int)))))) (pss_cons (ps_set (i := 8) sc_law_fine.nd rfl (by first | exact Or.inl rfl | exact Or.inr rfl) (pe_meth0Z (pv 0) T.c_Play T.m_Play_end G_Play_end (hr.mono (by decide)) b_Play_end_1 .nil (fun σ => passAt (takes_of rfl rfl rfl rfl) σ))) (pss_cons (ps_if (PW.pt (pw_or (pt_cmpR (op_neA hr) (pv 6) (pe_callB c_len rfl T.f_len (by decide +kernel) (pa_cons (pv 3) pa_nil)) (nomark _)) (pw_or1 (pt_not (pt_val (pe_callSD G_law_shows (hr.mono (by decide)) rfl T.g__law_shows D_law_shows.kp b_law_shows_2 .nil (fun σ => passAt (takes_of rfl rfl rfl rfl) σ) (pa_cons (pv 8) (pa_cons (pe_ix ix_seq (pv 3) (pe_un un_neg pe_int) (fun _ _ => rfl)) pa_nil)))))))) (pss_one (ps_ret pe_bl)) pss_nil) (pss_cons (ps_if (pt_cmpR op_gtA (pe_lenO T.m_Row___len__ G_Row_len (hr.mono (by decide)) b_Row_len_1 (fun σ => passN (takes_of rfl rfl rfl rfl) σ) rfl T.f_len (pa_cons (pv 8) pa_nil)) pe_int (nomark _)) (pss_one (ps_asg (pe_tup (pa_cons pe_str (pa_cons pe_int pa_nil))) (pg_subO (l := (fun l => l)) T.m_Row___setitem__ T.op_Row G_Row_setitem (hr.mono (by decide)) b_Row_setitem_3 (fun σ => passAt (takes_of rfl rfl rfl rfl) σ) (pv 8) pe_int (by intro _; rfl)))) pss_nil) (pss_one (ps_ret (pe_callSD G_law_shows (hr.mono (by decide)) rfl T.g__law_shows D_law_shows.kp b_law_shows_2 .nil (fun σ => passAt (takes_of rfl rfl rfl rfl) σ) (pa_cons (pe_meth0Z (pv 0) T.c_Play T.m_Play_end G_Play_end (hr.mono (by decide)) b_Play_end_1 .nil (fun σ => passAt (takes_of rfl rfl rfl rfl) σ)) (pa_cons (pe_ix ix_seq (pv 3) (pe_un un_neg pe_int) (fun _ _ => rfl)) pa_nil))))))))))))))
/-! law -/
abbrev N_law : List Str := ["_law_script", "_law_draws", "_law_signs", "_law_rules", "_law_text", "_law_row", "_law_rows", "_law_steps", "_law_k", "_law_due", "_law_book", "_law_passed", "_law_told", "_law_found", "_law_step", "_law_bad", "_law_at", "_law_sign"]
def t_law (K : Frg) (E : XK) : TS :=
  (tSeq (tAsg (tCallSD (sp_law_pool K) [] (WE (W0 E)) (tCons (tVar 0) tNil)) (gName 1)) (tSeq (tAsg (tCallSD (sp_law_alphabet K) [] (WE (W0 E)) (tCons (tVar 1) (tCons (tC (.int 3)) tNil))) (gName 2)) (tSeq (tAsg (tCallSD (sp_law_book_of K) [] (WE (W0 E)) (tCons (tVar 1) (tCons (tVar 2) tNil))) (gName 3)) (tSeq (tAsg (tCallSD (sp_law_word_of K) [] (WE (W0 E)) (tCons (tVar 1) (tCons (tVar 2) (tCons (tC (.int 0)) (tCons (tC (.int 6)) tNil))))) (gName 4)) (tSeq (tAsg (tLc (iStr (tVar 4)) (gName 17) tYes (tTup (tCons (tVar 17) (tCons (tC (.int 0)) tNil))) [17]) (gName 5)) (tSeq (tAsg (tLst (tCons (tVar 5) tNil)) (gName 6)) (tSeq (tAsg (tLst tNil) (gName 7)) (tSeq (tFor (iRng1 (tCons (tCallSD (sp_law_pick K) [] (WE (W0 E)) (tCons (tVar 1) (tCons (tC (.int 13)) tNil))) tNil)) (gName 8) (tSeq (tAsg (tCallSD (sp_law_open_steps K) [] (WE (W0 E)) (tCons (tVar 5) (tCons (tVar 3) tNil))) (gName 13)) (tSeq (tIfS (tTest (tOp (rEqA K) (tVar 13) (tLst tNil))) tBreak tNext) (tSeq (tAsg (tOp (rIx K) (tVar 13) (tCallSD (sp_law_pick K) [] (WE (W0 E)) (tCons (tVar 1) (tCons (tCB (rLenA K) (tCons (tVar 13) tNil)) tNil)))) (gName 14)) (tSeq (tDrop (tBM K "list" rAppend (tVar 7) (tCons (tVar 14) tNil))) (tSeq (tAsg (tCallSD (sp_law_take K) [] (WE (W0 E)) (tCons (tVar 5) (tCons (tOp (rIx K) (tVar 3) (tOp (rIx K) (tVar 14) (tC (.int 0)))) (tCons (tOp (rIx K) (tVar 14) (tC (.int 1))) tNil)))) (gName 5)) (tDrop (tBM K "list" rAppend (tVar 6) (tCons (tVar 5) tNil))))))))) (tSeq (tAsg (tTup (tCons (tC (.str "play")) (tCons (tC (.int 0)) tNil))) (gName 9)) (tSeq (tIfS (tTest (tOp (rEqA K) (tCallSD (sp_law_pick K) [] (WE (W0 E)) (tCons (tVar 1) (tCons (tC (.int 3)) tNil))) (tC (.int 1)))) (tSeq (tAsg (tCallSD (sp_law_bad_step K) [] (WE (W0 E)) (tCons (tVar 1) (tCons (tVar 5) (tCons (tVar 3) tNil)))) (gName 15)) (tIfS (tTest (tOp (rNotInD K) (tVar 15) (tCallSD (sp_law_open_steps K) [] (WE (W0 E)) (tCons (tVar 5) (tCons (tVar 3) tNil))))) (tSeq (tAsg (tTup (tCons (tC (.str "step")) (tCons (tCB (rLenA K) (tCons (tVar 7) tNil)) tNil))) (gName 9)) (tAsg (tOp rAddA (tVar 7) (tLst (tCons (tVar 15) (tCons (tTup (tCons (tC (.int 0)) (tCons (tC (.int 0)) tNil))) tNil)))) (gName 7))) tNext)) tNext) (tSeq (tIfS (tTest (tOp (rEqA K) (tCallSD (sp_law_pick K) [] (WE (W0 E)) (tCons (tVar 1) (tCons (tC (.int 8)) tNil))) (tC (.int 3)))) (tSeq (tAsg (tCallSD (sp_law_pick K) [] (WE (W0 E)) (tCons (tVar 1) (tCons (tOp rAddA (tCB (rLenA K) (tCons (tVar 4) tNil)) (tC (.int 1))) tNil))) (gName 16)) (tSeq (tAsg (tOp rAddA (tOp rAddA (tSl (rSlA K) (tVar 4) tNoPart (tPart (tVar 16))) (tCallSD (sp_law_odd_sign K) [] (WE (W0 E)) (tCons (tVar 1) tNil))) (tSl (rSlA K) (tVar 4) (tPart (tVar 16)) tNoPart)) (gName 4)) (tAsg (tTup (tCons (tC (.str "sign")) (tCons (tVar 16) tNil))) (gName 9)))) tNext) (tSeq (tAsg (tCMS (He.ga K "Book") (sp_Book_read K) (WE (W0 E)) (tC (.ref (He.ga K "Book"))) (tCons (tCallSD (sp_law_lines_of K) [] (WE (W0 E)) (tCons (tVar 3) tNil)) tNil)) (gName 10)) (tSeq (tAsg (tCB (rListA K) (tCons (tVar 7) tNil)) (gName 11)) (tSeq (tAsg (tCallSD (sp_law_try_make K) [] (WE (W0 E)) (tCons (tVar 10) (tCons (tVar 4) (tCons (tVar 11) tNil)))) (gName 12)) (tSeq (tIfS (tOr (tTest (tOp (rNeA K) (tOp (rIx K) (tVar 12) (tC (.int 0))) (tOp (rIx K) (tVar 9) (tC (.int 0))))) (tOr (tTest (tOp (rNeA K) (tVar 11) (tVar 7))) (tTest (tOp (rNeA K) (tMethZ (He.ga K "Book") "written" (sp_Book_written K) [] (WE (W0 E)) (tVar 10) tNil) (tCallSD (sp_law_lines_of K) [] (WE (W0 E)) (tCons (tVar 3) tNil)))))) (tRet (tC (.bl false))) tNext) (tSeq (tIfS (tTest (tOp (rNeA K) (tOp (rIx K) (tVar 9) (tC (.int 0))) (tC (.str "play")))) (tRet (tAndV (tCallSD (sp_law_is_int K) [] (WE (W0 E)) (tCons (tOp (rIx K) (tVar 12) (tC (.int 1))) tNil)) (tOp (rEqA K) (tOp (rIx K) (tVar 12) (tC (.int 1))) (tOp (rIx K) (tVar 9) (tC (.int 1)))))) tNext) (tSeq (tDrop (tBM K "list" rInsertA (tVar 11) (tCons (tC (.int 0)) (tCons (tTup (tCons (tC (.int 0)) (tCons (tC (.int 0)) tNil))) tNil)))) (tSeq (tIfS (tTest (tOp (rNeA K) (tVar 3) (tLst tNil))) (tDrop (tMethZ (He.ga K "Book") "drop" (sp_Book_drop K) [] (WE (W0 E)) (tVar 10) (tCons (tC (.int 0)) tNil))) tNext) (tRet (tAndV (tCallSD (sp_law_fine K) [] (WE (W0 E)) (tCons (tOp (rIx K) (tVar 12) (tC (.int 1))) (tCons (tVar 4) (tCons (tVar 7) (tCons (tVar 6) tNil))))) (tCallSD (sp_law_fine K) [] (WE (W0 E)) (tCons (tOp (rIx K) (tVar 12) (tC (.int 1))) (tCons (tVar 4) (tCons (tVar 7) (tCons (tVar 6) tNil)))))))))))))))))))))))))
def sp_law (K : Frg) : Sp := fun vs H Q E => vs.length = 1 ∧ t_law K E { nx := fun _ H' => Q .non H', rt := Q } (start N_law vs) H
theorem sc_law : FnScope N_law ["_law_script"] (defScope s_law) := ⟨rfl, rfl, rfl, by decide +kernel, rfl, by decide +kernel, by decide +kernel⟩
theorem ok_law (T : Txt PROG K mg) : ∃ fd, FnOk PROG w K mg base (L2.CX PROG w) 10 (Rz.pG "law" K) fd ["_law_script"] (sp_law K) ∧ FunD K "law" "law" (defArgs s_law) (defBody s_law) (defScope s_law) [] [] (Rz.pG "law" K) fd := by
  obtain ⟨fd_law_pool, G_law_pool, D_law_pool⟩ := ok_law_pool (w := w) (base := base) T
  obtain ⟨fd_law_alphabet, G_law_alphabet, D_law_alphabet⟩ := ok_law_alphabet (w := w) (base := base) T
  obtain ⟨fd_law_book_of, G_law_book_of, D_law_book_of⟩ := ok_law_book_of (w := w) (base := base) T
  obtain ⟨fd_law_word_of, G_law_word_of, D_law_word_of⟩ := ok_law_word_of (w := w) (base := base) T
  obtain ⟨fd_law_pick, G_law_pick, D_law_pick⟩ := ok_law_pick (w := w) (base := base) T
  obtain ⟨fd_law_open_steps, G_law_open_steps, D_law_open_steps⟩ := ok_law_open_steps (w := w) (base := base) T
  obtain ⟨fd_law_take, G_law_take, D_law_take⟩ := ok_law_take (w := w) (base := base) T
  obtain ⟨fd_law_bad_step, G_law_bad_step, D_law_bad_step⟩ := ok_law_bad_step (w := w) (base := base) T
  obtain ⟨fd_law_odd_sign, G_law_odd_sign, D_law_odd_sign⟩ := ok_law_odd_sign (w := w) (base := base) T
  obtain ⟨fd_Book_read, G_Book_read, D_Book_read⟩ := ok_Book_read (w := w) (base := base) T
  obtain ⟨fd_law_lines_of, G_law_lines_of, D_law_lines_of⟩ := ok_law_lines_of (w := w) (base := base) T
  obtain ⟨fd_law_try_make, G_law_try_make, D_law_try_make⟩ := ok_law_try_make (w := w) (base := base) T
  obtain ⟨fd_Book_written, G_Book_written, D_Book_written⟩ := ok_Book_written (w := w) (base := base) T
  obtain ⟨fd_law_is_int, G_law_is_int, D_law_is_int⟩ := ok_law_is_int (w := w) (base := base) T
  obtain ⟨fd_Book_drop, G_Book_drop, D_Book_drop⟩ := ok_Book_drop (w := w) (base := base) T
  obtain ⟨fd_law_fine, G_law_fine, D_law_fine⟩ := ok_law_fine (w := w) (base := base) T
  have b_law_pool_1 : Binds K fd_law_pool _ [] := D_law_pool.bindsN (ps := ["_law_script"]) (fun _ _ _ _ _ _ us hl => match us, hl with | [_], _ => rfl)
  have b_law_alphabet_2 : Binds K fd_law_alphabet _ [] := D_law_alphabet.bindsN (ps := ["_law_draws", "_law_many"]) (fun _ _ _ _ _ _ us hl => match us, hl with | [_, _], _ => rfl)
  have b_law_book_of_2 : Binds K fd_law_book_of _ [] := D_law_book_of.bindsN (ps := ["_law_draws", "_law_signs"]) (fun _ _ _ _ _ _ us hl => match us, hl with | [_, _], _ => rfl)
  have b_law_word_of_4 : Binds K fd_law_word_of _ [] := D_law_word_of.bindsN (ps := ["_law_draws", "_law_signs", "_law_least", "_law_greatest"]) (fun _ _ _ _ _ _ us hl => match us, hl with | [_, _, _, _], _ => rfl)
  have b_law_pick_2 : Binds K fd_law_pick _ [] := D_law_pick.bindsN (ps := ["_law_draws", "_law_many"]) (fun _ _ _ _ _ _ us hl => match us, hl with | [_, _], _ => rfl)
  have b_law_open_steps_2 : Binds K fd_law_open_steps _ [] := D_law_open_steps.bindsN (ps := ["_law_row", "_law_rules"]) (fun _ _ _ _ _ _ us hl => match us, hl with | [_, _], _ => rfl)
  have b_law_take_3 : Binds K fd_law_take _ [] := D_law_take.bindsN (ps := ["_law_row", "_law_rule", "_law_at"]) (fun _ _ _ _ _ _ us hl => match us, hl with | [_, _, _], _ => rfl)
  have b_law_bad_step_3 : Binds K fd_law_bad_step _ [] := D_law_bad_step.bindsN (ps := ["_law_draws", "_law_row", "_law_rules"]) (fun _ _ _ _ _ _ us hl => match us, hl with | [_, _, _], _ => rfl)
  have b_law_odd_sign_1 : Binds K fd_law_odd_sign _ [] := D_law_odd_sign.bindsN (ps := ["_law_draws"]) (fun _ _ _ _ _ _ us hl => match us, hl with | [_], _ => rfl)
  have b_Book_read_2 : Binds K fd_Book_read _ [] := D_Book_read.bindsN (ps := ["cls", "text"]) (fun _ _ _ _ _ _ us hl => match us, hl with | [_, _], _ => rfl)
  have b_law_lines_of_1 : Binds K fd_law_lines_of _ [] := D_law_lines_of.bindsN (ps := ["_law_rules"]) (fun _ _ _ _ _ _ us hl => match us, hl with | [_], _ => rfl)
  have b_law_try_make_3 : Binds K fd_law_try_make _ [] := D_law_try_make.bindsN (ps := ["_law_book", "_law_text", "_law_steps"]) (fun _ _ _ _ _ _ us hl => match us, hl with | [_, _, _], _ => rfl)
  have b_Book_written_1 : Binds K fd_Book_written _ [] := D_Book_written.bindsN (ps := ["self"]) (fun _ _ _ _ _ _ us hl => match us, hl with | [_], _ => rfl)
  have b_law_is_int_1 : Binds K fd_law_is_int _ [] := D_law_is_int.bindsN (ps := ["_law_value"]) (fun _ _ _ _ _ _ us hl => match us, hl with | [_], _ => rfl)
  have b_Book_drop_2 : Binds K fd_Book_drop _ [] := D_Book_drop.bindsN (ps := ["self", "number"]) (fun _ _ _ _ _ _ us hl => match us, hl with | [_, _], _ => rfl)
  have b_law_fine_4 : Binds K fd_law_fine _ [] := D_law_fine.bindsN (ps := ["_law_play", "_law_text", "_law_steps", "_law_rows"]) (fun _ _ _ _ _ _ us hl => match us, hl with | [_, _, _, _], _ => rfl)
  obtain ⟨fd, F⟩ := T.F_law
  refine ⟨fd, F.ok sc_law (fun vs H Q E h => h.1) (fun cdv A outer s H vs Q E hr h => ⟨t_law K E, ?_, h.2⟩), F⟩
  exact (pss_cons (ps_set (i := 1) sc_law.nd rfl (by first | exact Or.inl rfl | exact Or.inr rfl) (pe_callSD G_law_pool (hr.mono (by decide)) rfl T.g__law_pool D_law_pool.kp b_law_pool_1 .nil (fun σ => passAt (takes_of rfl rfl rfl rfl) σ) (pa_cons (pv 0) pa_nil))) (pss_cons (ps_set (i := 2) sc_law.nd rfl (by first | exact Or.inl rfl | exact Or.inr rfl) (pe_callSD G_law_alphabet (hr.mono (by decide)) rfl T.g__law_alphabet D_law_alphabet.kp b_law_alphabet_2 .nil (fun σ => passAt (takes_of rfl rfl rfl rfl) σ) (pa_cons (pv 1) (pa_cons pe_int pa_nil)))) (pss_cons (ps_set (i := 3) sc_law.nd rfl (by first | exact Or.inl rfl | exact Or.inr rfl) (pe_callSD G_law_book_of (hr.mono (by decide)) rfl T.g__law_book_of D_law_book_of.kp b_law_book_of_2 .nil (fun σ => passAt (takes_of rfl rfl rfl rfl) σ) (pa_cons (pv 1) (pa_cons (pv 2) pa_nil)))) (pss_cons (ps_set (i := 4) sc_law.nd rfl (by first | exact Or.inl rfl | exact Or.inr rfl) (pe_callSD G_law_word_of (hr.mono (by decide)) rfl T.g__law_word_of D_law_word_of.kp b_law_word_of_4 .nil (fun σ => passAt (takes_of rfl rfl rfl rfl) σ) (pa_cons (pv 1) (pa_cons (pv 2) (pa_cons pe_int (pa_cons pe_int pa_nil)))))) (pss_cons (by first | (refine ps_setLc (i := 5) (own := [("_law_sign", 17)]) rfl sc_law.nd rfl rfl ?e ?f ?g ?h ?i ?j; (case e => exact sw_true rfl rfl rfl (by decide +kernel)); (case f => exact (pi_str (pv 4))); (case g => exact (blkOk_by (own := [("_law_sign", 17)]) (N := N_law) (sc := defScope s_law) (by decide +kernel))); (case h => exact (fun _ _ _ _ _ => (pg_name (i := 17) sc_law.nd rfl (by first | exact Or.inl rfl | exact Or.inr rfl)))); (case i => exact (fun _ _ _ _ _ => pts_nil)); (case j => exact (fun _ _ _ _ _ => (pe_tup (pa_cons (pv 17) (pa_cons pe_int pa_nil)))))) | exact (ps_set (i := 5) sc_law.nd rfl (by first | exact Or.inl rfl | exact Or.inr rfl) (pe_lc (own := [("_law_sign", 17)]) rfl sc_law.nd (pi_str (pv 4)) (blkOk_by (own := [("_law_sign", 17)]) (N := N_law) (sc := defScope s_law) (by decide +kernel)) (fun _ _ _ _ _ => (pg_name (i := 17) sc_law.nd rfl (by first | exact Or.inl rfl | exact Or.inr rfl))) (fun _ _ _ _ _ => pts_nil) (fun _ _ _ _ _ => (pe_tup (pa_cons (pv 17) (pa_cons pe_int pa_nil))))))) (pss_cons (ps_set (i := 6) sc_law.nd rfl (by first | exact Or.inl rfl | exact Or.inr rfl) (pe_lst (pa_cons (pv 5) pa_nil))) (pss_cons (ps_set (i := 7) sc_law.nd rfl (by first | exact Or.inl rfl | exact Or.inr rfl) (pe_lst pa_nil)) (pss_cons (ps_for (passes_of rfl) rfl (pi_range1 rfl T.f_range (pa_cons (pe_callSD G_law_pick (hr.mono (by decide)) rfl T.g__law_pick D_law_pick.kp b_law_pick_2 .nil (fun σ => passAt (takes_of rfl rfl rfl rfl) σ) (pa_cons (pv 1) (pa_cons pe_int pa_nil))) pa_nil)) (pg_name (i := 8) sc_law.nd rfl (by first | exact Or.inl rfl | exact Or.inr rfl)) (pss_cons (ps_set (i := 13) sc_law.nd rfl (by first | exact Or.inl rfl | exact Or.inr rfl) (pe_callSD G_law_open_steps (hr.mono (by decide)) rfl T.g__law_open_steps D_law_open_steps.kp b_law_open_steps_2 .nil (fun σ => passAt (takes_of rfl rfl rfl rfl) σ) (pa_cons (pv 5) (pa_cons (pv 3) pa_nil)))) (pss_cons (ps_if (pt_cmpR (op_eqA hr) (pv 13) (pe_lst pa_nil) (nomark _)) (pss_one ps_break) pss_nil) (pss_cons (ps_set (i := 14) sc_law.nd rfl (by first | exact Or.inl rfl | exact Or.inr rfl) (pe_ix ix_seq (pv 13) (pe_callSD G_law_pick (hr.mono (by decide)) rfl T.g__law_pick D_law_pick.kp b_law_pick_2 .nil (fun σ => passAt (takes_of rfl rfl rfl rfl) σ) (pa_cons (pv 1) (pa_cons (pe_callB c_len rfl T.f_len (by decide +kernel) (pa_cons (pv 13) pa_nil)) pa_nil))) (fun _ _ => rfl))) (pss_cons (ps_expr (pe_bm PySem.F.plainAttrs_list PySem.F.slot_list_append PySem.F.type_list_append mt_append (pv 7) (pa_cons (pv 14) pa_nil))) (pss_cons (ps_set (i := 5) sc_law.nd rfl (by first | exact Or.inl rfl | exact Or.inr rfl) (pe_callSD G_law_take (hr.mono (by decide)) rfl T.g__law_take D_law_take.kp b_law_take_3 .nil (fun σ => passAt (takes_of rfl rfl rfl rfl) σ) (pa_cons (pv 5) (pa_cons (pe_ix ix_seq (pv 3) (pe_ix ix_seq (pv 14) pe_int (fun _ _ => rfl)) (fun _ _ => rfl)) (pa_cons (pe_ix ix_seq (pv 14) pe_int (fun _ _ => rfl)) pa_nil))))) (pss_one (ps_expr (pe_bm PySem.F.plainAttrs_list PySem.F.slot_list_append PySem.F.type_list_append mt_append (pv 6) (pa_cons (pv 5) pa_nil)))))))))) (pss_cons (ps_set (i := 9) sc_law.nd rfl (by first | exact Or.inl rfl | exact Or.inr rfl) (pe_tup (pa_cons pe_str (pa_cons pe_int pa_nil)))) (pss_cons (ps_if (pt_cmpR (op_eqA hr) (pe_callSD G_law_pick (hr.mono (by decide)) rfl T.g__law_pick D_law_pick.kp b_law_pick_2 .nil (fun σ => passAt (takes_of rfl rfl rfl rfl) σ) (pa_cons (pv 1) (pa_cons pe_int pa_nil))) pe_int (nomark _)) (pss_cons (ps_set (i := 15) sc_law.nd rfl (by first | exact Or.inl rfl | exact Or.inr rfl) (pe_callSD G_law_bad_step (hr.mono (by decide)) rfl T.g__law_bad_step D_law_bad_step.kp b_law_bad_step_3 .nil (fun σ => passAt (takes_of rfl rfl rfl rfl) σ) (pa_cons (pv 1) (pa_cons (pv 5) (pa_cons (pv 3) pa_nil))))) (pss_one (ps_if (pt_cmpR (op_notInD (Room.u65 hr)) (pv 15) (pe_callSD G_law_open_steps (hr.mono (by decide)) rfl T.g__law_open_steps D_law_open_steps.kp b_law_open_steps_2 .nil (fun σ => passAt (takes_of rfl rfl rfl rfl) σ) (pa_cons (pv 5) (pa_cons (pv 3) pa_nil))) (by rfl)) (pss_cons (ps_set (i := 9) sc_law.nd rfl (by first | exact Or.inl rfl | exact Or.inr rfl) (pe_tup (pa_cons pe_str (pa_cons (pe_callB c_len rfl T.f_len (by decide +kernel) (pa_cons (pv 7) pa_nil)) pa_nil)))) (pss_one (ps_set (i := 7) sc_law.nd rfl (by first | exact Or.inl rfl | exact Or.inr rfl) (pe_op op_addA (pv 7) (pe_lst (pa_cons (pv 15) (pa_cons (pe_tup (pa_cons pe_int (pa_cons pe_int pa_nil))) pa_nil))))))) pss_nil))) pss_nil) (pss_cons (ps_if (pt_cmpR (op_eqA hr) (pe_callSD G_law_pick (hr.mono (by decide)) rfl T.g__law_pick D_law_pick.kp b_law_pick_2 .nil (fun σ => passAt (takes_of rfl rfl rfl rfl) σ) (pa_cons (pv 1) (pa_cons pe_int pa_nil))) pe_int (nomark _)) (pss_cons (ps_set (i := 16) sc_law.nd rfl (by first | exact Or.inl rfl | exact Or.inr rfl) (pe_callSD G_law_pick (hr.mono (by decide)) rfl T.g__law_pick D_law_pick.kp b_law_pick_2 .nil (fun σ => passAt (takes_of rfl rfl rfl rfl) σ) (pa_cons (pv 1) (pa_cons (pe_op op_addA (pe_callB c_len rfl T.f_len (by decide +kernel) (pa_cons (pv 4) pa_nil)) pe_int) pa_nil)))) (pss_cons (ps_set (i := 4) sc_law.nd rfl (by first | exact Or.inl rfl | exact Or.inr rfl) (pe_op op_addA (pe_op op_addA (pe_slice sl_A (pv 4) po_none (po_some (pv 16))) (pe_callSD G_law_odd_sign (hr.mono (by decide)) rfl T.g__law_odd_sign D_law_odd_sign.kp b_law_odd_sign_1 .nil (fun σ => passAt (takes_of rfl rfl rfl rfl) σ) (pa_cons (pv 1) pa_nil))) (pe_slice sl_A (pv 4) (po_some (pv 16)) po_none))) (pss_one (ps_set (i := 9) sc_law.nd rfl (by first | exact Or.inl rfl | exact Or.inr rfl) (pe_tup (pa_cons pe_str (pa_cons (pv 16) pa_nil))))))) pss_nil) (pss_cons (ps_set (i := 10) sc_law.nd rfl (by first | exact Or.inl rfl | exact Or.inr rfl) (pe_cmS (pe_glob rfl T.g_Book rfl) T.cm_Book_read (G_Book_read.rawN b_Book_read_2) (hr.mono (by decide)) (fun σ => passAt (takes_of rfl rfl rfl rfl) σ) (pa_cons (pe_callSD G_law_lines_of (hr.mono (by decide)) rfl T.g__law_lines_of D_law_lines_of.kp b_law_lines_of_1 .nil (fun σ => passAt (takes_of rfl rfl rfl rfl) σ) (pa_cons (pv 3) pa_nil)) pa_nil))) (pss_cons (ps_set (i := 11) sc_law.nd rfl (by first | exact Or.inl rfl | exact Or.inr rfl) (pe_callTy c_list rfl T.f_list (by decide +kernel) (pa_cons (pv 7) pa_nil))) (pss_cons (ps_set (i := 12) sc_law.nd rfl (by first | exact Or.inl rfl | exact Or.inr rfl) (pe_callSD G_law_try_make (hr.mono (by decide)) rfl T.g__law_try_make D_law_try_make.kp b_law_try_make_3 .nil (fun σ => passAt (takes_of rfl rfl rfl rfl) σ) (pa_cons (pv 10) (pa_cons (pv 4) (pa_cons (pv 11) pa_nil))))) (pss_cons (ps_if (PW.pt (pw_or (pt_cmpR (op_neA hr) (pe_ix ix_seq (pv 12) pe_int (fun _ _ => rfl)) (pe_ix ix_seq (pv 9) pe_int (fun _ _ => rfl)) (nomark _)) (pw_or (pt_cmpR (op_neA hr) (pv 11) (pv 7) (nomark _)) (pw_or1 (pt_cmpR (op_neA hr) (pe_meth0Z (pv 10) T.c_Book T.m_Book_written G_Book_written (hr.mono (by decide)) b_Book_written_1 .nil (fun σ => passAt (takes_of rfl rfl rfl rfl) σ)) (pe_callSD G_law_lines_of (hr.mono (by decide)) rfl T.g__law_lines_of D_law_lines_of.kp b_law_lines_of_1 .nil (fun σ => passAt (takes_of rfl rfl rfl rfl) σ) (pa_cons (pv 3) pa_nil)) (nomark _)))))) (pss_one (ps_ret pe_bl)) pss_nil) (pss_cons (ps_if (pt_cmpR (op_neA hr) (pe_ix ix_seq (pv 9) pe_int (fun _ _ => rfl)) pe_str (nomark _)) (pss_one (ps_ret (pe_and (pe_callSD G_law_is_int (hr.mono (by decide)) rfl T.g__law_is_int D_law_is_int.kp b_law_is_int_1 .nil (fun σ => passAt (takes_of rfl rfl rfl rfl) σ) (pa_cons (pe_ix ix_seq (pv 12) pe_int (fun _ _ => rfl)) pa_nil)) (pe_one (pe_cmpR (op_eqA hr) (pe_ix ix_seq (pv 12) pe_int (fun _ _ => rfl)) (pe_ix ix_seq (pv 9) pe_int (fun _ _ => rfl)) (nomark _)))))) pss_nil) (pss_cons (ps_expr (pe_bm PySem.F.plainAttrs_list PySem.F.slot_list_insert PySem.F.type_list_insert mt_insertA (pv 11) (pa_cons pe_int (pa_cons (pe_tup (pa_cons pe_int (pa_cons pe_int pa_nil))) pa_nil)))) (pss_cons (ps_if (pt_cmpR (op_neA hr) (pv 3) (pe_lst pa_nil) (nomark _)) (pss_one (ps_expr (pe_methZ (pv 10) T.c_Book T.m_Book_drop G_Book_drop (hr.mono (by decide)) b_Book_drop_2 .nil (fun σ => passAt (takes_of rfl rfl rfl rfl) σ) (pa_cons pe_int pa_nil)))) pss_nil) (pss_one (ps_ret (pe_and (pe_callSD G_law_fine (hr.mono (by decide)) rfl T.g__law_fine D_law_fine.kp b_law_fine_4 .nil (fun σ => passAt (takes_of rfl rfl rfl rfl) σ) (pa_cons (pe_ix ix_seq (pv 12) pe_int (fun _ _ => rfl)) (pa_cons (pv 4) (pa_cons (pv 7) (pa_cons (pv 6) pa_nil))))) (pe_one (pe_callSD G_law_fine (hr.mono (by decide)) rfl T.g__law_fine D_law_fine.kp b_law_fine_4 .nil (fun σ => passAt (takes_of rfl rfl rfl rfl) σ) (pa_cons (pe_ix ix_seq (pv 12) pe_int (fun _ _ => rfl)) (pa_cons (pv 4) (pa_cons (pv 7) (pa_cons (pv 6) pa_nil)))))))))))))))))))))))))))
end
theorem txt_of {K : Frg} {h : Heap} {mg : Str → Option Value} (KX : K.In h) (G : h.Ns mainGlobals mg) (c : Rz.SaysR fa fn K) : Txt PROG K mg where
  f_abs := He.free_ok KX G (c.fact 0)
  f_int := He.free_ok KX G (c.fact 1)
  f_range := He.free_ok KX G (c.fact 2)
  F_law_pool := c.fun_ 0
  g__law_pool := He.glo_ok KX G (c.fact 3)
  F_law_pick := c.fun_ 1
  f_len := He.free_ok KX G (c.fact 4)
  g__law_pick := He.glo_ok KX G (c.fact 5)
  F_law_alphabet := c.fun_ 2
  g__law_alphabet := He.glo_ok KX G (c.fact 6)
  F_law_word_of := c.fun_ 3
  g__law_word_of := He.glo_ok KX G (c.fact 7)
  F_law_book_of := c.fun_ 4
  g__law_book_of := He.glo_ok KX G (c.fact 8)
  f_min := He.free_ok KX G (c.fact 9)
  F_law_take := c.fun_ 5
  g__law_take := He.glo_ok KX G (c.fact 10)
  f_max := He.free_ok KX G (c.fact 11)
  F_law_top := c.fun_ 6
  g__law_top := He.glo_ok KX G (c.fact 12)
  F_law_open_steps := c.fun_ 7
  g__law_open_steps := He.glo_ok KX G (c.fact 13)
  F_law_bad_step := c.fun_ 8
  g__law_bad_step := He.glo_ok KX G (c.fact 14)
  F_law_odd_sign := c.fun_ 9
  g__law_odd_sign := He.glo_ok KX G (c.fact 15)
  ty_Row := Rz.tyB_ok (c.fact 16)
  f_bytes := He.free_ok KX G (c.fact 17)
  f_isinstance := He.free_ok KX G (c.fact 18)
  F_as_string := c.fun_ 10
  g_as_string := He.glo_ok KX G (c.fact 19)
  f_enumerate := He.free_ok KX G (c.fact 20)
  xb_BadLine := Rz.excB_ok (c.fact 21)
  n_BadLine_line := He.noat_ok (c.fact 22)
  x_BadLine := ⟨(Rz.excB_ok (c.fact 21)).1, He.noat_ok (c.fact 22), _, _, _, _, _, ("line" : Str), _, _, _, _, _, _, _, _, _, _, _, _, (Rz.iniB_ok (c.fact 23) (by decide +kernel) rfl (c.def_ 47).1 (c.def_ 47).2 rfl rfl), ⟨⟨rfl, by decide +kernel, by decide +kernel, by decide +kernel, ⟨_, rfl, rfl⟩, by decide +kernel⟩, by decide +kernel, by decide +kernel, by decide +kernel⟩, fun _ _ => ⟨_, rfl, rfl⟩, rfl, rfl, fun _ _ _ _ _ _ _ _ _ _ => rfl⟩
  f_super := He.free_ok KX G (c.fact 24)
  g_BadLine := He.glo_ok KX G (c.fact 25)
  k_SIGNS := He.str_ok KX G (c.fact 26)
  xb_BadSign := Rz.excB_ok (c.fact 27)
  n_BadSign_at := He.noat_ok (c.fact 28)
  x_BadSign := ⟨(Rz.excB_ok (c.fact 27)).1, He.noat_ok (c.fact 28), _, _, _, _, _, ("at" : Str), _, _, _, _, _, _, _, _, _, _, _, _, (Rz.iniB_ok (c.fact 29) (by decide +kernel) rfl (c.def_ 48).1 (c.def_ 48).2 rfl rfl), ⟨⟨rfl, by decide +kernel, by decide +kernel, by decide +kernel, ⟨_, rfl, rfl⟩, by decide +kernel⟩, by decide +kernel, by decide +kernel, by decide +kernel⟩, fun _ _ => ⟨_, rfl, rfl⟩, rfl, rfl, fun _ _ _ _ _ _ _ _ _ _ => rfl⟩
  g_BadSign := He.glo_ok KX G (c.fact 30)
  F_check_text := c.fun_ 11
  g_check_text := He.glo_ok KX G (c.fact 31)
  k_MOST_SIGNS := He.int_ok KX G (c.fact 32)
  xb_BadRule := Rz.excB_ok (c.fact 33)
  x_BadRule := ⟨(Rz.excB_ok (c.fact 33)).1, _, _, _, _, _, _, _, _, _, _, _, _, _, (Rz.iniB_ok (c.fact 34) (by decide +kernel) rfl (c.def_ 49).1 (c.def_ 49).2 rfl rfl), ⟨rfl, by decide +kernel, by decide +kernel, by decide +kernel, ⟨_, rfl, rfl⟩, by decide +kernel⟩, fun _ _ => ⟨_, rfl, rfl⟩, rfl, rfl, fun _ _ _ _ _ _ _ _ _ => rfl⟩
  g_BadRule := He.glo_ok KX G (c.fact 35)
  n_Rule_left := He.noat_ok (c.fact 36)
  c_Rule := He.cls_ok (c.fact 37)
  n_Rule_right := He.noat_ok (c.fact 38)
  F_Rule_init := c.fun_ 12
  mk_Rule := He.mkr_ok (c.fact 39)
  g_Rule := He.glo_ok KX G (c.fact 40)
  g_RiseError := He.glo_ok KX G (c.fact 41)
  n_Book_rules := He.noat_ok (c.fact 42)
  c_Book := He.cls_ok (c.fact 43)
  k_MOST_RULES := He.int_ok KX G (c.fact 44)
  xb_BookFull := Rz.excB_ok (c.fact 45)
  x_BookFull := ⟨(Rz.excB_ok (c.fact 45)).1, _, _, _, _, _, _, _, _, _, _, _, _, _, (Rz.iniB_ok (c.fact 46) (by decide +kernel) rfl (c.def_ 50).1 (c.def_ 50).2 rfl rfl), ⟨rfl, by decide +kernel, by decide +kernel, by decide +kernel, ⟨_, rfl, rfl⟩, by decide +kernel⟩, fun _ _ => ⟨_, rfl, rfl⟩, rfl, rfl, fun _ _ _ _ _ _ _ _ _ => rfl⟩
  g_BookFull := He.glo_ok KX G (c.fact 47)
  F_Book_add := c.fun_ 13
  m_Book_add := He.meth_ok (c.fact 48)
  F_Book_init := c.fun_ 14
  mk_Book := He.mkr_ok (c.fact 49)
  F_Book_read := c.fun_ 15
  F_law_lines_of := c.fun_ 16
  g__law_lines_of := He.glo_ok KX G (c.fact 50)
  cm_Book_read := Rz.cmB_ok (c.fact 51)
  g_Book := He.glo_ok KX G (c.fact 52)
  f_list := He.free_ok KX G (c.fact 53)
  f_iter := He.free_ok KX G (c.fact 54)
  F_Book_iter := c.fun_ 17
  F_Book_len := c.fun_ 18
  m_Book___iter__ := He.meth_ok (c.fact 55)
  m_Book___len__ := He.meth_ok (c.fact 56)
  n_Play_book := He.noat_ok (c.fact 57)
  c_Play := He.cls_ok (c.fact 58)
  n_Play_text := He.noat_ok (c.fact 59)
  n_Play_taken := He.noat_ok (c.fact 60)
  xb_Uneven := Rz.excB_ok (c.fact 61)
  x_Uneven := ⟨(Rz.excB_ok (c.fact 61)).1, _, _, _, _, _, _, _, _, _, _, _, _, _, (Rz.iniB_ok (c.fact 62) (by decide +kernel) rfl (c.def_ 51).1 (c.def_ 51).2 rfl rfl), ⟨rfl, by decide +kernel, by decide +kernel, by decide +kernel, ⟨_, rfl, rfl⟩, by decide +kernel⟩, fun _ _ => ⟨_, rfl, rfl⟩, rfl, rfl, fun _ _ _ _ _ _ _ _ _ => rfl⟩
  g_Uneven := He.glo_ok KX G (c.fact 63)
  k_TOP := He.int_ok KX G (c.fact 64)
  xb_BadHeight := Rz.excB_ok (c.fact 65)
  n_BadHeight_height := He.noat_ok (c.fact 66)
  x_BadHeight := ⟨(Rz.excB_ok (c.fact 65)).1, He.noat_ok (c.fact 66), _, _, _, _, _, ("height" : Str), _, _, _, _, _, _, _, _, _, _, _, _, (Rz.iniB_ok (c.fact 67) (by decide +kernel) rfl (c.def_ 52).1 (c.def_ 52).2 rfl rfl), ⟨⟨rfl, by decide +kernel, by decide +kernel, by decide +kernel, ⟨_, rfl, rfl⟩, by decide +kernel⟩, by decide +kernel, by decide +kernel, by decide +kernel⟩, fun _ _ => ⟨_, rfl, rfl⟩, rfl, rfl, fun _ _ _ _ _ _ _ _ _ _ => rfl⟩
  g_BadHeight := He.glo_ok KX G (c.fact 68)
  f_zip := He.free_ok KX G (c.fact 69)
  n_Row_pairs := He.noat_ok (c.fact 70)
  c_Row := He.cls_ok (c.fact 71)
  F_Row_init := c.fun_ 19
  mk_Row := He.mkr_ok (c.fact 72)
  g_Row := He.glo_ok KX G (c.fact 73)
  xb_BadBound := Rz.excB_ok (c.fact 74)
  n_BadBound_most := He.noat_ok (c.fact 75)
  x_BadBound := ⟨(Rz.excB_ok (c.fact 74)).1, He.noat_ok (c.fact 75), _, _, _, _, _, ("most" : Str), _, _, _, _, _, _, _, _, _, _, _, _, (Rz.iniB_ok (c.fact 76) (by decide +kernel) rfl (c.def_ 53).1 (c.def_ 53).2 rfl rfl), ⟨⟨rfl, by decide +kernel, by decide +kernel, by decide +kernel, ⟨_, rfl, rfl⟩, by decide +kernel⟩, by decide +kernel, by decide +kernel, by decide +kernel⟩, fun _ _ => ⟨_, rfl, rfl⟩, rfl, rfl, fun _ _ _ _ _ _ _ _ _ _ => rfl⟩
  g_BadBound := He.glo_ok KX G (c.fact 77)
  F_check_bound := c.fun_ 20
  g_check_bound := He.glo_ok KX G (c.fact 78)
  xb_NoRule := Rz.excB_ok (c.fact 79)
  n_NoRule_number := He.noat_ok (c.fact 80)
  x_NoRule := ⟨(Rz.excB_ok (c.fact 79)).1, He.noat_ok (c.fact 80), _, _, _, _, _, ("number" : Str), _, _, _, _, _, _, _, _, _, _, _, _, (Rz.iniB_ok (c.fact 81) (by decide +kernel) rfl (c.def_ 54).1 (c.def_ 54).2 rfl rfl), ⟨⟨rfl, by decide +kernel, by decide +kernel, by decide +kernel, ⟨_, rfl, rfl⟩, by decide +kernel⟩, by decide +kernel, by decide +kernel, by decide +kernel⟩, fun _ _ => ⟨_, rfl, rfl⟩, rfl, rfl, fun _ _ _ _ _ _ _ _ _ _ => rfl⟩
  g_NoRule := He.glo_ok KX G (c.fact 82)
  F_Row_signs := c.fun_ 21
  p_Row_signs := Rz.propB_ok (c.fact 83)
  F_Rule_fits := c.fun_ 22
  m_Rule_fits := He.meth_ok (c.fact 84)
  xb_Mismatch := Rz.excB_ok (c.fact 85)
  n_Mismatch_at := He.noat_ok (c.fact 86)
  x_Mismatch := ⟨(Rz.excB_ok (c.fact 85)).1, He.noat_ok (c.fact 86), _, _, _, _, _, ("at" : Str), _, _, _, _, _, _, _, _, _, _, _, _, (Rz.iniB_ok (c.fact 87) (by decide +kernel) rfl (c.def_ 55).1 (c.def_ 55).2 rfl rfl), ⟨⟨rfl, by decide +kernel, by decide +kernel, by decide +kernel, ⟨_, rfl, rfl⟩, by decide +kernel⟩, by decide +kernel, by decide +kernel, by decide +kernel⟩, fun _ _ => ⟨_, rfl, rfl⟩, rfl, rfl, fun _ _ _ _ _ _ _ _ _ _ => rfl⟩
  g_Mismatch := He.glo_ok KX G (c.fact 88)
  F_Row_heights := c.fun_ 23
  p_Row_heights := Rz.propB_ok (c.fact 89)
  F_Rule_written_height := c.fun_ 24
  m_Rule_written_height := He.meth_ok (c.fact 90)
  xb_Beyond := Rz.excB_ok (c.fact 91)
  n_Beyond_height := He.noat_ok (c.fact 92)
  x_Beyond := ⟨(Rz.excB_ok (c.fact 91)).1, He.noat_ok (c.fact 92), _, _, _, _, _, ("height" : Str), _, _, _, _, _, _, _, _, _, _, _, _, (Rz.iniB_ok (c.fact 93) (by decide +kernel) rfl (c.def_ 56).1 (c.def_ 56).2 rfl rfl), ⟨⟨rfl, by decide +kernel, by decide +kernel, by decide +kernel, ⟨_, rfl, rfl⟩, by decide +kernel⟩, by decide +kernel, by decide +kernel, by decide +kernel⟩, fun _ _ => ⟨_, rfl, rfl⟩, rfl, rfl, fun _ _ _ _ _ _ _ _ _ _ => rfl⟩
  g_Beyond := He.glo_ok KX G (c.fact 94)
  xb_NoPlace := Rz.excB_ok (c.fact 95)
  n_NoPlace_at := He.noat_ok (c.fact 96)
  x_NoPlace := ⟨(Rz.excB_ok (c.fact 95)).1, He.noat_ok (c.fact 96), _, _, _, _, _, ("at" : Str), _, _, _, _, _, _, _, _, _, _, _, _, (Rz.iniB_ok (c.fact 97) (by decide +kernel) rfl (c.def_ 57).1 (c.def_ 57).2 rfl rfl), ⟨⟨rfl, by decide +kernel, by decide +kernel, by decide +kernel, ⟨_, rfl, rfl⟩, by decide +kernel⟩, by decide +kernel, by decide +kernel, by decide +kernel⟩, fun _ _ => ⟨_, rfl, rfl⟩, rfl, rfl, fun _ _ _ _ _ _ _ _ _ _ => rfl⟩
  g_NoPlace := He.glo_ok KX G (c.fact 98)
  F_Row_getitem := c.fun_ 25
  m_Row___getitem__ := He.meth_ok (c.fact 99)
  op_Row := Rz.opB_ok (c.fact 100)
  F_Row_add := c.fun_ 26
  m_Row___add__ := He.meth_ok (c.fact 101)
  F_Row_len := c.fun_ 27
  m_Row___len__ := He.meth_ok (c.fact 102)
  F_Rule_call := c.fun_ 28
  m_Rule___call__ := He.meth_ok (c.fact 103)
  F_Book_take := c.fun_ 29
  m_Book_take := He.meth_ok (c.fact 104)
  xb_BadPlay := Rz.excB_ok (c.fact 105)
  n_BadPlay_step := He.noat_ok (c.fact 106)
  x_BadPlay := ⟨(Rz.excB_ok (c.fact 105)).1, He.noat_ok (c.fact 106), _, _, _, _, _, ("step" : Str), _, _, _, _, _, _, _, _, _, _, _, _, (Rz.iniB_ok (c.fact 107) (by decide +kernel) rfl (c.def_ 58).1 (c.def_ 58).2 rfl rfl), ⟨⟨rfl, by decide +kernel, by decide +kernel, by decide +kernel, ⟨_, rfl, rfl⟩, by decide +kernel⟩, by decide +kernel, by decide +kernel, by decide +kernel⟩, fun _ _ => ⟨_, rfl, rfl⟩, rfl, rfl, fun _ _ _ _ _ _ _ _ _ _ => rfl⟩
  g_BadPlay := He.glo_ok KX G (c.fact 108)
  F_Play_init := c.fun_ 30
  mk_Play := He.mkr_ok (c.fact 109)
  g_Play := He.glo_ok KX G (c.fact 110)
  F_law_try_make := c.fun_ 31
  g__law_try_make := He.glo_ok KX G (c.fact 111)
  F_Rule_str := c.fun_ 32
  m_Rule___str__ := He.meth_ok (c.fact 112)
  f_str := He.free_ok KX G (c.fact 113)
  F_Book_written := c.fun_ 33
  m_Book_written := He.meth_ok (c.fact 114)
  f_bool := He.free_ok KX G (c.fact 115)
  F_law_is_int := c.fun_ 34
  g__law_is_int := He.glo_ok KX G (c.fact 116)
  F_Book_drop := c.fun_ 35
  m_Book_drop := He.meth_ok (c.fact 117)
  F_Play_len := c.fun_ 36
  m_Play___len__ := He.meth_ok (c.fact 118)
  F_Play_iter := c.fun_ 37
  m_Play___iter__ := He.meth_ok (c.fact 119)
  f_tuple := He.free_ok KX G (c.fact 120)
  F_Play_rows := c.fun_ 38
  m_Play_rows := He.meth_ok (c.fact 121)
  F_Row_iter := c.fun_ 39
  m_Row___iter__ := He.meth_ok (c.fact 122)
  F_Row_abs := c.fun_ 40
  m_Row___abs__ := He.meth_ok (c.fact 123)
  F_law_shows := c.fun_ 41
  g__law_shows := He.glo_ok KX G (c.fact 124)
  F_is_sign := c.fun_ 42
  g_is_sign := He.glo_ok KX G (c.fact 125)
  F_Row_setitem := c.fun_ 43
  m_Row___setitem__ := He.meth_ok (c.fact 126)
  F_Play_end := c.fun_ 44
  m_Play_end := He.meth_ok (c.fact 127)
  F_law_fine := c.fun_ 45
  g__law_fine := He.glo_ok KX G (c.fact 128)
  F_law := c.fun_ 46
  g_law := He.glo_ok KX G (c.fact 129)
  e_BadLine_RiseError := He.exm_ok (c.fact 130)
  e_BadLine_BadSign := He.exm_ok (c.fact 131)
  e_BadLine_BadPlay := He.exm_ok (c.fact 132)
  e_BadSign_RiseError := He.exm_ok (c.fact 133)
  e_BadSign_BadSign := He.exm_ok (c.fact 134)
  e_BadSign_BadPlay := He.exm_ok (c.fact 135)
  e_BadRule_RiseError := He.exm_ok (c.fact 136)
  e_BadRule_BadSign := He.exm_ok (c.fact 137)
  e_BadRule_BadPlay := He.exm_ok (c.fact 138)
  e_BookFull_RiseError := He.exm_ok (c.fact 139)
  e_BookFull_BadSign := He.exm_ok (c.fact 140)
  e_BookFull_BadPlay := He.exm_ok (c.fact 141)
  e_Uneven_RiseError := He.exm_ok (c.fact 142)
  e_Uneven_BadSign := He.exm_ok (c.fact 143)
  e_Uneven_BadPlay := He.exm_ok (c.fact 144)
  e_BadHeight_RiseError := He.exm_ok (c.fact 145)
  e_BadHeight_BadSign := He.exm_ok (c.fact 146)
  e_BadHeight_BadPlay := He.exm_ok (c.fact 147)
  e_BadBound_RiseError := He.exm_ok (c.fact 148)
  e_BadBound_BadSign := He.exm_ok (c.fact 149)
  e_BadBound_BadPlay := He.exm_ok (c.fact 150)
  e_NoRule_RiseError := He.exm_ok (c.fact 151)
  e_NoRule_BadSign := He.exm_ok (c.fact 152)
  e_NoRule_BadPlay := He.exm_ok (c.fact 153)
  e_Mismatch_RiseError := He.exm_ok (c.fact 154)
  e_Mismatch_BadSign := He.exm_ok (c.fact 155)
  e_Mismatch_BadPlay := He.exm_ok (c.fact 156)
  e_Beyond_RiseError := He.exm_ok (c.fact 157)
  e_Beyond_BadSign := He.exm_ok (c.fact 158)
  e_Beyond_BadPlay := He.exm_ok (c.fact 159)
  e_NoPlace_RiseError := He.exm_ok (c.fact 160)
  e_NoPlace_BadSign := He.exm_ok (c.fact 161)
  e_NoPlace_BadPlay := He.exm_ok (c.fact 162)
  e_BadPlay_RiseError := He.exm_ok (c.fact 163)
  e_BadPlay_BadSign := He.exm_ok (c.fact 164)
  e_BadPlay_BadPlay := He.exm_ok (c.fact 165)
/- law: level 10, top 46 of 47 -/
end Lw

namespace Lw
open PySem PySem.Spec PyProof.Rows L2
/-! heaps -/
/-- all but what stands at d is as it was -/
def Keep (d : Addr) (H H' : Hp) : Prop := ∀ b o, b ≠ d → H b = some o → H' b = some o
theorem Keep.refl {d : Addr} {H : Hp} : Keep d H H := fun _ _ _ h => h
theorem Keep.trans {d : Addr} {H H1 H2 : Hp} (a : Keep d H H1) (b : Keep d H1 H2) : Keep d H H2 := fun c o n h => b c o n (a c o n h)
theorem Keep.new {d p : Addr} {H : Hp} {o : HO} (h : H p = none) : Keep d H (upd H p o) := fun b u _ e => by rw [upd_ne (ne_of_none e h)]; exact e
theorem Keep.at_ {d : Addr} {H : Hp} {o : HO} : Keep d H (upd H d o) := fun b u n e => by rw [upd_ne n]; exact e
theorem Keep.free {d p : Addr} {H H' : Hp} (k : Keep d H H') (hp : p ≠ d) (h : H' p = none) : H p = none := by
  cases e : H p with
  | none => rfl
  | some o => rw [k p o hp e] at h; cases h
theorem Keep.same {d : Addr} {H H' : Hp} (s : Same H H') : Keep d H H' := fun b o _ e => s b o e
theorem Same.new {p : Addr} {H : Hp} {o : HO} (h : H p = none) : Same H (upd H p o) := fun b u e => by rw [upd_ne (ne_of_none e h)]; exact e
/-- the draws: a list of ints at d, at most 4000 -/
def DrL (H : Hp) (d : Addr) : Prop := ∃ ds : List Int, ds.length ≤ 4000 ∧ H d = some (.lst (ds.map V.int))
theorem DrL.same {H H' : Hp} {d : Addr} (h : DrL H d) (s : Same H H') : DrL H' d := let ⟨ds, a, b⟩ := h; ⟨ds, a, s _ _ b⟩
theorem small2 {n : Nat} (h : n ≤ 16777216) : n ≤ sizeLine := by rw [sizeLine_eq]; exact h
theorem nilData {K : Frg} {H : Hp} {p : Addr} (h : H p = some (.lst [])) : Dp K H (.ref p) (.list []) := .lst (SqL.of h) .nil
theorem intsData {K : Frg} {H : Hp} : ∀ ds : List Int, DpAll K H (ds.map V.int) (ds.map PyData.int)
  | [] => .nil
  | i :: r => .cons (.int i) (intsData r)
theorem canLay_ints : ∀ ds : List Int, PyData.canLayAll0 (ds.map PyData.int) = true
  | [] => by simp [PyData.canLayAll0]
  | i :: r => by simp [PyData.canLayAll0, PyData.canLay0, canLay_ints r]
theorem depth_ints : ∀ ds : List Int, PyData.depthAll (ds.map PyData.int) = 0
  | [] => by simp [PyData.depthAll]
  | i :: r => by simp [PyData.depthAll, PyData.depth, depth_ints r]
theorem shaped_ints (ds : List Int) : SeqAt.shaped (.list (ds.map PyData.int)) = true := by
  simp [SeqAt.shaped, PyData.canLay0, canLay_ints, PyData.depth, depth_ints]
theorem eqv_nil (ds : List Int) : PyData.eqv (.list (ds.map PyData.int)) (.list []) = ds.isEmpty := by
  cases ds <;> simp [PyData.eqv, PyData.eqvAll]
theorem rd_bm {K : Frg} {T : String} {r : V → List V → Hp → VK → Prop} {to : TE} {t : TA} {σ : L2.St} {H : Hp} {Q : VK} (h : to σ H fun x H1 => tyV K T x H1 ∧ t σ H1 fun xs H2 => r x xs H2 Q) : tBM K T r to t σ H Q := h
theorem tyL {K : Frg} {H : Hp} {a : Addr} {xs : List V} (h : H a = some (.lst xs)) : tyV K "list" (.ref a) H := Or.inl ⟨rfl, _, Or.inl (Or.inl h)⟩
theorem append_go {H : Hp} {l : Addr} {xs : List V} {y : V} {Q : VK} (h : H l = some (.lst xs)) (hz : xs.length < 16777216) (q : Q .non (upd H l (.lst (xs ++ [y])))) : rAppend (.ref l) [y] H Q := ⟨l, xs, y, rfl, rfl, h, by rw [sizeLine_eq]; exact hz, q⟩
theorem mapI_app (ds : List Int) (i : Int) : ds.map V.int ++ [V.int i] = (ds ++ [i]).map V.int := by simp
theorem getI {ns : List Int} {i : Nat} {x : V} (h : (ns.map V.int)[i]? = some x) : ∃ z, ns[i]? = some z ∧ x = .int z := by
  rw [List.getElem?_map] at h
  cases e : ns[i]? with
  | none => rw [e] at h; cases h
  | some z => rw [e] at h; exact ⟨z, rfl, (Option.some.inj h).symm⟩
theorem rd_for {wi : TI} {g : TG} {tb : TS} {D : Ends} {σ : L2.St} {H : Hp} (h : wi σ H fun J H1 => ∃ W : Nat → Nat → L2.St → Hp → Prop, (∃ m, W 0 m σ H1) ∧ ∀ i m σ H, W i m σ H →
  (J.stop i H ∧ D.nx σ H) ∨ (J.go i H ∧ ∃ N : L2.St → Hp → Prop, (∀ σ' H', N σ' H' → ∃ m', m' < m ∧ W (i + 1) m' σ' H') ∧ ∀ x H', J.yld i H x H' → g x σ H' fun σ2 H2 => tb { D with nx := N, ct := N, bk := D.nx } σ2 H2)) : tFor wi g tb D σ H := h
theorem rd_rng1 {ta : TA} {σ : L2.St} {H : Hp} {R : It → Hp → Prop} (h : ta σ H fun vs H1 => ∃ j : Int, vs = [.int j] ∧ -(2 ^ 62) ≤ j ∧ j < 2 ^ 62 ∧ R (Itr 0 j.toNat) H1) : iRng1 ta σ H R := h
theorem rd_iList {K : Frg} {tl : TE} {σ : L2.St} {H : Hp} {R : It → Hp → Prop} (h : tl σ H fun x H1 => ∃ a, x = .ref a ∧ (∃ xs, SqL K H1 a xs) ∧ R (Itl K a) H1) : iList K tl σ H R := h
theorem mulS {i j : Int} (h1 : -1000000 ≤ j) (h2 : j ≤ 1000000) : CMul i j := .inr ⟨by omega, by omega⟩
theorem mulS' {i j : Int} (h1 : -1000000 ≤ i) (h2 : i ≤ 1000000) : CMul i j := .inl ⟨by omega, by omega⟩
theorem rd_enumS {ta : TA} {σ : L2.St} {H : Hp} {R : It → Hp → Prop} (h : ta σ H fun vs H1 => ∃ x, vs = [.str x] ∧ R (Ites x) H1) : iEnumS ta σ H R := h
theorem rd_gtup {K : Frg} {n : Nat} {t : TGs} {a : Addr} {xs : List V} {σ : L2.St} {H : Hp} {Q : L2.St → Hp → Prop} (h : H a = some (.tup xs)) (hl : xs.length = n) (q : t xs σ H Q) : gTup K n t (.ref a) σ H Q := ⟨a, xs, rfl, SqT.of h, hl, q⟩
theorem rd_gcons {t : TG} {u : TGs} {v : V} {r : List V} {σ : L2.St} {H : Hp} {Q : L2.St → Hp → Prop} (h : t v σ H fun σ' H' => u r σ' H' Q) : gCons t u (v :: r) σ H Q := ⟨v, r, rfl, h⟩
theorem rd_gnil {σ : L2.St} {H : Hp} {Q : L2.St → Hp → Prop} (h : Q σ H) : gNil [] σ H Q := ⟨rfl, h⟩
theorem rd_sfld {K : Frg} {ta tv : TE} {f : Str} {D : Ends} {σ : L2.St} {H : Hp} (h : tv σ H fun y H1 => ta σ H1 fun x H2 => ∃ a C dx fs, x = .ref a ∧ H2 a = some (.ins C dx fs) ∧ Cls K C ∧ NoAttr K C f ∧ fs.length < 1000 ∧ D.nx σ (upd H2 a (.ins C dx (putF f y fs)))) : sFld K ta tv f D σ H := h
theorem rd_m1 {r : V → List V → Hp → VK → Prop} {to te : TE} {σ : L2.St} {H : Hp} {Q : VK} (h : to σ H fun x H1 => (∃ a, x = .str a) ∧ te σ H1 fun y H2 => r x [y] H2 Q) : tM1 r to te σ H Q := h
theorem rd_lc {wi : TI} {g : TG} {tt : TT} {te : TE} {vs : List Nat} {σ : L2.St} {H : Hp} {Q : VK} (h : wi σ H fun J H1 => ∀ D, H1 D = none → ∃ W : Nat → Nat → Hp → Prop, (∃ m, W 0 m (upd H1 D (.lst []))) ∧ ∀ i m H, W i m H →
  (J.stop i H ∧ Q (.ref D) H) ∨ (J.go i H ∧ ∃ Nx : Hp → Prop, (∀ H', Nx H' → ∃ m', m' < m ∧ W (i + 1) m' H') ∧ ∀ x H', J.yld i H x H' → g x (wipe σ vs) H' fun σ2 H2 => wipe σ2 vs = wipe σ vs ∧ tt σ2 H2 fun b H3 =>
    if b = true then te σ2 H3 fun y H4 => ∃ acc, H4 D = some (.lst acc) ∧ acc.length < sizeLine ∧ Nx (upd H4 D (.lst (acc ++ [y]))) else Nx H3)) : tLc wi g tt te vs σ H Q := h
theorem rd_make {C : Addr} {sp : Sp} {dvs : List V} {EE : L2.St → XK} {tl : TA} {σ : L2.St} {H : Hp} {Q : VK} (h : tl σ H fun vs H1 => ∀ y dx, H1 y = none → H1 dx = none → dx ≠ y → sp (.ref y :: (vs ++ dvs)) (upd (upd H1 dx (.own y)) y (.ins C dx [])) (fun v H2 => v = .non ∧ Q (.ref y) H2) (EE σ)) :
    tMakeS C sp dvs EE tl σ H Q := h
theorem rd_fld {K : Frg} {ta : TE} {f : Str} {σ : L2.St} {H : Hp} {Q : VK} (h : ta σ H fun x H1 => ∃ a C dx fs v, x = .ref a ∧ H1 a = some (.ins C dx fs) ∧ Cls K C ∧ NoAttr K C f ∧ fs.lookup f = some v ∧ Q v H1) : tFld K ta f σ H Q := h
theorem rd_strO {C : Addr} {sp : Sp} {EE : L2.St → XK} {tl : TA} {σ : L2.St} {H : Hp} {Q : VK} (h : tl σ H fun vs H1 => ∃ a dx fs, vs = [.ref a] ∧ H1 a = some (.ins C dx fs) ∧ sp [.ref a] H1 (fun v H' => ∃ z, v = .str z ∧ Q (.str z) H') (EE σ)) : tStrO C sp EE tl σ H Q := h
theorem rd_xf {a : Addr} {cls : Value} {d : Option Addr} {C : Addr} {f : Str} {te : TE} {σ : L2.St} {H : Hp} {Q : VK} (h : te σ H fun x H1 => x = .ref a ∧ cls = .ref C ∧ ∃ (dd : Addr) (fs : List (Str × V)) (v : V), d = some dd ∧ H1 dd = some (.xd fs) ∧ fs.lookup f = some v ∧ Q v H1) : tXf a cls d C f te σ H Q := h
theorem rd_fmt {te : TE} {σ : L2.St} {H : Hp} {Q : VK} (h : te σ H fun x H1 => (∃ y : Str, x = .str y ∧ y.length ≤ sizeLine ∧ Q (.str y) H1) ∨ ∃ i : Int, x = .int i ∧ i.natAbs.log2 < 1920 ∧ Q (.str (toString i)) H1) : tFmt te σ H Q := h
theorem rd_prop {C : Addr} {sp : Sp} {dvs : List V} {E : XK} {ta : TE} {σ : L2.St} {H : Hp} {Q : VK} (h : ta σ H fun x H1 => ∃ a dx fs, x = .ref a ∧ H1 a = some (.ins C dx fs) ∧ sp (.ref a :: dvs) H1 Q E) : tProp C sp dvs E ta σ H Q := h
theorem rd_meth {C : Addr} {m : Str} {sp : Sp} {dvs : List V} {EE : L2.St → XK} {ta : TE} {tl : TA} {σ : L2.St} {H : Hp} {Q : VK} (h : ta σ H fun y H1 => ∃ a dx fs, y = .ref a ∧ H1 a = some (.ins C dx fs) ∧ fs.lookup m = none ∧ tl σ H1 fun vs H2 => sp (y :: (vs ++ dvs)) H2 Q (EE σ)) : tMethZ C m sp dvs EE ta tl σ H Q := h
/-- an exception at the clauses -/
theorem mix_hit {K : Frg} {W : WX} {D : Ends} {q : Clause} {r : List Clause} {cls : Value} {d : Option Addr} {σ : L2.St} {H : Hp} (e : PySem.W.exmOne K cls q.c = some true) (h : ∀ a, H a = none → q.does cls d D σ H a) : wMix K W D (q :: r) cls d σ H :=
  ⟨true, e, fun _ => h, fun z => Bool.noConfusion z⟩
theorem mix_miss {K : Frg} {W : WX} {D : Ends} {q : Clause} {r : List Clause} {cls : Value} {d : Option Addr} {σ : L2.St} {H : Hp} (e : PySem.W.exmOne K cls q.c = some false) (h : wMix K W D r cls d σ H) : wMix K W D (q :: r) cls d σ H :=
  ⟨false, e, fun z => Bool.noConfusion z, fun _ => h⟩
theorem rd_tjs {t : TE} {ts : List TE} {acc : Str} {σ : L2.St} {H : Hp} {R : Str → Hp → Prop} (h : t σ H fun x H1 => ∃ y : Str, x = .str y ∧ (acc ++ y).length ≤ sizeLine ∧ tJs ts (acc ++ y) σ H1 R) : tJs (t :: ts) acc σ H R := h
theorem rd_tjs0 {acc : Str} {σ : L2.St} {H : Hp} {R : Str → Hp → Prop} (h : R acc H) : tJs [] acc σ H R := h
theorem rd_iteB {b : Bool} {A B : Prop} (e : b = true) (h : A) : if b = true then A else B := by rw [e]; exact h
theorem rd_iteC {b : Bool} {A B : Prop} (e : b = false) (h : B) : if b = true then A else B := by rw [e]; exact h
theorem does_some {c : Value} {i : Nat} {ts : TSu} {cls : Value} {d : Option Addr} {D : Ends} {σ : L2.St} {H : Hp} {a : Addr} (h : ts a cls d (D.drop i) (σ.set i (some (.ref a))) H) : (Clause.mk c (some i) ts).does cls d D σ H a := h
theorem does_none {c : Value} {ts : TSu} {cls : Value} {d : Option Addr} {D : Ends} {σ : L2.St} {H : Hp} {a : Addr} (h : ts a cls d D σ H) : (Clause.mk c none ts).does cls d D σ H a := h
/-! texts as lists of codes -/
def tx (l : List Nat) : Str := ⟨l.toArray⟩
theorem tx_toList (l : List Nat) : (tx l).cps.toList = l := by simp [tx]
theorem tx_self (z : Str) : tx z.cps.toList = z := by obtain ⟨c⟩ := z; simp [tx]
theorem tx_len (l : List Nat) : (tx l).length = l.length := by simp [tx, Str.length]
theorem tx_one (c : Nat) : tx [c] = ⟨#[c]⟩ := rfl
theorem tx_inj {l m : List Nat} : tx l = tx m ↔ l = m := ⟨fun h => by have := congrArg (fun z : Str => z.cps.toList) h; simpa [tx] using this, fun h => by rw [h]⟩
theorem tx_app (l m : List Nat) : tx l ++ tx m = tx (l ++ m) := by
  show (⟨l.toArray ++ m.toArray⟩ : Str) = _
  simp [tx]
theorem joinL_nil : ∀ ps : List (List Nat), TL.joinL [] ps = ps.flatten
  | [] => rfl
  | [p] => by simp [TL.joinL]
  | p :: q :: r => by
    show p ++ ([] ++ TL.joinL [] (q :: r)) = _
    rw [joinL_nil (q :: r)]
    simp
theorem flat_one : ∀ cs : List Nat, (cs.map fun c => [c]).flatten = cs
  | [] => rfl
  | c :: r => by rw [List.map_cons, List.flatten_cons, flat_one r]; rfl
theorem join_tx (ps : List (List Nat)) : Txt.join (Str.ofString "") (ps.map tx) = tx ps.flatten := by
  rw [TL.join_eq]
  have h := TL.tl_join (Str.ofString "") (ps.map tx)
  have e : (ps.map tx).map TL.tl = ps := by
    rw [List.map_map]
    conv => rhs; rw [← List.map_id ps]
    apply List.map_congr_left
    intro l _
    exact tx_toList l
  rw [e, show TL.tl (Str.ofString "") = [] from rfl, joinL_nil] at h
  rw [← h]
  exact (tx_self _).symm
theorem sIx_none (n d : Nat) : HT.sIx n d none = d := rfl
theorem sIx_nat (n d k : Nat) (h : k ≤ n) : HT.sIx n d (some (k : Int)) = k := by
  rw [HT.sIx_nat]
  omega
theorem cut_to (l : List Nat) (k : Nat) (h : k ≤ l.length) : cutS (tx l) none (some (k : Int)) = tx (l.take k) := by
  unfold cutS
  rw [tx_toList, tx_len, sIx_none, sIx_nat _ _ _ h]
  rfl
theorem cut_from (l : List Nat) (k : Nat) (h : k ≤ l.length) : cutS (tx l) (some (k : Int)) none = tx (l.drop k) := by
  unfold cutS
  rw [tx_toList, tx_len, sIx_none, sIx_nat _ _ _ h]
  rw [List.take_of_length_le (by rw [List.length_drop]; exact Nat.le_refl _)]
  rfl
theorem cut_mid (l : List Nat) (i j : Nat) (hi : i ≤ l.length) (hj : j ≤ l.length) : cutS (tx l) (some (i : Int)) (some (j : Int)) = tx ((l.drop i).take (j - i)) := by
  unfold cutS
  rw [tx_toList, tx_len, sIx_nat _ _ _ hi, sIx_nat _ _ _ hj]
  rfl
/-- the 26 letters -/
def letters : List Nat := (Str.ofString "abcdefghijklmnopqrstuvwxyz").cps.toList
/-- the first place that is no letter; -1 if there is none -/
def fo : List Nat → Int
  | [] => -1
  | c :: r => if c ∈ letters then (if fo r < 0 then -1 else fo r + 1) else 0
theorem fo_ge : ∀ l, -1 ≤ fo l
  | [] => Int.le_refl _
  | c :: r => by
    have := fo_ge r
    unfold fo
    split
    · split <;> omega
    · omega
/-- the first i are letters, and the next is none -/
theorem fo_at : ∀ (l : List Nat) (i : Nat) (c : Nat), (∀ (j x : Nat), j < i → l[j]? = some x → x ∈ letters) → l[i]? = some c → c ∉ letters → fo l = i
  | [], i, c, _, h, _ => by simp at h
  | x :: r, 0, c, _, h, hc => by
    have e : x = c := Option.some.inj h
    unfold fo
    rw [e, if_neg hc]
    rfl
  | x :: r, i + 1, c, hp, h, hc => by
    have hx : x ∈ letters := hp 0 x (Nat.succ_pos _) rfl
    have := fo_at r i c (fun j y hj e => hp (j + 1) y (Nat.succ_lt_succ hj) e) h hc
    unfold fo
    rw [if_pos hx, this, if_neg (by omega)]
    omega
theorem fo_none : ∀ (l : List Nat), (∀ (j x : Nat), l[j]? = some x → x ∈ letters) → fo l = -1
  | [], _ => rfl
  | x :: r, hp => by
    have hx : x ∈ letters := hp 0 x rfl
    have := fo_none r (fun j y e => hp (j + 1) y e)
    unfold fo
    rw [if_pos hx, this]
    rfl
theorem tx_get (l : List Nat) (i : Nat) : (tx l).cps[i]? = l[i]? := by simp [tx]
theorem rd_iteG {b : Bool} {A B : Prop} (h1 : b = true → A) (h2 : b = false → B) : if b = true then A else B := by cases b with | true => exact h1 rfl | false => exact h2 rfl
local macro_rules | `(tactic| walk_at "rd") => `(tactic| first
  | (with_reducible refine rd_seq ?_) | (with_reducible refine rd_asg ?_) | (with_reducible refine rd_name ?_) | (with_reducible refine rd_drop ?_) | (with_reducible refine rd_ret ?_) | (with_reducible refine rd_retN ?_) | (with_reducible refine rd_next ?_)
  | (with_reducible refine rd_ifS ?_)
  | ((with_reducible show tVar _ _ _ _); refine rd_var rfl ?_)
  | (with_reducible refine rd_c ?_) | (with_reducible refine rd_op ?_) | (with_reducible refine rd_un ?_) | (with_reducible refine rd_neg ?_) | (with_reducible refine rd_cb ?_) | (with_reducible refine rd_nil ?_) | (with_reducible refine rd_cons ?_)
  | (with_reducible refine rd_test ?_) | (with_reducible refine rd_tb ?_) | ((with_reducible show ∃ k, V.bl _ = V.bl k ∧ _); refine ⟨_, rfl, ?_⟩) | (with_reducible refine rd_and ?_) | (with_reducible refine rd_or ?_) | (with_reducible refine rd_not ?_)
  | (with_reducible refine rd_andV ?_) | (with_reducible refine rd_orV ?_) | (with_reducible refine rd_notV ?_) | (with_reducible refine rd_ifE ?_)
  | (with_reducible refine rd_tup ?_) | (with_reducible refine rd_lst ?_) | (with_reducible refine rd_call ?_) | (with_reducible refine rd_joined ?_)
  | (with_reducible refine rd_raise ?_) | (with_reducible refine rd_mkx ?_) | (with_reducible refine rd_mkx0 ?_) | (with_reducible refine rd_try ?_)
  | (with_reducible refine rd_sl ?_) | (with_reducible refine rd_nopart ?_) | (with_reducible refine rd_part ?_) | ((with_reducible show ∃ k, V.int _ = V.int k ∧ _); refine ⟨_, rfl, ?_⟩) | (with_reducible refine rd_chain ?_) | (with_reducible refine rd_yes ?_)
  | (with_reducible refine rd_iteT ?_) | (with_reducible refine rd_iteF ?_)
  | (with_reducible refine addA_int ?_) | (with_reducible refine i0_go ?_) | (with_reducible refine ltA_int ?_) | (with_reducible refine eqA_int ?_) | (with_reducible refine neA_int ?_) | (with_reducible refine eqA_str ?_) | (with_reducible refine neA_str ?_)
  | ((with_reducible refine mulA_int ?c ?_); case c => first | exact mulS (by omega) (by omega) | exact mulS' (by omega) (by omega))
  | ((with_reducible refine i_go ?c ?_); case c => first | ((with_reducible show (0 : Int) < _); omega) | exact ⟨by decide, by decide⟩ | exact ⟨by decide, by decide, by decide⟩)
  | (with_reducible refine intA_int ?_) | (with_reducible refine rd_bm ?_) | (with_reducible refine rd_for ?_) | (with_reducible refine rd_rng1 ?_) | (with_reducible refine rd_iList ?_) | (with_reducible refine rd_enumS ?_) | (with_reducible refine rd_gcons ?_) | (with_reducible refine rd_gnil ?_) | (with_reducible refine rd_sfld ?_) | (with_reducible refine rd_m1 ?_) | (with_reducible refine rd_lc ?_) | (with_reducible refine rd_make ?_) | (with_reducible refine rd_fld ?_)
  | (with_reducible refine rd_strO ?_) | (with_reducible refine rd_xf ?_) | (with_reducible refine rd_fmt ?_) | (with_reducible refine rd_prop ?_) | (with_reducible refine rd_meth ?_) | (with_reducible refine does_some ?_) | (with_reducible refine does_none ?_) | ((with_reducible show List.length _ ≤ sizeLine ∧ _); refine ⟨small2 (by simp), ?_⟩)
  | (with_reducible refine rd_tjs ?_) | (with_reducible refine rd_tjs0 ?_))
local macro_rules | `(tactic| walk_at "go") => `(tactic| repeat walk_at "rd")
local macro_rules | `(tactic| walk_at "all") => `(tactic| repeat' (first
  | walk_at "rd"
  | ((with_reducible show if _ = true then _ else _); first | refine rd_iteB rfl ?_ | refine rd_iteC rfl ?_ | refine rd_ite (fun _ => ?_) (fun _ => ?_) | refine rd_iteN (fun _ => ?_) (fun _ => ?_) | refine rd_iteG (fun _ => ?_) (fun _ => ?_))))
variable {K : Frg}
theorem rd_iStr {te : TE} {σ : L2.St} {H : Hp} {R : It → Hp → Prop} (h : te σ H fun v H1 => ∃ x, v = .str x ∧ R (Its x) H1) : iStr te σ H R := h
theorem rd_zipS {K : Frg} {ta : TA} {σ : L2.St} {H : Hp} {Q : VK} (h : ta σ H fun vs H1 => rZipS K vs H1 Q) : tZipS K ta σ H Q := h
theorem rd_lenO {C : Addr} {sp : Sp} {E : L2.St → XK} {t : TA} {σ : L2.St} {H : Hp} {Q : VK} (h : t σ H fun vs H1 => rLenO C sp E σ vs H1 Q) : tLenO C sp E t σ H Q := h
theorem rd_absO {C : Addr} {sp : Sp} {E : L2.St → XK} {t : TA} {σ : L2.St} {H : Hp} {Q : VK} (h : t σ H fun vs H1 => ∃ a dx fs, vs = [.ref a] ∧ H1 a = some (.ins C dx fs) ∧ sp [.ref a] H1 Q (E σ)) : tAbsO C sp E t σ H Q := h
theorem rd_listO {C : Addr} {spI spL : Sp} {E : L2.St → XK} {t : TA} {σ : L2.St} {H : Hp} {Q : VK} (h : t σ H fun vs H1 => rListO C spI spL E σ vs H1 Q) : tListO C spI spL E t σ H Q := h
theorem rd_gsub {to ti : TE} {r : V → V → V → Hp → (Hp → Prop) → Prop} {σ : L2.St} {H : Hp} {v : V} {Q : L2.St → Hp → Prop} (h : to σ H fun x H1 => ti σ H1 fun i H2 => r x i v H2 fun H3 => Q σ H3) : gSub to ti r v σ H Q := h
local macro_rules | `(tactic| walk_at "rd") => `(tactic| first
  | (with_reducible refine rd_iStr ?_) | (with_reducible refine rd_zipS ?_) | (with_reducible refine rd_lenO ?_) | (with_reducible refine rd_absO ?_) | (with_reducible refine rd_listO ?_) | (with_reducible refine rd_gsub ?_))
theorem rd_tryF {c : Value} {i : Nat} {tmk : L2.St → Hp → XK → Prop} {Wout : WX} {tb : WX → TS} {D : Ends} {σ : L2.St} {H : Hp} (h : tb (wFrom K c i tmk Wout) D σ H) : tTryF K c i tmk Wout tb D σ H := h
local macro_rules | `(tactic| walk_at "rd") => `(tactic| (with_reducible refine rd_tryF ?_))
/-! the draws -/
theorem pick_ok {d : Addr} {m : Int} {H : Hp} {Q : VK} {E : XK} (hm : 0 < m) (hd : DrL H d) (h : ∀ r H', 0 ≤ r → r < m → Keep d H H' → DrL H' d → Q (.int r) H') : sp_law_pick K [.ref d, .int m] H Q E := by
  obtain ⟨ds, hl, hd⟩ := hd
  refine ⟨rfl, ?_⟩
  unfold t_law_pick
  walk_at "go"
  intro p hp
  have hdp : (upd H p (.lst [])) d = some (.lst (ds.map V.int)) := by rw [upd_ne (ne_of_none hd hp)]; exact hd
  refine eqA_data (.lst (SqL.of hdp) (intsData ds)) (nilData upd_same) (shaped_ints ds) (shaped_ints []) (eqv_nil ds) ⟨_, rfl, ?_⟩
  cases ds with
  | nil =>
    refine rd_iteT ?_
    walk_at "go"
    exact h 0 _ (by omega) hm (Keep.new hp) ⟨[], Nat.zero_le _, hdp⟩
  | cons i r =>
    refine rd_iteF ?_
    walk_at "go"
    refine ⟨tyL hdp, ?_⟩
    walk_at "go"
    refine ⟨d, _, 0, 0, .int i, rfl, rfl, hdp, by decide, by decide, ?_, rfl, ?_⟩
    · show seqIndex? 0 (List.length ((i :: r).map V.int)) = some 0
      simp [seqIndex?]
    · walk_at "go"
      refine h _ _ (Int.emod_nonneg _ (by omega)) (Int.emod_lt_of_pos _ hm) ((Keep.new hp).trans Keep.at_) ⟨r, Nat.le_of_succ_le hl, ?_⟩
      rw [upd_same]
      rfl

theorem pool_ok {a : Addr} {ns : List Int} {H : Hp} {Q : VK} {E : XK} (hS : SqL K H a (ns.map V.int)) (hn : ns.length ≤ 63) (h : ∀ d H', Same H H' → H d = none → DrL H' d → Q (.ref d) H') : sp_law_pool K [.ref a] H Q E := by
  refine ⟨rfl, ?_⟩
  unfold t_law_pool
  walk_at "go"
  intro d hd
  walk_at "go"
  refine ⟨a, rfl, ⟨_, (Same.new hd).seq hS⟩, ?_⟩
  refine for_list (K := K) (a := a) (xs := ns.map V.int) (fun i σ H2 => ∃ (seed : Int) (v3 v4 v5 v6 : Option V) (ds : List Int), σ = [some (.ref a), some (.ref d), some (.int seed), v3, v4, v5, v6] ∧ 0 ≤ seed ∧ seed < 1009 ∧ ds.length ≤ 60 * i ∧
    Same H H2 ∧ H2 d = some (.lst (ds.map V.int))) ⟨0, none, none, none, none, [], rfl, by omega, by omega, Nat.le_refl _, Same.new hd, upd_same⟩ (fun i σ H2 _ ⟨_, _, _, _, _, _, _, _, _, _, s2, _⟩ => s2.seq hS) ?_ ?_
  · rintro i x σ H2 hi ⟨seed, v3, v4, v5, v6, ds, rfl, h0, h1, hl, s2, e2⟩
    obtain ⟨z, hz, rfl⟩ := getI hi
    have hi63 : i < 63 := by have := (List.getElem?_eq_some_iff.mp hz).1; omega
    have free : ∀ {H3 : Hp}, H3 = upd H2 d (.lst (ds.map V.int)) → H3 = H2 := fun {H3} e => by
      rw [e]; funext b; by_cases hb : b = d
      · rw [hb, upd_same, e2]
      · rw [upd_ne hb]
    walk_at "go"
    refine ⟨z, rfl, ?_⟩
    walk_at "go"
    have n0 := Int.emod_nonneg (seed * 31 + (if z < 0 then -z else z)) (by decide : (1009 : Int) ≠ 0)
    have n1 := Int.emod_lt_of_pos (seed * 31 + (if z < 0 then -z else z)) (by decide : (0 : Int) < 1009)
    generalize (seed * 31 + (if z < 0 then -z else z)) % 1009 = seed' at n0 n1 ⊢
    generalize (if z < 0 then -z else z) = rest
    walk_at "go"
    refine rd_ite (fun hlt => ?_) (fun hge => ?_)
    · walk_at "go"
      refine ⟨tyL e2, ?_⟩
      walk_at "go"
      refine append_go e2 (by rw [List.length_map]; omega) ?_
      refine ⟨seed', _, _, _, _, ds ++ [rest], rfl, n0, n1, by rw [List.length_append, List.length_singleton]; omega, fun b o e => ?_, by rw [upd_same, mapI_app]⟩
      rw [upd_ne (ne_of_none e hd)]
      exact s2 b o e
    · walk_at "go"
      refine ⟨60, rfl, by decide, by decide, ?_⟩
      refine forR (n := 60) (fun k σ H3 => ∃ (v4 v5 : Option V) (r : Int) (es : List Int), σ = [some (.ref a), some (.ref d), some (.int seed'), some (.int z), v4, some (.int r), v6] ∧ es.length ≤ 60 * i + k ∧ Same H H3 ∧ H3 d = some (.lst (es.map V.int)))
        ⟨_, none, rest, ds, rfl, hl, s2, e2⟩ ?_ ?_
      · rintro k σ H3 hk ⟨v4', v5', r, es, rfl, hl3, s3, e3⟩
        walk_at "go"
        refine rd_ite (fun hlt => ?_) (fun hge => ?_)
        · walk_at "go"
          refine ⟨tyL e3, ?_⟩
          walk_at "go"
          refine append_go e3 (by rw [List.length_map]; omega) ?_
          walk_at "go"
          refine ⟨_, none, _, es ++ [r % 1000], rfl, by rw [List.length_append, List.length_singleton]; omega, fun b o e => ?_, by rw [upd_same, mapI_app]⟩
          rw [upd_ne (ne_of_none e hd)]
          exact s3 b o e
        · walk_at "go"
          exact ⟨_, none, r, es, rfl, by omega, s3, e3⟩
      · rintro σ H3 ⟨v4', v5', r, es, rfl, hl3, s3, e3⟩
        refine ⟨seed', _, _, _, _, es, rfl, n0, n1, ?_, s3, e3⟩
        have : (60 : Int).toNat = 60 := rfl
        omega
  · rintro σ H2 ⟨seed, v3, v4, v5, v6, ds, rfl, h0, h1, hl, s2, e2⟩
    rw [List.length_map] at hl
    walk_at "go"
    refine ⟨90, rfl, by decide, by decide, ?_⟩
    refine forR (n := 90) (fun k σ H3 => ∃ (v4 v6 : Option V) (es : List Int), σ = [some (.ref a), some (.ref d), some (.int seed), v3, v4, v5, v6] ∧ es.length ≤ 60 * ns.length + k ∧ Same H H3 ∧ H3 d = some (.lst (es.map V.int)))
      ⟨_, _, ds, rfl, hl, s2, e2⟩ ?_ ?_
    · rintro k σ H3 hk ⟨v4', v6', es, rfl, hl3, s3, e3⟩
      walk_at "go"
      generalize hw : ((seed + 1) * ((3 * (k : Int) * k + 5 * k) / 2 + 7)) % 1009 = w'
      have w0 : 0 ≤ w' := by rw [← hw]; exact Int.emod_nonneg _ (by decide)
      have w1 : w' < 1009 := by rw [← hw]; exact Int.emod_lt_of_pos _ (by decide)
      walk_at "go"
      refine ⟨tyL e3, ?_⟩
      walk_at "go"
      refine append_go e3 (by rw [List.length_map]; omega) ?_
      refine ⟨_, _, es ++ [(w' * w' + (k : Int)) % 1013], rfl, by rw [List.length_append, List.length_singleton]; omega, fun b o e => ?_, by rw [upd_same, mapI_app]⟩
      rw [upd_ne (ne_of_none e hd)]
      exact s3 b o e
    · rintro σ H3 ⟨v4', v6', es, rfl, hl3, s3, e3⟩
      walk_at "go"
      refine h d H3 s3 hd ⟨es, ?_, e3⟩
      have : (90 : Int).toNat = 90 := rfl
      omega
/-- check_text -/
theorem check_ok {l : List Nat} {H : Hp} {Q : VK} {E : XK} (h : fo l = -1 → ∀ H', Same H H' → Q .non H')
    (hE : 0 ≤ fo l → ∀ H' d, Same H H' → H' d = none → E (.ref (He.ga K "BadSign")) (some d) (upd H' d (.xd [("at", .int (fo l))]))) : sp_check_text K [.str (tx l)] H Q E := by
  refine ⟨rfl, ?_⟩
  unfold t_check_text
  walk_at "go"
  refine ⟨_, rfl, for_it walk_enumS (fun i σ H2 => Same H H2 ∧ (∃ v v', σ = [some (.str (tx l)), v, v']) ∧ ∀ (j x : Nat), j < i → l[j]? = some x → x ∈ letters) ⟨Same.refl _, ⟨none, none, rfl⟩, fun j x hj _ => absurd hj (Nat.not_lt_zero _)⟩ (fun _ _ _ _ _ => trivial) ?_ ?_⟩
  · rintro i x σ H2 H3 hi ⟨s2, ⟨v, v', rfl⟩, hp⟩ ⟨T, c, rfl, hT, hc, rfl⟩
    rw [tx_get] at hc
    refine rd_gtup upd_same rfl ?_
    walk_at "go"
    refine notInA_sign ?_
    walk_at "go"
    have s3 : Same H (upd H2 T (.tup [.int (i : Nat), .str ⟨#[c]⟩])) := s2.trans (Same.new hT)
    refine rd_iteN (fun hc' => ?_) (fun hc' => ?_)
    · have e := fo_at l i c hp hc hc'
      rw [e] at hE
      walk_at "go"
      exact ⟨_, rfl, fun d hd => hE (by omega) _ d s3 hd⟩
    · walk_at "go"
      refine ⟨s3, ⟨_, _, rfl⟩, fun j x hj e => ?_⟩
      by_cases hji : j = i
      · subst hji
        rw [hc] at e
        rw [← Option.some.inj e]
        exact hc'
      · exact hp j x (by omega) e
  · rintro σ H2 ⟨s2, _, hp⟩
    refine h (fo_none l fun j x e => hp j x ?_ e) H2 s2
    have := (List.getElem?_eq_some_iff.mp e).1
    show j < (tx l).cps.size
    simpa [tx] using this
/-! Row -/
/-- the pairs that stand in the list at D -/
def Prs (H : Hp) (D : Addr) (ps : List (Nat × Int)) : Prop := ∃ as : List Addr, H D = some (.lst (as.map V.ref)) ∧ as.length = ps.length ∧ ∀ (j : Nat) (a : Addr) (p : Nat × Int), as[j]? = some a → ps[j]? = some p → H a = some (.tup [.str (tx [p.1]), .int p.2])
theorem Prs.same {H H' : Hp} {D : Addr} {ps : List (Nat × Int)} (h : Prs H D ps) (s : Same H H') : Prs H' D ps := let ⟨as, a, b, c⟩ := h; ⟨as, s _ _ a, b, fun j x p e f => s _ _ (c j x p e f)⟩
theorem Prs.keep {H H' : Hp} {D e : Addr} {xs : List V} {ps : List (Nat × Int)} (h : Prs H D ps) (k : Keep e H H') (n : D ≠ e) (he : H e = some (.lst xs)) : Prs H' D ps := by
  obtain ⟨as, a, b, c⟩ := h
  refine ⟨as, k _ _ n a, b, fun j x p e1 e2 => k _ _ (fun q => ?_) (c j x p e1 e2)⟩
  have := c j x p e1 e2
  rw [q, he] at this
  cases this
def RowAt (K : Frg) (H : Hp) (y D : Addr) (ps : List (Nat × Int)) : Prop := (∃ dx, H y = some (.ins (He.ga K "Row") dx [("pairs", .ref D)])) ∧ Prs H D ps
theorem RowAt.same {H H' : Hp} {y D : Addr} {ps : List (Nat × Int)} (h : RowAt K H y D ps) (s : Same H H') : RowAt K H' y D ps := let ⟨⟨dx, a⟩, b⟩ := h; ⟨⟨dx, s _ _ a⟩, b.same s⟩
theorem RowAt.keep {H H' : Hp} {y D e : Addr} {xs : List V} {ps : List (Nat × Int)} (h : RowAt K H y D ps) (k : Keep e H H') (n : D ≠ e) (he : H e = some (.lst xs)) : RowAt K H' y D ps := by
  obtain ⟨⟨dx, a⟩, b⟩ := h
  exact ⟨⟨dx, k _ _ (fun q => by rw [q, he] at a; cases a) a⟩, b.keep k n he⟩
theorem look_pairs (v : V) : List.lookup ("pairs" : Str) [(("pairs" : Str), v)] = some v := by simp [List.lookup]
/-- the first height out of range -/
def badH (hs : List Int) : Option Int := hs.find? fun h => !decide (0 ≤ h ∧ h ≤ 9)
theorem badH_at : ∀ (hs : List Int) (i : Nat) (z : Int), (∀ (j : Nat) (x : Int), j < i → hs[j]? = some x → 0 ≤ x ∧ x ≤ 9) → hs[i]? = some z → ¬ (0 ≤ z ∧ z ≤ 9) → badH hs = some z
  | [], i, z, _, h, _ => by simp at h
  | x :: r, 0, z, _, h, hz => by
    have e : x = z := Option.some.inj h
    unfold badH
    rw [List.find?_cons_of_pos (by rw [e, decide_eq_false hz]; rfl), e]
  | x :: r, i + 1, z, hp, h, hz => by
    have hx := hp 0 x (Nat.succ_pos _) rfl
    have := badH_at r i z (fun j y hj e => hp (j + 1) y (Nat.succ_lt_succ hj) e) h hz
    unfold badH at this ⊢
    rw [List.find?_cons_of_neg (by rw [decide_eq_true hx]; decide), this]
theorem badH_none : ∀ (hs : List Int), (∀ (j : Nat) (x : Int), hs[j]? = some x → 0 ≤ x ∧ x ≤ 9) → badH hs = none
  | [], _ => rfl
  | x :: r, hp => by
    have hx := hp 0 x rfl
    have := badH_none r fun j y e => hp (j + 1) y e
    unfold badH at this ⊢
    rw [List.find?_cons_of_neg (by rw [decide_eq_true hx]; decide), this]
theorem as_string_ok {z : Str} {H : Hp} {Q : VK} {E : XK} (h : Q (.str z) H) : sp_as_string K [.str z] H Q E := by
  refine ⟨rfl, ?_⟩
  unfold t_as_string
  walk_at "go"
  refine isi_go (.ty _) (.base (.str _)) (kit_ty (r := false) (by decide +kernel)) ?_
  walk_at "all"
  exact h
theorem rep0 (n : Nat) : (List.replicate n [V.int 0]).flatten = (List.replicate n (0 : Int)).map V.int := by
  induction n with
  | zero => rfl
  | succ n ih => rw [List.replicate_succ, List.flatten_cons, ih, List.replicate_succ, List.map_cons]; rfl
theorem row_init_ok {P : Program} {mg : Str → Option Value} (T : Txt P K mg) {y dx : Addr} {l : List Nat} {hs : List Int} {hv : V} {H : Hp} {Q : VK} {E : XK} (hl : l.length ≤ 10000) (hh : hs.length ≤ 10000) (hy : H y = some (.ins (He.ga K "Row") dx []))
    (arg : (∃ b, hv = .ref b ∧ H b = some (.lst (hs.map V.int))) ∨ (hv = .non ∧ hs = List.replicate l.length 0))
    (h : fo l = -1 → hs.length = l.length → badH hs = none → ∀ D H', Keep y H H' → H D = none → H' y = some (.ins (He.ga K "Row") dx [("pairs", .ref D)]) → Prs H' D (l.zip hs) → Q .non H')
    (hE1 : 0 ≤ fo l → ∀ H' d, Same H H' → H' d = none → E (.ref (He.ga K "BadSign")) (some d) (upd H' d (.xd [("at", .int (fo l))])))
    (hE2 : fo l = -1 → hs.length ≠ l.length → ∀ H', Same H H' → E (.ref (He.ga K "Uneven")) none H')
    (hE3 : fo l = -1 → hs.length = l.length → ∀ z, badH hs = some z → ∀ H' d, Same H H' → H' d = none → E (.ref (He.ga K "BadHeight")) (some d) (upd H' d (.xd [("height", .int z)]))) :
    sp_Row_init K [.ref y, .str (tx l), hv] H Q E := by
  refine ⟨rfl, ?_⟩
  unfold t_Row_init
  walk_at "go"
  refine as_string_ok ?_
  walk_at "go"
  refine check_ok (fun e1 H1 s1 => ?_) hE1
  walk_at "go"
  refine ⟨rfl, ?_⟩
  rcases arg with ⟨b, rfl, hb0⟩ | ⟨rfl, er⟩
  · have hb := s1 _ _ hb0
    walk_at "all"
    have eL : (tx l).length = l.length := tx_len l
    refine lenA_lst (.of hb) ?_
    rw [List.length_map]
    walk_at "go"
    refine lenA_str (by rw [eL]; exact small2 (by omega)) ?_
    rw [eL]
    walk_at "go"
    refine rd_iteN (fun ne => ?_) (fun eq => ?_)
    · walk_at "go"
      exact hE2 e1 (by omega) _ s1
    · walk_at "go"
      have eq' : hs.length = l.length := by omega
      refine ⟨b, rfl, ⟨_, .of hb⟩, ?_⟩
      refine for_it (walk_list (xs := hs.map V.int)) (fun i σ H2 => Same H1 H2 ∧ (∃ v4, σ = [some (.ref y), some (.str (tx l)), some (.ref b), some (.str (tx l)), v4]) ∧ ∀ (j : Nat) (x : Int), j < i → hs[j]? = some x → 0 ≤ x ∧ x ≤ 9) ⟨Same.refl _, ⟨none, rfl⟩, fun j x hj _ => absurd hj (Nat.not_lt_zero _)⟩ (fun i σ H2 _ q => .of (q.1 _ _ hb)) ?_ ?_
      · rintro i x σ H2 H3 hi ⟨s2, ⟨v4, rfl⟩, hp⟩ ⟨rfl, hx⟩
        obtain ⟨z, hz, rfl⟩ := getI hx
        walk_at "go"
        refine rd_ite (fun c1 => ?_) (fun c1 => ?_)
        · walk_at "go"
          refine rd_iteN (fun c2 => ?_) (fun c2 => ?_)
          · walk_at "go"
            refine ⟨_, rfl, fun d hd => ?_⟩
            exact hE3 e1 eq' z (badH_at hs i z hp hz (by omega)) _ d (s1.trans s2) hd
          · walk_at "go"
            refine ⟨s2, ⟨_, rfl⟩, fun j x hj e => ?_⟩
            by_cases hji : j = i
            · subst hji
              rw [hz] at e
              have := Option.some.inj e
              omega
            · exact hp j x (by omega) e
        · walk_at "go"
          refine ⟨_, rfl, ?_⟩
          walk_at "go"
          refine ⟨_, rfl, fun d hd => ?_⟩
          exact hE3 e1 eq' z (badH_at hs i z hp hz (by omega)) _ d (s1.trans s2) hd
      · rintro σ H2 ⟨s2, ⟨v4, rfl⟩, hp⟩
        have ok := badH_none hs fun j x e => hp j x (by rw [List.length_map]; exact (List.getElem?_eq_some_iff.mp e).1) e
        walk_at "go"
        have s3 := s1.trans s2
        refine ⟨tx l, b, _, rfl, .of (s2 _ _ hb), by rw [List.length_map]; simp [tx]; omega, fun D as H4 k4 hD has hDas hlen eD pairs => ?_⟩
        have hy4 := k4 _ _ (s3 _ _ hy)
        have yD : D ≠ y := fun q => by rw [q, s3 _ _ hy] at hD; cases hD
        walk_at "go"
        refine ⟨y, _, dx, [], rfl, hy4, T.c_Row, T.n_Row_pairs, by decide, ?_⟩
        have free : H D = none := by
          cases e : H D with
          | none => rfl
          | some o => rw [s3 _ _ e] at hD; cases hD
        refine h e1 eq' ok D _ (fun c o n e => ?_) free upd_same ⟨as, ?_, ?_, ?_⟩
        · rw [upd_ne n]
          exact k4 _ _ (s3 _ _ e)
        · rw [upd_ne yD]; exact eD
        · rw [hlen, List.length_map, List.length_zip]; omega
        · rintro j a ⟨c, z⟩ ea ep
          obtain ⟨q1, q2⟩ := List.getElem?_zip_eq_some.mp ep
          have nay : a ≠ y := fun q => by
            have := has a (List.mem_of_getElem? ea)
            rw [q, s3 _ _ hy] at this
            cases this
          rw [upd_ne nay]
          exact pairs j a c (.int z) ea (by rw [tx_get]; exact q1) (by rw [List.getElem?_map, q2]; rfl)
  · walk_at "all"
    intro p hp
    have sp := Same.new (o := .lst [.int 0]) hp
    have hy1 := s1 _ _ hy
    walk_at "go"
    refine lenA_str (z := tx l) (by rw [tx_len]; exact small2 (by omega)) ?_
    rw [tx_len]
    refine .inr (.inl ⟨p, _, _, rfl, rfl, upd_same, by omega, by omega, by rw [List.length_singleton, sizeLine_eq]; omega, fun b hb9 => ?_⟩)
    rw [Int.toNat_natCast, rep0, ← er]
    have s1' := s1
    have s1 := (s1'.trans sp).trans (Same.new (o := .lst (hs.map V.int)) hb9)
    have hb : upd (upd H1 p (.lst [.int 0])) b (.lst (hs.map V.int)) b = some (.lst (hs.map V.int)) := upd_same
    generalize upd (upd H1 p (.lst [.int 0])) b (.lst (hs.map V.int)) = H1 at s1 hb
    walk_at "go"
    have eL : (tx l).length = l.length := tx_len l
    refine lenA_lst (.of hb) ?_
    rw [List.length_map]
    walk_at "go"
    refine lenA_str (by rw [eL]; exact small2 (by omega)) ?_
    rw [eL]
    walk_at "go"
    refine rd_iteN (fun ne => ?_) (fun eq => ?_)
    · walk_at "go"
      exact hE2 e1 (by omega) _ s1
    · walk_at "go"
      have eq' : hs.length = l.length := by omega
      refine ⟨b, rfl, ⟨_, .of hb⟩, ?_⟩
      refine for_it (walk_list (xs := hs.map V.int)) (fun i σ H2 => Same H1 H2 ∧ (∃ v4, σ = [some (.ref y), some (.str (tx l)), some (.ref b), some (.str (tx l)), v4]) ∧ ∀ (j : Nat) (x : Int), j < i → hs[j]? = some x → 0 ≤ x ∧ x ≤ 9) ⟨Same.refl _, ⟨none, rfl⟩, fun j x hj _ => absurd hj (Nat.not_lt_zero _)⟩ (fun i σ H2 _ q => .of (q.1 _ _ hb)) ?_ ?_
      · rintro i x σ H2 H3 hi ⟨s2, ⟨v4, rfl⟩, hp⟩ ⟨rfl, hx⟩
        obtain ⟨z, hz, rfl⟩ := getI hx
        walk_at "go"
        refine rd_ite (fun c1 => ?_) (fun c1 => ?_)
        · walk_at "go"
          refine rd_iteN (fun c2 => ?_) (fun c2 => ?_)
          · walk_at "go"
            refine ⟨_, rfl, fun d hd => ?_⟩
            exact hE3 e1 eq' z (badH_at hs i z hp hz (by omega)) _ d (s1.trans s2) hd
          · walk_at "go"
            refine ⟨s2, ⟨_, rfl⟩, fun j x hj e => ?_⟩
            by_cases hji : j = i
            · subst hji
              rw [hz] at e
              have := Option.some.inj e
              omega
            · exact hp j x (by omega) e
        · walk_at "go"
          refine ⟨_, rfl, ?_⟩
          walk_at "go"
          refine ⟨_, rfl, fun d hd => ?_⟩
          exact hE3 e1 eq' z (badH_at hs i z hp hz (by omega)) _ d (s1.trans s2) hd
      · rintro σ H2 ⟨s2, ⟨v4, rfl⟩, hp⟩
        have ok := badH_none hs fun j x e => hp j x (by rw [List.length_map]; exact (List.getElem?_eq_some_iff.mp e).1) e
        walk_at "go"
        have s3 := s1.trans s2
        refine ⟨tx l, b, _, rfl, .of (s2 _ _ hb), by rw [List.length_map]; simp [tx]; omega, fun D as H4 k4 hD has hDas hlen eD pairs => ?_⟩
        have hy4 := k4 _ _ (s3 _ _ hy)
        have yD : D ≠ y := fun q => by rw [q, s3 _ _ hy] at hD; cases hD
        walk_at "go"
        refine ⟨y, _, dx, [], rfl, hy4, T.c_Row, T.n_Row_pairs, by decide, ?_⟩
        have free : H D = none := by
          cases e : H D with
          | none => rfl
          | some o => rw [s3 _ _ e] at hD; cases hD
        refine h e1 eq' ok D _ (fun c o n e => ?_) free upd_same ⟨as, ?_, ?_, ?_⟩
        · rw [upd_ne n]
          exact k4 _ _ (s3 _ _ e)
        · rw [upd_ne yD]; exact eD
        · rw [hlen, List.length_map, List.length_zip]; omega
        · rintro j a ⟨c, z⟩ ea ep
          obtain ⟨q1, q2⟩ := List.getElem?_zip_eq_some.mp ep
          have nay : a ≠ y := fun q => by
            have := has a (List.mem_of_getElem? ea)
            rw [q, s3 _ _ hy] at this
            cases this
          rw [upd_ne nay]
          exact pairs j a c (.int z) ea (by rw [tx_get]; exact q1) (by rw [List.getElem?_map, q2]; rfl)
/-! what a row tells -/
theorem join_ok {L : Addr} {cs : List Nat} {H : Hp} {Q : VK} (eL : H L = some (.lst (cs.map fun c => V.str (tx [c])))) (hl : cs.length ≤ 10000) (h : Q (.str (tx cs)) H) : rJoinA K (.str (Str.ofString "")) [.ref L] H Q := by
  have e1 : (cs.map fun c => V.str (tx [c])) = ((cs.map fun c => [c]).map tx).map V.str := by simp
  refine ⟨_, L, (cs.map fun c => [c]).map tx, rfl, rfl, .inl (SqL.of (by rw [eL, e1])), ?_, ?_⟩
  · have hs : (((cs.map fun c => [c]).map tx).map fun x => x.length) = List.replicate cs.length 1 := by
      rw [List.map_map, List.map_map]
      apply List.eq_replicate_iff.mpr
      refine ⟨by simp, fun b hb => ?_⟩
      obtain ⟨c, _, rfl⟩ := List.mem_map.mp hb
      rfl
    rw [hs]
    simp
    show cs.length + cs.length * 0 ≤ 16777216
    omega
  · rw [join_tx, flat_one]
    exact h
theorem take_map {α β : Type} (f : α → β) (ps : List α) (i : Nat) (p : α) (h : ps[i]? = some p) : (ps.take i).map f ++ [f p] = (ps.take (i + 1)).map f := by
  have hi := (List.getElem?_eq_some_iff.mp h).1
  have e : ps[i] = p := (List.getElem?_eq_some_iff.mp h).2
  rw [List.take_succ_eq_append_getElem hi, List.map_append, List.map_singleton, e]
theorem prs_at {as : List Addr} {ps : List (Nat × Int)} {i : Nat} {x : V} (hl : as.length = ps.length) (h : (as.map V.ref)[i]? = some x) : ∃ a p, as[i]? = some a ∧ ps[i]? = some p ∧ x = .ref a := by
  rw [List.getElem?_map] at h
  cases e : as[i]? with
  | none => rw [e] at h; cases h
  | some a =>
    rw [e] at h
    have hi := (List.getElem?_eq_some_iff.mp e).1
    exact ⟨a, ps[i], rfl, List.getElem?_eq_getElem (by omega), (Option.some.inj h).symm⟩
theorem small3 {n : Nat} (h : n ≤ 10000) : n < sizeLine := by rw [sizeLine_eq]; omega
theorem row_heights_ok {P : Program} {mg : Str → Option Value} (T : Txt P K mg) {y D : Addr} {ps : List (Nat × Int)} {H : Hp} {Q : VK} {E : XK} (hn : ps.length ≤ 10000) (hy : RowAt K H y D ps)
    (h : ∀ L H', Same H H' → H L = none → H' L = some (.lst ((ps.map Prod.snd).map V.int)) → Q (.ref L) H') : sp_Row_heights K [.ref y] H Q E := by
  obtain ⟨⟨dx, hy⟩, as, hD, hl, hp⟩ := hy
  refine ⟨rfl, ?_⟩
  unfold t_Row_heights
  walk_at "go"
  refine ⟨y, _, dx, _, _, rfl, hy, T.c_Row, T.n_Row_pairs, look_pairs _, D, rfl, ⟨_, .of hD⟩, ?_⟩
  intro L hL
  refine lc_it (walk_list (K := K) (a := D) (xs := as.map V.ref)) (fun i H2 => Same H H2 ∧ H2 L = some (.lst (((ps.take i).map Prod.snd).map V.int))) ⟨Same.new hL, by rw [upd_same]; rfl⟩ (fun i H2 _ q => .of (q.1 _ _ hD)) ?_ ?_
  · rintro i x H2 H3 hi ⟨s2, eL⟩ ⟨rfl, hx⟩
    obtain ⟨a, p, ea, ep, rfl⟩ := prs_at hl hx
    refine rd_gtup (s2 _ _ (hp i a p ea ep)) rfl ?_
    walk_at "go"
    refine ⟨rfl, ?_⟩
    walk_at "go"
    refine ⟨_, eL, by rw [List.length_map, List.length_map, List.length_take]; exact small3 (by omega), fun b o e => ?_, ?_⟩
    · rw [upd_ne (ne_of_none e hL)]
      exact s2 b o e
    · rw [upd_same, mapI_app, take_map Prod.snd ps i p ep]
  · rintro H2 ⟨s2, eL⟩
    refine h L H2 s2 hL ?_
    rw [eL, List.length_map, hl, List.take_length]
theorem row_signs_ok {P : Program} {mg : Str → Option Value} (T : Txt P K mg) {y D : Addr} {ps : List (Nat × Int)} {H : Hp} {Q : VK} {E : XK} (hn : ps.length ≤ 10000) (hy : RowAt K H y D ps)
    (h : ∀ H', Same H H' → Q (.str (tx (ps.map Prod.fst))) H') : sp_Row_signs K [.ref y] H Q E := by
  obtain ⟨⟨dx, hy⟩, as, hD, hl, hp⟩ := hy
  refine ⟨rfl, ?_⟩
  unfold t_Row_signs
  walk_at "go"
  refine ⟨⟨_, rfl⟩, ?_⟩
  walk_at "go"
  refine ⟨y, _, dx, _, _, rfl, hy, T.c_Row, T.n_Row_pairs, look_pairs _, D, rfl, ⟨_, .of hD⟩, ?_⟩
  intro L hL
  refine lc_it (walk_list (K := K) (a := D) (xs := as.map V.ref)) (fun i H2 => Same H H2 ∧ H2 L = some (.lst (((ps.take i).map Prod.fst).map fun c => V.str (tx [c])))) ⟨Same.new hL, by rw [upd_same]; rfl⟩ (fun i H2 _ q => .of (q.1 _ _ hD)) ?_ ?_
  · rintro i x H2 H3 hi ⟨s2, eL⟩ ⟨rfl, hx⟩
    obtain ⟨a, p, ea, ep, rfl⟩ := prs_at hl hx
    refine rd_gtup (s2 _ _ (hp i a p ea ep)) rfl ?_
    walk_at "go"
    refine ⟨rfl, ?_⟩
    walk_at "go"
    refine ⟨_, eL, by rw [List.length_map, List.length_map, List.length_take]; exact small3 (by omega), fun b o e => ?_, ?_⟩
    · rw [upd_ne (ne_of_none e hL)]
      exact s2 b o e
    · rw [upd_same, ← take_map Prod.fst ps i p ep, List.map_append]
      rfl
  · rintro H2 ⟨s2, eL⟩
    refine join_ok (cs := ps.map Prod.fst) ?_ (by rw [List.length_map]; exact hn) (h H2 s2)
    rw [eL, List.length_map, hl, List.take_length]
theorem row_len_ok {P : Program} {mg : Str → Option Value} (T : Txt P K mg) {y D : Addr} {ps : List (Nat × Int)} {H : Hp} {Q : VK} {E : XK} (hy : RowAt K H y D ps) (h : Q (.int ps.length) H) : sp_Row_len K [.ref y] H Q E := by
  obtain ⟨⟨dx, hy⟩, as, hD, hl, hp⟩ := hy
  refine ⟨rfl, ?_⟩
  unfold t_Row_len
  walk_at "go"
  refine ⟨y, _, dx, _, _, rfl, hy, T.c_Row, T.n_Row_pairs, look_pairs _, ?_⟩
  walk_at "go"
  refine lenA_lst (.of hD) ?_
  rw [List.length_map, hl]
  exact h
theorem row_iter_ok {P : Program} {mg : Str → Option Value} (T : Txt P K mg) {y D : Addr} {ps : List (Nat × Int)} {H : Hp} {Q : VK} {E : XK} (hy : RowAt K H y D ps) (h : ∀ it, H it = none → Q (.ref it) (upd H it (ItO D it 0))) : sp_Row_iter K [.ref y] H Q E := by
  obtain ⟨⟨dx, hy⟩, as, hD, hl, hp⟩ := hy
  refine ⟨rfl, ?_⟩
  unfold t_Row_iter
  walk_at "go"
  refine ⟨y, _, dx, _, _, rfl, hy, T.c_Row, T.n_Row_pairs, look_pairs _, ?_⟩
  walk_at "go"
  exact ⟨D, _, rfl, .of hD, h⟩
/-- the greatest height, 0 if there is none -/
def topH (hs : List Int) : Int := hs.foldl max 0
theorem foldl_max : ∀ (hs : List Int) (m : Int), m ≤ hs.foldl max m ∧ (∀ x ∈ hs, x ≤ hs.foldl max m) ∧ (hs.foldl max m = m ∨ hs.foldl max m ∈ hs)
  | [], m => ⟨Int.le_refl _, (fun _ h => nomatch h), .inl rfl⟩
  | z :: r, m => by
    obtain ⟨h1, h2, h3⟩ := foldl_max r (max m z)
    have e1 : m ≤ max m z := Int.le_max_left ..
    have e2 : z ≤ max m z := Int.le_max_right ..
    refine ⟨Int.le_trans e1 h1, fun x hx => ?_, ?_⟩
    · rcases List.mem_cons.mp hx with q | q
      · rw [q]; exact Int.le_trans e2 h1
      · exact h2 x q
    · rcases h3 with h3 | h3
      · have : max m z = m ∨ max m z = z := by omega
        rcases this with q | q
        · left
          show r.foldl max (max m z) = m
          rw [h3, q]
        · right
          show r.foldl max (max m z) ∈ z :: r
          rw [h3, q]
          exact List.mem_cons_self
      · right
        exact List.mem_cons_of_mem _ h3
theorem max_ok {p : Addr} {hs : List Int} {H : Hp} {Q : VK} (hp : H p = some (.lst (V.int 0 :: hs.map V.int))) (h : Q (.int (topH hs)) H) : rMaxA K [.ref p] H Q := by
  refine ⟨p, 0 :: hs, rfl, .of hp, by simp, fun m hm hu => ?_⟩
  obtain ⟨h1, h2, h3⟩ := foldl_max hs 0
  have a1 : topH hs ∈ 0 :: hs := by
    rcases h3 with q | q
    · show hs.foldl max 0 ∈ 0 :: hs
      rw [q]; exact List.mem_cons_self
    · exact List.mem_cons_of_mem _ q
  have a2 := hu _ a1
  have a3 : m ≤ topH hs := by
    rcases List.mem_cons.mp hm with q | q
    · rw [q]; exact h1
    · exact h2 m q
  have : m = topH hs := by omega
  rw [this]
  exact h
theorem row_abs_ok {P : Program} {mg : Str → Option Value} (T : Txt P K mg) {y D : Addr} {ps : List (Nat × Int)} {H : Hp} {Q : VK} {E : XK} (hn : ps.length ≤ 10000) (hy : RowAt K H y D ps) (h : ∀ H', Same H H' → Q (.int (topH (ps.map Prod.snd))) H') : sp_Row_abs K [.ref y] H Q E := by
  refine ⟨rfl, ?_⟩
  unfold t_Row_abs
  walk_at "go"
  intro p hp
  have s0 := Same.new (o := .lst [.int 0]) hp
  walk_at "go"
  obtain ⟨dx, e1⟩ := (hy.same s0).1
  refine ⟨y, dx, _, rfl, e1, row_heights_ok T hn (hy.same s0) fun L H2 s2 hL eL => ?_⟩
  refine addA_lst (s2 _ _ upd_same) eL (by rw [List.length_map, List.length_map, List.length_singleton, sizeLine_eq]; omega) fun q hq => ?_
  walk_at "go"
  exact max_ok upd_same (h _ ((s0.trans s2).trans (Same.new hq)))
/-! whole numbers -/
theorem is_int_ok {i : Int} {H : Hp} {Q : VK} {E : XK} (h : Q (.bl true) H) : sp_law_is_int K [.int i] H Q E := by
  refine ⟨rfl, ?_⟩
  unfold t_law_is_int
  walk_at "go"
  refine isi_go (.ty _) (.base (.int i)) (kit_ty (r := true) (by decide +kernel)) ?_
  walk_at "all"
  refine isi_go (.ty _) (.base (.int i)) (kit_ty (r := false) (by decide +kernel)) ?_
  walk_at "go"
  exact h
/-! what the law sees of a row -/
theorem prs_get {H : Hp} {D : Addr} {ps : List (Nat × Int)} (h : Prs H D ps) {i : Nat} (hi : i < ps.length) : ∃ (as : List Addr) (a : Addr), H D = some (.lst (as.map V.ref)) ∧ atI (as.map V.ref) (i : Int) = some (.ref a) ∧ H a = some (.tup [.str (tx [ps[i].1]), .int ps[i].2]) := by
  obtain ⟨as, hD, hl, hp⟩ := h
  have h1 : i < as.length := by omega
  refine ⟨as, as[i], hD, atI_nat (by rw [List.getElem?_map, List.getElem?_eq_getElem h1]; rfl), hp i _ _ (List.getElem?_eq_getElem h1) (List.getElem?_eq_getElem hi)⟩
theorem pairData {H : Hp} {a : Addr} {z : Str} {i : Int} (h : H a = some (.tup [.str z, .int i])) : Dp K H (.ref a) (.tuple [.str z, .int i]) := .tup (SqT.of h) (.cons (.str _) (.cons (.int _) .nil))
theorem letters_small : ∀ c ∈ letters, c < 0x110000 := by decide +kernel
theorem fo_all : ∀ (l : List Nat), fo l = -1 → ∀ c ∈ l, c ∈ letters
  | [], _, _, h => nomatch h
  | x :: r, h, c, hc => by
    have g := fo_ge r
    unfold fo at h
    by_cases hx : x ∈ letters
    · rw [if_pos hx] at h
      have e : fo r = -1 := by split at h <;> omega
      rcases List.mem_cons.mp hc with q | q
      · rw [q]; exact hx
      · exact fo_all r e c q
    · rw [if_neg hx] at h
      cases h
theorem strOk_one {c : Nat} (h : c ∈ letters) : PyData.strOk (tx [c]) = true := by
  have := letters_small c h
  simp [PyData.strOk, tx, this]
theorem shaped_pair {z : Str} (i : Int) (h : PyData.strOk z = true) : SeqAt.shaped (.tuple [.str z, .int i]) = true := by simp [SeqAt.shaped, PyData.canLay0, PyData.canLayAll0, PyData.depth, PyData.depthAll, h]
theorem eqv_pair (z z' : Str) (i i' : Int) : PyData.eqv (.tuple [.str z, .int i]) (.tuple [.str z', .int i']) = decide (z = z' ∧ i = i') := by
  by_cases h1 : z = z'
  · by_cases h2 : i = i'
    · subst h1 h2; simp [PyData.eqv, PyData.eqvAll]
    · subst h1; simp [PyData.eqv, PyData.eqvAll, h2]
  · simp [PyData.eqv, PyData.eqvAll, h1]
theorem shows_ok {P : Program} {mg : Str → Option Value} (T : Txt P K mg) {y D M : Addr} {ps : List (Nat × Int)} {H : Hp} {Q : VK} {E : XK} (hn : ps.length ≤ 10000) (hc : ∀ p ∈ ps, p.1 ∈ letters) (hy : RowAt K H y D ps) (hM : Prs H M ps) (h : ∀ H', Same H H' → Q (.bl true) H') : sp_law_shows K [.ref y, .ref M] H Q E := by
  refine ⟨rfl, ?_⟩
  unfold t_law_shows
  walk_at "go"
  obtain ⟨dx, ey⟩ := hy.1
  refine isi_go (.own _) (Rz.tyX_own T.ty_Row ey) T.ty_Row.me ?_
  walk_at "all"
  refine ⟨y, dx, _, rfl, ey, row_signs_ok T hn hy fun H1 s1 => ?_⟩
  walk_at "go"
  refine isi_go (.ty _) (.base (.str _)) (kit_ty (r := true) (by decide +kernel)) ?_
  walk_at "all"
  refine ⟨y, dx, _, rfl, s1 _ _ ey, row_heights_ok T hn (hy.same s1) fun L1 H2 s2 _ eL1 => ?_⟩
  walk_at "go"
  refine isi_go (.ty _) (.base (.lst eL1)) (kit_ty (r := true) (by decide +kernel)) ?_
  walk_at "all"
  have s12 := s1.trans s2
  refine ⟨y, dx, _, rfl, s12 _ _ ey, fun q hq => row_iter_ok T ((hy.same s12).same (Same.new hq)) fun it hit => ?_⟩
  have sq := Same.new (o := .lst []) hq
  have si := Same.new (o := ItO D it 0) hit
  have hy3 := ((hy.same s12).same sq).same si
  obtain ⟨as, hD, hl, hp⟩ := (hy.same s12).2
  have Dq : D ≠ q := fun e => by rw [e, hq] at hD; cases hD
  have qit : it ≠ q := fun e => by rw [e, upd_same] at hit; cases hit
  refine ⟨D, it, as.map V.ref, dx, _, rfl, (si _ _ (sq _ _ (s12 _ _ ey))), upd_same, row_len_ok T hy3 ⟨_, rfl, by omega, by omega, si _ _ (sq _ _ hD), upd_same, si _ _ upd_same, Dq, fun H4 same eq => ?_⟩⟩
  have s4 : Same H H4 := fun b o e => by
    have e2 := s12 _ _ e
    rw [same b (fun z => by rw [z, hq] at e2; cases e2) (fun z => by have := sq _ _ e2; rw [z, hit] at this; cases this)]
    exact si _ _ (sq _ _ e2)
  have eqQ : Prs H4 q ps := ⟨as, eq, hl, fun j a p e f => by
    have e2 := hp j a p e f
    rw [same a (fun z => by rw [z, hq] at e2; cases e2) (fun z => by have := sq _ _ e2; rw [z, hit] at this; cases this)]
    exact si _ _ (sq _ _ e2)⟩
  clear hit si hy3 same
  have hy4 := hy.same s4
  have hM4 := hM.same s4
  obtain ⟨am, eM, lM, _⟩ := id hM4
  walk_at "go"
  refine lenA_lst (.of eq) ?_
  walk_at "go"
  refine lenA_lst (.of eM) ?_
  rw [List.length_map, List.length_map, hl, lM]
  walk_at "go"
  rw [decide_eq_true (rfl : (ps.length : Int) = ps.length)]
  walk_at "all"
  refine ⟨y, dx, _, rfl, s4 _ _ ey, row_len_ok T hy4 ⟨_, rfl, by omega, by omega, ?_⟩⟩
  walk_at "go"
  refine lenA_lst (.of eM) ?_
  rw [List.length_map, lM]
  walk_at "go"
  rw [decide_eq_true (rfl : (ps.length : Int) = ps.length)]
  walk_at "all"
  refine ⟨y, dx, _, rfl, s4 _ _ ey, row_heights_ok T hn hy4 fun L5 H5 s5 _ eL5 => ?_⟩
  walk_at "go"
  refine lenA_lst (.of eL5) ?_
  rw [List.length_map, List.length_map]
  walk_at "go"
  refine lenA_lst (.of (s5 _ _ eM)) ?_
  rw [List.length_map, lM]
  walk_at "go"
  rw [decide_eq_true (rfl : (ps.length : Int) = ps.length)]
  walk_at "all"
  refine lenA_lst (.of (s5 _ _ eM)) ?_
  rw [List.length_map, lM]
  walk_at "go"
  have s05 := s4.trans s5
  refine ⟨ps.length, rfl, by omega, by omega, ?_⟩
  refine forR (n := ps.length) (fun i σ H6 => Same H5 H6 ∧ ∃ v3 v4, σ = [some (.ref y), some (.ref M), some (.ref q), v3, v4]) ⟨Same.refl _, none, none, rfl⟩ ?_ ?_
  · rintro i σ H6 hi ⟨s6, v3, v4, rfl⟩
    have hi' : i < ps.length := by omega
    have s56 := s5.trans s6
    have ok := strOk_one (hc ps[i] (List.getElem_mem hi'))
    obtain ⟨a1, t1, f1, g1, k1⟩ := prs_get (eqQ.same s56) hi'
    obtain ⟨a2, t2, f2, g2, k2⟩ := prs_get (hM4.same s56) hi'
    walk_at "go"
    refine ixA_lst (.of f1) g1 ?_
    walk_at "go"
    refine isi_go (.ty _) (.base (.tup k1)) (kit_ty (r := true) (by decide +kernel)) ?_
    walk_at "all"
    refine ixA_lst (.of f1) g1 ?_
    walk_at "go"
    refine ixA_lst (.of f2) g2 ?_
    walk_at "go"
    refine neA_data (pairData k1) (pairData k2) (shaped_pair _ ok) (shaped_pair _ ok) ((eqv_pair _ _ _ _).trans (decide_eq_true ⟨rfl, rfl⟩)) ?_
    walk_at "all"
    refine ixA_lst (.of f1) g1 ?_
    walk_at "go"
    refine ixA_tup (SqT.of k1) (v := .int ps[i].2) rfl ?_
    walk_at "go"
    refine is_int_ok ?_
    walk_at "all"
    refine ⟨y, dx, _, rfl, s6 _ _ (s05 _ _ ey), row_heights_ok T hn (hy.same (s05.trans s6)) fun L7 H7 s7 _ eL7 => ?_⟩
    have hgt : atI ((ps.map Prod.snd).map V.int) (i : Int) = some (.int ps[i].2) := atI_nat (by rw [List.getElem?_map, List.getElem?_map, List.getElem?_eq_getElem hi']; rfl)
    walk_at "go"
    refine ixA_lst (.of eL7) hgt ?_
    walk_at "go"
    refine ixA_lst (.of (s7 _ _ f2)) g2 ?_
    walk_at "go"
    refine ixA_tup (SqT.of (s7 _ _ k2)) (v := .int ps[i].2) rfl ?_
    walk_at "go"
    rw [decide_eq_true (rfl : ps[i].2 = ps[i].2)]
    walk_at "all"
    refine ⟨y, dx, _, rfl, s7 _ _ (s6 _ _ (s05 _ _ ey)), row_heights_ok T hn (hy.same ((s05.trans s6).trans s7)) fun L8 H8 s8 _ eL8 => ?_⟩
    walk_at "go"
    refine ixA_lst (.of eL8) hgt ?_
    walk_at "go"
    refine is_int_ok ?_
    walk_at "all"
    exact ⟨(s6.trans s7).trans s8, _, _, rfl⟩
  · rintro σ H6 ⟨s6, v3, v4, rfl⟩
    have s06 := s05.trans s6
    walk_at "go"
    refine ⟨y, dx, _, rfl, s06 _ _ ey, row_signs_ok T hn (hy.same s06) fun H7 s7 => ?_⟩
    have s07 := s06.trans s7
    walk_at "go"
    refine ⟨⟨_, rfl⟩, ?_⟩
    walk_at "go"
    obtain ⟨am7, eM7, lM7, hM7⟩ := hM.same s07
    refine ⟨M, rfl, ⟨_, .of eM7⟩, ?_⟩
    intro L hL
    refine lc_it (walk_list (K := K) (a := M) (xs := am7.map V.ref)) (fun i H8 => Same H7 H8 ∧ H8 L = some (.lst (((ps.take i).map Prod.fst).map fun c => V.str (tx [c])))) ⟨Same.new hL, by rw [upd_same]; rfl⟩ (fun i H8 _ p => .of (p.1 _ _ eM7)) ?_ ?_
    · rintro i x H8 H9 hi ⟨s8, eL⟩ ⟨rfl, hx⟩
      obtain ⟨a, p, ea, ep, rfl⟩ := prs_at lM7 hx
      walk_at "go"
      refine ⟨rfl, ?_⟩
      walk_at "go"
      refine ixA_tup (SqT.of (s8 _ _ (hM7 i a p ea ep))) (v := .str (tx [p.1])) rfl ?_
      refine ⟨_, eL, by rw [List.length_map, List.length_map, List.length_take]; exact small3 (by omega), fun b o e => ?_, ?_⟩
      · rw [upd_ne (ne_of_none e hL)]
        exact s8 b o e
      · rw [upd_same, ← take_map Prod.fst ps i p ep, List.map_append]
        rfl
    · rintro H8 ⟨s8, eL⟩
      refine join_ok (cs := ps.map Prod.fst) (by rw [eL, List.length_map, lM7, List.take_length]) (by rw [List.length_map]; exact hn) ?_
      have s08 := s07.trans s8
      walk_at "go"
      rw [decide_eq_true (rfl : tx (ps.map Prod.fst) = tx (ps.map Prod.fst))]
      walk_at "all"
      refine ⟨y, dx, _, rfl, s08 _ _ ey, row_abs_ok T hn (hy.same s08) fun H9 s9 => ?_⟩
      walk_at "go"
      refine is_int_ok ?_
      walk_at "all"
      have s09 := s08.trans s9
      refine ⟨y, dx, _, rfl, s09 _ _ ey, row_abs_ok T hn (hy.same s09) fun Ha sa => ?_⟩
      have s0a := s09.trans sa
      walk_at "go"
      intro p hp0
      have sp := Same.new (o := .lst [.int 0]) hp0
      obtain ⟨amb, eMb, lMb, hMb⟩ := hM.same (s0a.trans sp)
      walk_at "go"
      refine ⟨M, rfl, ⟨_, .of eMb⟩, ?_⟩
      intro L2 hL2
      refine lc_it (walk_list (K := K) (a := M) (xs := amb.map V.ref)) (fun i Hb => Same (upd Ha p (.lst [.int 0])) Hb ∧ Hb L2 = some (.lst (((ps.take i).map Prod.snd).map V.int))) ⟨Same.new hL2, by rw [upd_same]; rfl⟩ (fun i Hb _ p => .of (p.1 _ _ eMb)) ?_ ?_
      · rintro i x Hb Hc hi ⟨sb, eL2⟩ ⟨rfl, hx⟩
        obtain ⟨a, p', ea, ep, rfl⟩ := prs_at lMb hx
        walk_at "go"
        refine ⟨rfl, ?_⟩
        walk_at "go"
        refine ixA_tup (SqT.of (sb _ _ (hMb i a p' ea ep))) (v := .int p'.2) rfl ?_
        refine ⟨_, eL2, by rw [List.length_map, List.length_map, List.length_take]; exact small3 (by omega), fun b o e => ?_, ?_⟩
        · rw [upd_ne (ne_of_none e hL2)]
          exact sb b o e
        · rw [upd_same, mapI_app, take_map Prod.snd ps i p' ep]
      · rintro Hb ⟨sb, eL2⟩
        rw [List.length_map, lMb, List.take_length] at eL2
        refine addA_lst (sb _ _ upd_same) eL2 (by rw [List.length_map, List.length_map, List.length_singleton, sizeLine_eq]; omega) fun r hr => ?_
        walk_at "go"
        refine max_ok upd_same ?_
        walk_at "go"
        rw [decide_eq_true (rfl : topH (ps.map Prod.snd) = topH (ps.map Prod.snd))]
        exact h _ (((s0a.trans sp).trans sb).trans (Same.new hr))
theorem rd_own {C : Addr} {sp : Sp} {E : L2.St → XK} {Pv : V → Hp → Prop} {ta tb : TE} {σ : L2.St} {H : Hp} {Q : VK} (h : ta σ H fun x H1 => tb σ H1 fun y H2 => ∃ a dx fs, x = .ref a ∧ H2 a = some (.ins C dx fs) ∧ Pv y H2 ∧ sp [.ref a, y] H2 Q (E σ)) : tOwn C sp E Pv ta tb σ H Q := h
theorem rd_inO {C : Addr} {sp : Sp} {E : L2.St → XK} {ta tb : TE} {σ : L2.St} {H : Hp} {Q : VK} (h : ta σ H fun x H1 => tb σ H1 fun y H2 => ∃ a dx fs, y = .ref a ∧ H2 a = some (.ins C dx fs) ∧ sp [.ref a, x] H2 (fun v H' => ∃ b, v = .bl b ∧ Q (.bl b) H') (E σ)) : tInO C sp E ta tb σ H Q := h
theorem rd_rmul {C : Addr} {sp : Sp} {E : L2.St → XK} {ta tb : TE} {σ : L2.St} {H : Hp} {Q : VK} (h : ta σ H fun x H1 => tb σ H1 fun y H2 => ∃ i a dx fs, x = .int i ∧ y = .ref a ∧ H2 a = some (.ins C dx fs) ∧ sp [.ref a, .int i] H2 Q (E σ)) : tRmul C sp E ta tb σ H Q := h
theorem rd_sli {ta tb : TE} {σ : L2.St} {H : Hp} {Q : VK} (h : ta σ H fun x H1 => tb σ H1 fun y H2 => ∃ i j, x = .int i ∧ y = .int j ∧ ∀ p, H2 p = none → Q (.ref p) (upd H2 p (Sli p i j))) : tSli ta tb σ H Q := h
theorem rd_gsubO {C : Addr} {sp : Sp} {E : L2.St → XK} {to ti : TE} {v : V} {σ : L2.St} {H : Hp} {Q : L2.St → Hp → Prop} (h : to σ H fun x H1 => ti σ H1 fun i H2 => ∃ a dx fs, x = .ref a ∧ H2 a = some (.ins C dx fs) ∧ sp [.ref a, i, v] H2 (fun _ H3 => Q σ H3) (E σ)) : gSubO C sp E to ti v σ H Q := h
theorem rd_dT {c : Prop} [Decidable c] {A B : Prop} (hc : c) (h : A) : if decide c = true then A else B := by rw [decide_eq_true hc]; exact h
theorem rd_dF {c : Prop} [Decidable c] {A B : Prop} (hc : ¬ c) (h : B) : if decide c = true then A else B := by rw [decide_eq_false hc]; exact h
theorem rd_nT {c : Prop} [Decidable c] {A B : Prop} (hc : c) (h : B) : if (!decide c) = true then A else B := by rw [decide_eq_true hc]; exact h
theorem rd_nF {c : Prop} [Decidable c] {A B : Prop} (hc : ¬ c) (h : A) : if (!decide c) = true then A else B := by rw [decide_eq_false hc]; exact h
theorem rd_caO {C : Addr} {sp : Sp} {dvs : List V} {E : L2.St → XK} {ta : TE} {t : TA} {σ : L2.St} {H : Hp} {Q : VK} (h : ta σ H fun y H1 => ∃ a, y = .ref a ∧ t σ H1 fun vs H2 => ∃ dx fs, H2 a = some (.ins C dx fs) ∧ sp (.ref a :: (vs ++ dvs)) H2 Q (E σ)) : tCaO C sp dvs E ta t σ H Q := h
theorem rd_caK {C : Addr} {n m : Nat} {sp : Sp} {gV : List V → List V → List V} {E : L2.St → XK} {ta : TE} {t tk : TA} {σ : L2.St} {H : Hp} {Q : VK} (h : ta σ H fun y H1 => ∃ a, y = .ref a ∧ t σ H1 fun vs H2 => tk σ H2 fun zs H3 => ∃ dx fs, H3 a = some (.ins C dx fs) ∧ vs.length = n ∧ zs.length = m ∧ sp (gV (.ref a :: vs) zs) H3 Q (E σ)) : tCaK C n m sp gV E ta t tk σ H Q := h
theorem rd_callNS {n m : Nat} {sp : Sp} {gV : List V → List V → List V} {E : L2.St → XK} {t tk : TA} {σ : L2.St} {H : Hp} {Q : VK} (h : t σ H fun vs H1 => tk σ H1 fun zs H2 => vs.length = n ∧ zs.length = m ∧ sp (gV vs zs) H2 Q (E σ)) : tCallNS n m sp gV E t tk σ H Q := h
/-- what the making of an instance asks -/
def MkG (C : Addr) (sp : Sp) (dvs vs : List V) (H1 : Hp) (Q : VK) (E : XK) : Prop := ∀ y dx, H1 y = none → H1 dx = none → dx ≠ y → sp (.ref y :: (vs ++ dvs)) (upd (upd H1 dx (.own y)) y (.ins C dx [])) (fun v H2 => v = .non ∧ Q (.ref y) H2) E
theorem rd_mkG {C : Addr} {sp : Sp} {dvs : List V} {EE : L2.St → XK} {t : TA} {σ : L2.St} {H : Hp} {Q : VK} (h : t σ H fun vs H1 => MkG C sp dvs vs H1 Q (EE σ)) : tMakeS C sp dvs EE t σ H Q := h
local macro_rules | `(tactic| walk_at "rd") => `(tactic| first
  | (with_reducible refine rd_mkG ?_) | (with_reducible refine rd_caO ?_) | (with_reducible refine rd_caK ?_) | (with_reducible refine rd_callNS ?_)
  | (with_reducible refine rd_own ?_) | (with_reducible refine rd_inO ?_) | (with_reducible refine rd_rmul ?_) | (with_reducible refine rd_sli ?_) | (with_reducible refine rd_gsubO ?_))

local macro_rules | `(tactic| walk_at "auto") => `(tactic| repeat (first
  | walk_at "rd"
  | ((with_reducible show if _ = true then _ else _); first | refine rd_iteB rfl ?_ | refine rd_iteC rfl ?_ | refine rd_dT (by first | omega | assumption) ?_ | refine rd_dF (by first | omega | assumption) ?_ | refine rd_nT (by first | omega | assumption) ?_ | refine rd_nF (by first | omega | assumption) ?_)))
local macro_rules | `(tactic| walk_at "st") => `(tactic| repeat ((fail_if_success (with_reducible show tSeq _ _ _ _ _)); first
  | walk_at "rd"
  | ((with_reducible show if _ = true then _ else _); first | refine rd_iteB rfl ?_ | refine rd_iteC rfl ?_ | refine rd_dT (by first | omega | assumption) ?_ | refine rd_dF (by first | omega | assumption) ?_ | refine rd_nT (by first | omega | assumption) ?_ | refine rd_nF (by first | omega | assumption) ?_)))
local macro_rules | `(tactic| walk_at "sq") => `(tactic| ((with_reducible show tSeq _ _ _ _ _); refine rd_seq ?_))
theorem word_ok {d : Addr} {z : Str} {lo hi : Int} {H : Hp} {Q : VK} {E : XK} (hz : 0 < z.length) (hz2 : z.length ≤ 1000) (h0 : 0 ≤ lo) (h1 : lo ≤ hi) (h2 : hi ≤ 1000) (hd : DrL H d)
    (h : ∀ (l : List Nat) H', (∀ c ∈ l, c ∈ z.cps.toList) → lo ≤ l.length → l.length ≤ hi → Keep d H H' → DrL H' d → Q (.str (tx l)) H') : sp_law_word_of K [.ref d, .str z, .int lo, .int hi] H Q E := by
  refine ⟨rfl, ?_⟩
  unfold t_law_word_of
  walk_at "go"
  refine pick_ok (by omega) hd fun r H1 r0 r1 k1 d1 => ?_
  walk_at "go"
  refine ⟨⟨_, rfl⟩, ?_⟩
  walk_at "go"
  refine ⟨lo + r, rfl, by omega, by omega, fun L hL => ?_⟩
  refine lcR (n := lo + r) (fun i H2 => ∃ cs : List Nat, H2 L = some (.lst (cs.map fun c => V.str (tx [c]))) ∧ cs.length = i ∧ (∀ c ∈ cs, c ∈ z.cps.toList) ∧ Keep d H1 H2 ∧ DrL H2 d) ⟨[], upd_same, rfl, by simp, Keep.new hL, d1.same (Same.new hL)⟩ ?_ ?_
  · rintro i H2 hi ⟨cs, eL, hl, hc, k2, d2⟩
    walk_at "go"
    refine ⟨rfl, ?_⟩
    walk_at "go"
    refine lenA_str (small2 (by omega)) ?_
    walk_at "go"
    refine pick_ok (by omega) d2 fun q H3 q0 q1 k3 d3 => ?_
    obtain ⟨n, rfl⟩ : ∃ n : Nat, q = n := ⟨q.toNat, by omega⟩
    have hn : n < z.cps.toList.length := by
      have : z.cps.toList.length = z.length := by simp [Str.length]
      omega
    have hLd : L ≠ d := fun e => by
      obtain ⟨ds, _, e2⟩ := d1
      rw [e] at hL
      rw [hL] at e2
      cases e2
    refine ixA_str (small2 (by omega)) (atI_nat (List.getElem?_eq_getElem hn)) ?_
    refine ⟨_, k3 _ _ hLd eL, by rw [List.length_map, sizeLine_eq]; omega, cs ++ [z.cps.toList[n]], by rw [upd_same]; simp [tx], by simp [hl], ?_, ?_, ?_⟩
    · intro c hc'
      rcases List.mem_append.mp hc' with m | m
      · exact hc c m
      · rw [List.mem_singleton.mp m]
        exact List.getElem_mem hn
    · intro b o n e
      have hbL : b ≠ L := fun e2 => by rw [e2, hL] at e; cases e
      rw [upd_ne hbL]
      exact k3 b o n (k2 b o n e)
    · obtain ⟨ds, a, b⟩ := d3
      exact ⟨ds, a, by rw [upd_ne (Ne.symm hLd)]; exact b⟩
  · rintro H2 ⟨cs, eL, hl, hc, k2, d2⟩
    have e1 : (cs.map fun c => V.str (tx [c])) = ((cs.map fun c => [c]).map tx).map V.str := by simp
    refine ⟨_, L, (cs.map fun c => [c]).map tx, rfl, rfl, .inl (SqL.of (by rw [eL, e1])), ?_, ?_⟩
    · have hs : (((cs.map fun c => [c]).map tx).map fun x => x.length) = List.replicate cs.length 1 := by
        rw [List.map_map, List.map_map]
        apply List.eq_replicate_iff.mpr
        refine ⟨by simp, fun b hb => ?_⟩
        obtain ⟨c, _, rfl⟩ := List.mem_map.mp hb
        rfl
      rw [hs]
      simp
      show cs.length + cs.length * 0 ≤ 16777216
      omega
    · rw [join_tx, flat_one]
      exact h cs H2 hc (by omega) (by omega) (k1.trans k2) d2
/-! Rule -/
def ruleF (l r : List Nat) : List (Str × V) := [("left", .str (tx l)), ("right", .str (tx r))]
theorem ruleF_left (l r : List Nat) : (ruleF l r).lookup ("left" : Str) = some (.str (tx l)) := by simp [ruleF, List.lookup]
theorem ruleF_right (l r : List Nat) : (ruleF l r).lookup ("right" : Str) = some (.str (tx r)) := by
  have e : (("right" : Str) == "left") = false := by decide +kernel
  simp [ruleF, List.lookup, e]
theorem ruleF_put (l r : List Nat) : putF "right" (.str (tx r)) (putF "left" (.str (tx l)) []) = ruleF l r := by
  have e : ¬ (("left" : Str) = "right") := by decide +kernel
  show (if ("left" : Str) = "right" then _ else _ :: putF "right" _ []) = _
  rw [if_neg e]
  rfl
/-- whether the sides are those of a rule -/
def okSides (l r : List Nat) : Prop := 1 ≤ l.length ∧ l.length ≤ 4 ∧ r.length ≤ 4
instance (l r : List Nat) : Decidable (okSides l r) := inferInstanceAs (Decidable (_ ∧ _ ∧ _))
def RuleAt (K : Frg) (H : Hp) (y : Addr) (l r : List Nat) : Prop := ∃ dx, H y = some (.ins (He.ga K "Rule") dx (ruleF l r))
theorem rule_init_ok {P : Program} {mg : Str → Option Value} (T : Txt P K mg) {y dx : Addr} {l r : List Nat} {H : Hp} {Q : VK} {E : XK} (hl : l.length ≤ 1000) (hr : r.length ≤ 1000) (hy : H y = some (.ins (He.ga K "Rule") dx []))
    (h : fo l = -1 → fo r = -1 → okSides l r → ∀ H', Keep y H H' → H' y = some (.ins (He.ga K "Rule") dx (ruleF l r)) → Q .non H')
    (hE1 : 0 ≤ fo l → ∀ H' d, Same H H' → H' d = none → E (.ref (He.ga K "BadSign")) (some d) (upd H' d (.xd [("at", .int (fo l))])))
    (hE2 : fo l = -1 → 0 ≤ fo r → ∀ H' d, Same H H' → H' d = none → E (.ref (He.ga K "BadSign")) (some d) (upd H' d (.xd [("at", .int (fo r))])))
    (hE3 : fo l = -1 → fo r = -1 → ¬ okSides l r → ∀ H', Same H H' → E (.ref (He.ga K "BadRule")) none H') : sp_Rule_init K [.ref y, .str (tx l), .str (tx r)] H Q E := by
  refine ⟨rfl, ?_⟩
  unfold t_Rule_init
  walk_at "go"
  refine check_ok (fun e1 H1 s1 => ?_) hE1
  walk_at "go"
  refine check_ok (fun e2 H2 s2 => ?_) (fun e2 H2 d s2 => hE2 e1 e2 H2 d (s1.trans s2))
  have s := s1.trans s2
  walk_at "go"
  refine lenA_str (by rw [tx_len]; exact small2 (by omega)) ?_
  rw [tx_len]
  walk_at "go"
  walk_at "all"
  all_goals first
    | exact hE3 e1 e2 (by unfold okSides; omega) H2 s
    | refine lenA_str (by rw [tx_len]; exact small2 (by omega)) ?_
  · rw [tx_len]
    walk_at "all"
    · exact hE3 e1 e2 (by unfold okSides; omega) H2 s
    · refine ⟨y, _, dx, [], rfl, s _ _ hy, T.c_Rule, T.n_Rule_left, by decide, ?_⟩
      walk_at "go"
      refine ⟨y, _, dx, _, rfl, upd_same, T.c_Rule, T.n_Rule_right, by show 1 < 1000; decide, ?_⟩
      rw [upd_upd, ruleF_put]
      exact h e1 e2 (by unfold okSides; omega) _ ((Keep.same s).trans Keep.at_) upd_same
theorem rule_str_ok {P : Program} {mg : Str → Option Value} (T : Txt P K mg) {y : Addr} {l r : List Nat} {H : Hp} {Q : VK} {E : XK} (hl : l.length ≤ 1000) (hr : r.length ≤ 1000) (hy : RuleAt K H y l r)
    (h : Q (.str (tx (l ++ (Str.ofString ":").cps.toList ++ r))) H) : sp_Rule_str K [.ref y] H Q E := by
  obtain ⟨dx, hy⟩ := hy
  have e0 : (Str.empty ++ tx l : Str) = tx l := by
    show (⟨#[] ++ (tx l).cps⟩ : Str) = _
    simp
  have e1 : (Str.ofString ":" : Str) = tx (Str.ofString ":").cps.toList := (tx_self _).symm
  have e2 : (Str.ofString ":").cps.toList.length = 1 := by decide
  refine ⟨rfl, ?_⟩
  unfold t_Rule_str
  walk_at "go"
  refine ⟨y, _, dx, _, _, rfl, hy, T.c_Rule, T.n_Rule_left, ruleF_left l r, .inl ⟨_, rfl, by rw [tx_len]; exact small2 (by omega), _, rfl, ?_, ?_⟩⟩
  · rw [e0, tx_len]; exact small2 (by omega)
  rw [e0]
  walk_at "go"
  refine ⟨_, rfl, ?_, ?_⟩
  · rw [e1, tx_app, tx_len, List.length_append, e2]; exact small2 (by omega)
  rw [e1, tx_app]
  walk_at "go"
  refine ⟨y, _, dx, _, _, rfl, hy, T.c_Rule, T.n_Rule_right, ruleF_right l r, .inl ⟨_, rfl, by rw [tx_len]; exact small2 (by omega), _, rfl, ?_, ?_⟩⟩
  · rw [tx_app, tx_len, List.length_append, List.length_append, e2]; exact small2 (by omega)
  rw [tx_app]
  walk_at "go"
  exact h
/-! rows made -/
def Okp (ps : List (Nat × Int)) : Prop := ∀ p ∈ ps, p.1 ∈ letters ∧ 0 ≤ p.2 ∧ p.2 ≤ 9
theorem Okp.app {ps qs : List (Nat × Int)} (a : Okp ps) (b : Okp qs) : Okp (ps ++ qs) := fun p h => (List.mem_append.mp h).elim (a p) (b p)
theorem Okp.sub {ps qs : List (Nat × Int)} (a : Okp ps) (h : ∀ p ∈ qs, p ∈ ps) : Okp qs := fun p m => a p (h p m)
theorem Okp.set {ps : List (Nat × Int)} {i c : Nat} {z : Int} (ok : Okp ps) (hc : c ∈ letters) (hz : 0 ≤ z ∧ z ≤ 9) : Okp (ps.set i (c, z)) := fun p h => by
  rcases List.mem_or_eq_of_mem_set h with h | h
  · exact ok p h
  · rw [h]; exact ⟨hc, hz⟩
theorem Okp.let {ps : List (Nat × Int)} (a : Okp ps) : ∀ p ∈ ps, p.1 ∈ letters := fun p h => (a p h).1
theorem fo_ok : ∀ {l : List Nat}, (∀ c ∈ l, c ∈ letters) → fo l = -1 := fun {l} h => fo_none l fun j x e => h x (List.mem_of_getElem? e)
theorem Okp.fo {ps : List (Nat × Int)} (a : Okp ps) : fo (ps.map Prod.fst) = -1 := fo_ok fun c h => by
  obtain ⟨p, hp, rfl⟩ := List.mem_map.mp h
  exact (a p hp).1
theorem Okp.bad {ps : List (Nat × Int)} (a : Okp ps) : badH (ps.map Prod.snd) = none := badH_none _ fun j x e => by
  obtain ⟨p, hp, rfl⟩ := List.mem_map.mp (List.mem_of_getElem? e)
  exact (a p hp).2
theorem zip_ps : ∀ ps : List (Nat × Int), (ps.map Prod.fst).zip (ps.map Prod.snd) = ps
  | [] => rfl
  | p :: r => by rw [List.map_cons, List.map_cons, List.zip_cons_cons, zip_ps r]
theorem keep_same {y dx : Addr} {C : Addr} {H H' : Hp} (hy : H y = none) (hdx : H dx = none) (k : Keep y (upd (upd H dx (.own y)) y (.ins C dx [])) H') : Same H H' := fun b o e => k b o (ne_of_none e hy) (by rw [upd_ne (ne_of_none e hy), upd_ne (ne_of_none e hdx)]; exact e)
theorem made_same {y dx : Addr} {C : Addr} {H : Hp} (hy : H y = none) (hdx : H dx = none) : Same H (upd (upd H dx (.own y)) y (.ins C dx [])) := fun b o e => by rw [upd_ne (ne_of_none e hy), upd_ne (ne_of_none e hdx)]; exact e
theorem Same.free {H H' : Hp} (s : Same H H') {a : Addr} (h : H' a = none) : H a = none := by
  cases e : H a with
  | none => rfl
  | some o => rw [s _ _ e] at h; cases h
theorem row_make_ok {P : Program} {mg : Str → Option Value} (T : Txt P K mg) {ps : List (Nat × Int)} {l : List Nat} {hs : List Int} {b : Addr} {H : Hp} {Q : VK} {E : XK} (hn : ps.length ≤ 10000) (hl : l = ps.map Prod.fst) (hh : hs = ps.map Prod.snd) (ok : Okp ps) (hb : H b = some (.lst (hs.map V.int)))
    (h : ∀ y D H', Same H H' → H y = none → H D = none → RowAt K H' y D ps → Q (.ref y) H') : MkG (He.ga K "Row") (sp_Row_init K) (List.drop 2 [.str "", .non]) [.str (tx l), .ref b] H Q E := by
  subst hl hh
  intro y dx hy hdx hne
  have s0 : Same H (upd (upd H dx (.own y)) y (.ins (He.ga K "Row") dx [])) := made_same hy hdx
  refine row_init_ok T (by rw [List.length_map]; exact hn) (by rw [List.length_map]; exact hn) upd_same (.inl ⟨b, rfl, s0 _ _ hb⟩) ?_ ?_ ?_ ?_
  · intro _ _ _ D H1 k1 hD hy1 pr
    rw [zip_ps] at pr
    exact ⟨rfl, h y D H1 (keep_same hy hdx k1) hy (s0.free hD) ⟨⟨dx, hy1⟩, pr⟩⟩
  · intro c; have := ok.fo; omega
  · intro _ c; exact absurd (by rw [List.length_map, List.length_map]) c
  · intro _ _ z c; rw [ok.bad] at c; cases c
theorem ixN_nat {n i : Nat} (h : i < n) : ixN n (i : Int) = some i := by
  unfold ixN
  rw [if_pos (by omega), if_pos (by omega)]
  rfl
theorem Prs.set {H : Hp} {D T : Addr} {ps : List (Nat × Int)} {as : List Addr} {i : Nat} {c : Nat} {z : Int} (hD : H D = some (.lst (as.map V.ref))) (hl : as.length = ps.length) (hp : ∀ (j : Nat) (a : Addr) (p : Nat × Int), as[j]? = some a → ps[j]? = some p → H a = some (.tup [.str (tx [p.1]), .int p.2]))
    (hT : H T = some (.tup [.str (tx [c]), .int z])) : Prs (upd H D (.lst ((as.map V.ref).set i (.ref T)))) D (ps.set i (c, z)) := by
  refine ⟨as.set i T, by rw [upd_same, List.map_set], by rw [List.length_set, List.length_set, hl], fun j a p e1 e2 => ?_⟩
  have key : H a = some (.tup [.str (tx [p.1]), .int p.2]) := by
    rw [List.getElem?_set] at e1 e2
    by_cases hj : i = j
    · rw [if_pos hj] at e1 e2
      by_cases hlt : i < as.length
      · rw [if_pos (by omega)] at e1
        rw [if_pos (by omega)] at e2
        cases e1
        cases e2
        exact hT
      · rw [if_neg (by omega)] at e1
        cases e1
    · rw [if_neg hj] at e1 e2
      exact hp j a p e1 e2
  rw [upd_ne (fun q => by rw [q, hD] at key; cases key)]
  exact key
def cutP (ps : List (Nat × Int)) (i j : Nat) : List (Nat × Int) := (ps.drop i).take (j - i)
theorem cutP_ok {ps : List (Nat × Int)} {i j : Nat} (ok : Okp ps) : Okp (cutP ps i j) := ok.sub fun p h => List.mem_of_mem_drop (List.mem_of_mem_take h)
theorem cutP_len {ps : List (Nat × Int)} {i j : Nat} : (cutP ps i j).length ≤ ps.length := by unfold cutP; rw [List.length_take, List.length_drop]; omega
theorem cutV_mid (xs : List V) (i j : Nat) (hi : i ≤ xs.length) (hj : j ≤ xs.length) : cutV xs (some (i : Int)) (some (j : Int)) = (xs.drop i).take (j - i) := by
  unfold cutV
  rw [sIx_nat _ _ _ hi, sIx_nat _ _ _ hj]
theorem row_cut_ok {P : Program} {mg : Str → Option Value} (T : Txt P K mg) {y D s : Addr} {ps : List (Nat × Int)} {i j : Nat} {H : Hp} {Q : VK} {E : XK} (hn : ps.length ≤ 10000) (hi : i ≤ ps.length) (hj : j ≤ ps.length) (h1 : RowAt K H y D ps) (ok : Okp ps) (hs : H s = some (Sli s i j))
    (h : ∀ z F H', Same H H' → H z = none → H F = none → RowAt K H' z F (cutP ps i j) → Q (.ref z) H') : sp_Row_getitem K [.ref y, .ref s] H Q E := by
  refine ⟨rfl, ?_⟩
  unfold t_Row_getitem
  walk_at "go"
  obtain ⟨dx, ey⟩ := h1.1
  refine .inr ⟨s, i, j, _, _, false, rfl, hs, .ty _, kit_ty (r := false) (by decide +kernel), ?_⟩
  walk_at "auto"
  refine ⟨y, dx, _, rfl, ey, row_signs_ok T hn h1 fun H1 s1 => ?_⟩
  walk_at "go"
  refine .inr ⟨s, i, j, rfl, s1 _ _ hs, slA_str (by rw [tx_len, List.length_map]; exact small2 (by omega)) ?_⟩
  rw [cut_mid _ _ _ (by rw [List.length_map]; exact hi) (by rw [List.length_map]; exact hj)]
  walk_at "go"
  refine ⟨y, dx, _, rfl, s1 _ _ ey, row_heights_ok T hn (h1.same s1) fun L H2 s2 fL eL => ?_⟩
  walk_at "go"
  refine .inr ⟨s, i, j, rfl, s2 _ _ (s1 _ _ hs), slA_lst (.of eL) fun p hp => ?_⟩
  rw [cutV_mid _ _ _ (by rw [List.length_map, List.length_map]; exact hi) (by rw [List.length_map, List.length_map]; exact hj), ← List.map_drop, ← List.map_take]
  walk_at "go"
  have s3 := (s1.trans s2).trans (Same.new (o := .lst (((ps.map Prod.snd).drop i |>.take (j - i)).map V.int)) hp)
  refine row_make_ok T (ps := cutP ps i j) (Nat.le_trans cutP_len hn) (by unfold cutP; rw [List.map_take, List.map_drop]) (by unfold cutP; rw [List.map_take, List.map_drop]) (cutP_ok ok) upd_same fun z F H' s f1 f2 r => ?_
  exact h z F H' (s3.trans s) (s3.free f1) (s3.free f2) r
theorem row_add_ok {P : Program} {mg : Str → Option Value} (T : Txt P K mg) {y D y2 D2 : Addr} {ps qs : List (Nat × Int)} {H : Hp} {Q : VK} {E : XK} (hn : ps.length + qs.length ≤ 10000) (h1 : RowAt K H y D ps) (h2 : RowAt K H y2 D2 qs) (ok1 : Okp ps) (ok2 : Okp qs)
    (h : ∀ z F H', Same H H' → H z = none → H F = none → RowAt K H' z F (ps ++ qs) → Q (.ref z) H') : sp_Row_add K [.ref y, .ref y2] H Q E := by
  refine ⟨rfl, ?_⟩
  unfold t_Row_add
  walk_at "go"
  obtain ⟨dx, ey⟩ := h1.1
  obtain ⟨dx2, ey2⟩ := h2.1
  refine ⟨y, dx, _, rfl, ey, row_signs_ok T (by omega) h1 fun H1 s1 => ?_⟩
  walk_at "go"
  refine ⟨y2, dx2, _, rfl, s1 _ _ ey2, row_signs_ok T (by omega) (h2.same s1) fun H2 s2 => ?_⟩
  refine addA_str (by rw [tx_len, tx_len, List.length_map, List.length_map]; exact small2 (by omega)) ?_
  rw [tx_app]
  walk_at "go"
  have s12 := s1.trans s2
  refine ⟨y, dx, _, rfl, s12 _ _ ey, row_heights_ok T (by omega) (h1.same s12) fun L1 H3 s3 f1 e1 => ?_⟩
  walk_at "go"
  have s13 := s12.trans s3
  refine ⟨y2, dx2, _, rfl, s13 _ _ ey2, row_heights_ok T (by omega) (h2.same s13) fun L2 H4 s4 f2 e2 => ?_⟩
  refine addA_lst (s4 _ _ e1) e2 (by rw [List.length_map, List.length_map, List.length_map, List.length_map]; exact small2 (by omega)) fun b hb => ?_
  rw [← List.map_append]
  walk_at "go"
  have s15 := (s13.trans s4).trans (Same.new (o := .lst ((ps.map Prod.snd ++ qs.map Prod.snd).map V.int)) hb)
  refine row_make_ok T (ps := ps ++ qs) (by rw [List.length_append]; exact hn) (by rw [List.map_append]) (by rw [List.map_append]) (ok1.app ok2) upd_same fun z F H' s f1 f2 r => ?_
  exact h z F H' (s15.trans s) (s15.free f1) (s15.free f2) r
/-! comprehensions over a list that only make new things -/
/-- a comprehension over the list x -/
def LcG (K : Frg) (x : V) (g : TG) (te : TE) (vs : List Nat) (σ : L2.St) (H1 : Hp) (Q : VK) : Prop := ∃ a, x = .ref a ∧ (∃ xs, SqL K H1 a xs) ∧
    ∀ D, H1 D = none → ∃ W : Nat → Nat → Hp → Prop, (∃ m, W 0 m (upd H1 D (.lst []))) ∧ ∀ i m H, W i m H →
      ((Itl K a).stop i H ∧ Q (.ref D) H) ∨ ((Itl K a).go i H ∧ ∃ Nx : Hp → Prop, (∀ H', Nx H' → ∃ m', m' < m ∧ W (i + 1) m' H') ∧ ∀ x H', (Itl K a).yld i H x H' → g x (wipe σ vs) H' fun σ2 H2 => wipe σ2 vs = wipe σ vs ∧ tYes σ2 H2 fun b H3 =>
        if b = true then te σ2 H3 fun y H4 => ∃ acc, H4 D = some (.lst acc) ∧ acc.length < sizeLine ∧ Nx (upd H4 D (.lst (acc ++ [y]))) else Nx H3)
theorem rd_lcL {tl : TE} {g : TG} {te : TE} {vs : List Nat} {σ : L2.St} {H : Hp} {Q : VK} (h : tl σ H fun x H1 => LcG K x g te vs σ H1 Q) : tLc (iList K tl) g tYes te vs σ H Q := h
local macro_rules | `(tactic| walk_at "rd") => `(tactic| (with_reducible refine rd_lcL ?_))
theorem yes_eq {te : TE} {w : L2.St → Prop} {C : VK} {N : Hp → Prop} : (fun (σ2 : L2.St) (H3 : Hp) => w σ2 ∧ te σ2 H3 C) = fun σ2 H3 => w σ2 ∧ tYes σ2 H3 fun b H4 => if b = true then te σ2 H4 C else N H4 := rfl
theorem lcV {a : Addr} {xs : List V} (ys : List V) {g : TG} {te : TE} {vs : List Nat} {σ : L2.St} {H1 : Hp} {Q : VK} (hS : SqL K H1 a xs) (hl : ys.length = xs.length) (hz : xs.length ≤ 100000)
    (hs : ∀ (i : Nat) (x y : V) (H2 : Hp) (C : VK), Same H1 H2 → xs[i]? = some x → ys[i]? = some y → (∀ H4, Same H2 H4 → C y H4) → g x (wipe σ vs) H2 fun σ2 H3 => wipe σ2 vs = wipe σ vs ∧ te σ2 H3 C)
    (hd : ∀ D H', Same H1 H' → H1 D = none → H' D = some (.lst ys) → Q (.ref D) H') :
    LcG K (.ref a) g te vs σ H1 Q := by
  refine ⟨a, rfl, ⟨_, hS⟩, fun D hD => ?_⟩
  refine lc_it (walk_list (K := K) (a := a) (xs := xs)) (fun i H2 => Same H1 H2 ∧ H2 D = some (.lst (ys.take i))) ⟨Same.new hD, by rw [upd_same]; rfl⟩ (fun i H2 _ q => q.1.seq hS) ?_ ?_
  · rintro i x H2 H3 hi ⟨s2, eD⟩ ⟨rfl, hx⟩
    have hy : ys[i]? = some ys[i] := List.getElem?_eq_getElem (by omega)
    refine (yes_eq ▸ hs i x _ H3 (fun y H4 => ∃ acc, H4 D = some (.lst acc) ∧ acc.length < sizeLine ∧ (fun H2 => Same H1 H2 ∧ H2 D = some (.lst (ys.take (i + 1)))) (upd H4 D (.lst (acc ++ [y])))) s2 hx hy ?_)
    intro H5 s5
    refine ⟨_, s5 _ _ eD, by rw [List.length_take, sizeLine_eq]; omega, fun b o e => ?_, ?_⟩
    · rw [upd_ne (ne_of_none e hD)]
      exact s5 _ _ (s2 _ _ e)
    · rw [upd_same, List.take_succ_eq_append_getElem (by omega)]
  · rintro H2 ⟨s2, eD⟩
    rw [← hl, List.take_length] at eD
    exact hd D H2 s2 hD eD
/-- .. each item a new tuple -/
theorem lcT {a : Addr} {xs : List V} (zs : List (List V)) {g : TG} {te : TE} {vs : List Nat} {σ : L2.St} {H1 : Hp} {Q : VK} (hS : SqL K H1 a xs) (hl : zs.length = xs.length) (hz : xs.length ≤ 100000)
    (hs : ∀ (i : Nat) (x : V) (z : List V) (H2 : Hp) (C : VK), Same H1 H2 → xs[i]? = some x → zs[i]? = some z → (∀ T H4, Same H2 H4 → H4 T = some (.tup z) → C (.ref T) H4) → g x (wipe σ vs) H2 fun σ2 H3 => wipe σ2 vs = wipe σ vs ∧ te σ2 H3 C)
    (hd : ∀ D H' (as : List Addr), Same H1 H' → H1 D = none → H' D = some (.lst (as.map V.ref)) → as.length = zs.length → (∀ (j : Nat) (b : Addr) (z : List V), as[j]? = some b → zs[j]? = some z → H' b = some (.tup z)) → Q (.ref D) H') :
    LcG K (.ref a) g te vs σ H1 Q := by
  refine ⟨a, rfl, ⟨_, hS⟩, fun D hD => ?_⟩
  refine lc_it (walk_list (K := K) (a := a) (xs := xs)) (fun i H2 => Same H1 H2 ∧ ∃ as : List Addr, as.length = i ∧ H2 D = some (.lst (as.map V.ref)) ∧ ∀ (j : Nat) (b : Addr) (z : List V), as[j]? = some b → zs[j]? = some z → H2 b = some (.tup z))
    ⟨Same.new hD, [], rfl, by rw [upd_same]; rfl, fun j b z e => by simp at e⟩ (fun i H2 _ q => q.1.seq hS) ?_ ?_
  · rintro i x H2 H3 hi ⟨s2, as, la, eD, hb⟩ ⟨rfl, hx⟩
    have hy : zs[i]? = some zs[i] := List.getElem?_eq_getElem (by omega)
    refine (yes_eq ▸ hs i x _ H3 (fun y H4 => ∃ acc, H4 D = some (.lst acc) ∧ acc.length < sizeLine ∧ (fun H2 => Same H1 H2 ∧ ∃ as : List Addr, as.length = i + 1 ∧ H2 D = some (.lst (as.map V.ref)) ∧ ∀ (j : Nat) (b : Addr) (z : List V), as[j]? = some b → zs[j]? = some z → H2 b = some (.tup z)) (upd H4 D (.lst (acc ++ [y])))) s2 hx hy ?_)
    intro T H5 s5 eT
    refine ⟨_, s5 _ _ eD, by rw [List.length_map, sizeLine_eq]; omega, fun b o e => ?_, as ++ [T], by rw [List.length_append, la]; rfl, by rw [upd_same, List.map_append]; rfl, fun j b z e1 e2 => ?_⟩
    · rw [upd_ne (ne_of_none e hD)]
      exact s5 _ _ (s2 _ _ e)
    · have key : H5 b = some (.tup z) := by
        by_cases hj : j < as.length
        · rw [List.getElem?_append_left hj] at e1
          exact s5 _ _ (hb j b z e1 e2)
        · have hj2 : j = as.length := by
            have := (List.getElem?_eq_some_iff.mp e1).1
            rw [List.length_append, List.length_singleton] at this
            omega
          subst hj2
          rw [List.getElem?_append_right (Nat.le_refl _), Nat.sub_self] at e1
          rw [la, hy] at e2
          cases e1
          cases e2
          exact eT
      rw [upd_ne (fun q => by have := s5 _ _ eD; rw [q, this] at key; cases key)]
      exact key
  · rintro H2 ⟨s2, as, la, eD, hb⟩
    exact hd D H2 as s2 hD eD (by omega) hb
theorem Prs.mapc {H : Hp} {M : Addr} {ps : List (Nat × Int)} (h : Prs H M ps) : ∃ as : List Addr, H M = some (.lst (as.map V.ref)) ∧ as.length = ps.length ∧ ∀ (j : Nat) (x : V) (p : Nat × Int), (as.map V.ref)[j]? = some x → ps[j]? = some p → ∃ a, x = .ref a ∧ H a = some (.tup [.str (tx [p.1]), .int p.2]) := by
  obtain ⟨as, hM, hl, hp⟩ := h
  refine ⟨as, hM, hl, fun j x p e1 e2 => ?_⟩
  obtain ⟨a, p', ea, ep, rfl⟩ := prs_at hl e1
  rw [e2] at ep
  cases ep
  exact ⟨a, rfl, hp j a p ea e2⟩
/-- lists of pairs side by side, repeated, cut -/
theorem prs_cat {M N : Addr} {ps qs : List (Nat × Int)} {H : Hp} {Q : VK} (hM : Prs H M ps) (hN : Prs H N qs) (hn : ps.length + qs.length ≤ 10000) (h : ∀ p H', Same H H' → H p = none → Prs H' p (ps ++ qs) → Q (.ref p) H') : rAddA (.ref M) (.ref N) H Q := by
  obtain ⟨as, eM, la, ha⟩ := hM
  obtain ⟨bs, eN, lb, hb⟩ := hN
  refine addA_lst eM eN (by rw [List.length_map, List.length_map, sizeLine_eq]; omega) fun p hp => h p _ (Same.new hp) hp ⟨as ++ bs, by rw [upd_same, List.map_append], by simp [la, lb], fun j a q e1 e2 => ?_⟩
  have key : H a = some (.tup [.str (tx [q.1]), .int q.2]) := by
    by_cases hj : j < as.length
    · rw [List.getElem?_append_left hj] at e1
      rw [List.getElem?_append_left (by omega)] at e2
      exact ha j a q e1 e2
    · rw [List.getElem?_append_right (by omega)] at e1
      rw [List.getElem?_append_right (by omega), ← la] at e2
      exact hb _ a q e1 e2
  rw [upd_ne (ne_of_none key hp)]
  exact key
theorem cutV_none (xs : List V) (i : Nat) (hi : i ≤ xs.length) : cutV xs none (some (i : Int)) = xs.take i := by
  unfold cutV
  rw [sIx_none, sIx_nat _ _ _ hi]
  rfl
theorem cutV_from (xs : List V) (i : Nat) (hi : i ≤ xs.length) : cutV xs (some (i : Int)) none = xs.drop i := by
  unfold cutV
  rw [sIx_none, sIx_nat _ _ _ hi, List.take_of_length_le (by rw [List.length_drop]; exact Nat.le_refl _)]
theorem prs_take {M : Addr} {ps : List (Nat × Int)} {i : Nat} {H : Hp} {Q : VK} (hM : Prs H M ps) (hi : i ≤ ps.length) (h : ∀ p H', Same H H' → H p = none → Prs H' p (ps.take i) → Q (.ref p) H') : rSlA K (.ref M) none (some (i : Int)) H Q := by
  obtain ⟨as, eM, la, ha⟩ := hM
  refine slA_lst (.of eM) fun p hp => ?_
  rw [cutV_none _ _ (by rw [List.length_map]; omega)]
  refine h p _ (Same.new hp) hp ⟨as.take i, by rw [upd_same, List.map_take], by simp [la], fun j a q e1 e2 => ?_⟩
  rw [List.getElem?_take] at e1 e2
  split at e1
  · rename_i c
    rw [if_pos c] at e2
    have key := ha j a q e1 e2
    rw [upd_ne (ne_of_none key hp)]
    exact key
  · cases e1
theorem prs_drop {M : Addr} {ps : List (Nat × Int)} {i : Nat} {H : Hp} {Q : VK} (hM : Prs H M ps) (hi : i ≤ ps.length) (h : ∀ p H', Same H H' → H p = none → Prs H' p (ps.drop i) → Q (.ref p) H') : rSlA K (.ref M) (some (i : Int)) none H Q := by
  obtain ⟨as, eM, la, ha⟩ := hM
  refine slA_lst (.of eM) fun p hp => ?_
  rw [cutV_from _ _ (by rw [List.length_map]; omega)]
  refine h p _ (Same.new hp) hp ⟨as.drop i, by rw [upd_same, List.map_drop], by simp [la], fun j a q e1 e2 => ?_⟩
  rw [List.getElem?_drop] at e1 e2
  have key := ha _ a q e1 e2
  rw [upd_ne (ne_of_none key hp)]
  exact key
/-! lists of pairs as data -/
def pd (p : Nat × Int) : PyData := .tuple [.str (tx [p.1]), .int p.2]
theorem psData {H : Hp} : ∀ (as : List Addr) (ps : List (Nat × Int)), as.length = ps.length → (∀ (j : Nat) (a : Addr) (p : Nat × Int), as[j]? = some a → ps[j]? = some p → H a = some (.tup [.str (tx [p.1]), .int p.2])) → DpAll K H (as.map V.ref) (ps.map pd)
  | [], [], _, _ => .nil
  | [], _ :: _, h, _ => by cases h
  | _ :: _, [], h, _ => by cases h
  | a :: as, p :: ps, h, hp => .cons (pairData (hp 0 a p rfl rfl)) (psData as ps (by simpa using h) fun j b q e1 e2 => hp (j + 1) b q e1 e2)
theorem Prs.data {H : Hp} {M : Addr} {ps : List (Nat × Int)} (h : Prs H M ps) : Dp K H (.ref M) (.list (ps.map pd)) := let ⟨as, e, l, hp⟩ := h; .lst (SqL.of e) (psData as ps l hp)
theorem Prs.nil {H : Hp} {p : Addr} (h : H p = some (.lst [])) : Prs H p [] := ⟨[], h, rfl, fun j a q e => by simp at e⟩
/-! slices whose ends may lie beyond the end -/
theorem drop_min {α : Type} (l : List α) (k n : Nat) : (l.drop (min k l.length)).take (min (k + n) l.length - min k l.length) = (l.drop k).take n := by
  by_cases h : k ≤ l.length
  · rw [Nat.min_eq_left h]
    by_cases h2 : k + n ≤ l.length
    · rw [Nat.min_eq_left h2, Nat.add_sub_cancel_left]
    · rw [Nat.min_eq_right (by omega)]
      rw [List.take_of_length_le (by rw [List.length_drop]; exact Nat.le_refl _), List.take_of_length_le (by rw [List.length_drop]; omega)]
  · rw [show min k l.length = l.length by omega, List.drop_of_length_le (Nat.le_refl l.length), List.drop_of_length_le (show l.length ≤ k by omega)]
    simp
theorem cutS_any (l : List Nat) (k n : Nat) : cutS (tx l) (some (k : Int)) (some ((k : Int) + (n : Int))) = tx ((l.drop k).take n) := by
  unfold cutS
  rw [tx_toList, tx_len, show (k : Int) + (n : Int) = ((k + n : Nat) : Int) by omega, HT.sIx_nat, HT.sIx_nat, drop_min]
  rfl
theorem cutV_any (xs : List V) (k n : Nat) : cutV xs (some (k : Int)) (some ((k : Int) + (n : Int))) = (xs.drop k).take n := by
  unfold cutV
  rw [show (k : Int) + (n : Int) = ((k + n : Nat) : Int) by omega, HT.sIx_nat, HT.sIx_nat, drop_min]
/-- the least of some numbers -/
def minH : List Int → Int
  | [] => 0
  | x :: r => r.foldl min x
theorem foldl_min : ∀ (hs : List Int) (m : Int), hs.foldl min m ≤ m ∧ (∀ x ∈ hs, hs.foldl min m ≤ x) ∧ (hs.foldl min m = m ∨ hs.foldl min m ∈ hs)
  | [], m => ⟨Int.le_refl _, fun x h => by simp at h, .inl rfl⟩
  | y :: r, m => by
    obtain ⟨h1, h2, h3⟩ := foldl_min r (min m y)
    rw [List.foldl_cons]
    refine ⟨by omega, fun x hx => ?_, ?_⟩
    · rcases List.mem_cons.mp hx with q | q
      · rw [q]; omega
      · exact h2 x q
    · rcases h3 with q | q
      · by_cases c : m ≤ y
        · exact .inl (by rw [q]; omega)
        · exact .inr (List.mem_cons.mpr (.inl (by rw [q]; omega)))
      · exact .inr (List.mem_cons_of_mem _ q)
theorem minH_mem : ∀ {hs : List Int}, hs ≠ [] → minH hs ∈ hs ∧ ∀ x ∈ hs, minH hs ≤ x
  | [], h => absurd rfl h
  | x :: r, _ => by
    obtain ⟨h1, h2, h3⟩ := foldl_min r x
    refine ⟨?_, fun y hy => ?_⟩
    · rcases h3 with q | q
      · exact List.mem_cons.mpr (.inl q)
      · exact List.mem_cons_of_mem _ q
    · rcases List.mem_cons.mp hy with q | q
      · rw [q]; exact h1
      · exact h2 y q
theorem min_ok {p : Addr} {hs : List Int} {H : Hp} {Q : VK} (hp : H p = some (.lst (hs.map V.int))) (hne : hs ≠ []) (h : Q (.int (minH hs)) H) : rMinA K [.ref p] H Q := by
  refine ⟨p, hs, rfl, .of hp, List.length_pos_iff.mpr hne, fun m hm hu => ?_⟩
  obtain ⟨a1, a2⟩ := minH_mem hne
  have : m = minH hs := Int.le_antisymm (hu _ a1) (a2 m hm)
  rw [this]
  exact h
/-! rule(row, at) -/
/-- the pairs that a left side of n signs covers at k -/
def win (ps : List (Nat × Int)) (k n : Nat) : List (Nat × Int) := (ps.drop k).take n
/-- the rule's left side l stands at k -/
def fitsP (ps : List (Nat × Int)) (l : List Nat) (k : Int) : Prop := 0 ≤ k ∧ (win ps k.toNat l.length).map Prod.fst = l
instance (ps : List (Nat × Int)) (l : List Nat) (k : Int) : Decidable (fitsP ps l k) := inferInstanceAs (Decidable (_ ∧ _))
/-- the height that a step writes -/
def wrote (ps : List (Nat × Int)) (l : List Nat) (k : Int) : Int := 1 + minH ((win ps k.toNat l.length).map Prod.snd)
def stepP (ps : List (Nat × Int)) (l r : List Nat) (k : Int) : List (Nat × Int) := ps.take k.toNat ++ r.map (fun c => (c, wrote ps l k)) ++ ps.drop (k.toNat + l.length)
theorem win_len {ps : List (Nat × Int)} {l : List Nat} {k : Int} (h : fitsP ps l k) : (win ps k.toNat l.length).length = l.length := by
  have := congrArg List.length h.2
  rw [List.length_map] at this
  exact this
theorem fits_le {ps : List (Nat × Int)} {l : List Nat} {k : Int} (hl : 1 ≤ l.length) (h : fitsP ps l k) : k.toNat + l.length ≤ ps.length := by
  have := win_len h
  unfold win at this
  rw [List.length_take, List.length_drop] at this
  omega
theorem win_sub {ps : List (Nat × Int)} {k n : Nat} : ∀ p ∈ win ps k n, p ∈ ps := fun p h => List.mem_of_mem_drop (List.mem_of_mem_take h)
theorem wrote_range {ps : List (Nat × Int)} {l : List Nat} {k : Int} (hl : 1 ≤ l.length) (ok : Okp ps) (h : fitsP ps l k) : 1 ≤ wrote ps l k ∧ wrote ps l k ≤ 10 := by
  have hw := win_len h
  have hne : (win ps k.toNat l.length).map Prod.snd ≠ [] := fun q => by
    have := congrArg List.length q
    rw [List.length_map, hw, List.length_nil] at this
    omega
  obtain ⟨p, hp, e⟩ := List.mem_map.mp (minH_mem hne).1
  have := (ok p (win_sub p hp)).2
  unfold wrote
  omega
theorem fits_ok {P : Program} {mg : Str → Option Value} (T : Txt P K mg) {u y D : Addr} {l r : List Nat} {ps : List (Nat × Int)} {k : Int} {H : Hp} {Q : VK} {E : XK} (hn : ps.length ≤ 10000) (hl : l.length ≤ 1000) (hu : RuleAt K H u l r) (hy : RowAt K H y D ps)
    (h : ∀ H', Same H H' → Q (.bl (decide (fitsP ps l k))) H') : sp_Rule_fits K [.ref u, .ref y, .int k] H Q E := by
  refine ⟨rfl, ?_⟩
  unfold t_Rule_fits
  walk_at "go"
  by_cases c : 0 ≤ k
  · obtain ⟨n, rfl⟩ : ∃ n : Nat, k = n := ⟨k.toNat, by omega⟩
    rw [decide_eq_true c]
    walk_at "auto"
    obtain ⟨dx, ey⟩ := hy.1
    obtain ⟨dxu, eu⟩ := hu
    refine ⟨y, dx, _, rfl, ey, row_signs_ok T hn hy fun H1 s1 => ?_⟩
    walk_at "go"
    refine ⟨u, _, dxu, _, _, rfl, s1 _ _ eu, T.c_Rule, T.n_Rule_left, ruleF_left l r, ?_⟩
    walk_at "go"
    refine lenA_str (by rw [tx_len]; exact small2 (by omega)) ?_
    rw [tx_len]
    walk_at "go"
    refine slA_str (by rw [tx_len, List.length_map]; exact small2 (by omega)) ?_
    rw [cutS_any]
    walk_at "go"
    refine ⟨u, _, dxu, _, _, rfl, s1 _ _ eu, T.c_Rule, T.n_Rule_left, ruleF_left l r, ?_⟩
    walk_at "go"
    have e : decide (tx (((ps.map Prod.fst).drop n).take l.length) = tx l) = decide (fitsP ps l (n : Int)) := by
      apply decide_eq_decide.mpr
      rw [tx_inj]
      unfold fitsP win
      rw [Int.toNat_natCast, List.map_take, List.map_drop]
      exact ⟨fun q => ⟨by omega, q⟩, fun q => q.2⟩
    rw [e]
    exact h _ s1
  · rw [decide_eq_false c]
    walk_at "auto"
    have e : decide (fitsP ps l k) = false := decide_eq_false fun q => c q.1
    rw [e] at h
    exact h _ (Same.refl _)
theorem written_ok {P : Program} {mg : Str → Option Value} (T : Txt P K mg) {u y D : Addr} {l r : List Nat} {ps : List (Nat × Int)} {k : Int} {H : Hp} {Q : VK} {E : XK} (hn : ps.length ≤ 10000) (hl : 1 ≤ l.length) (hl2 : l.length ≤ 1000) (hf : fitsP ps l k) (hu : RuleAt K H u l r) (hy : RowAt K H y D ps)
    (h : ∀ H', Same H H' → Q (.int (wrote ps l k)) H') : sp_Rule_written_height K [.ref u, .ref y, .int k] H Q E := by
  refine ⟨rfl, ?_⟩
  unfold t_Rule_written_height
  walk_at "go"
  obtain ⟨n, rfl⟩ : ∃ n : Nat, k = n := ⟨k.toNat, by have := hf.1; omega⟩
  obtain ⟨dx, ey⟩ := hy.1
  obtain ⟨dxu, eu⟩ := hu
  refine ⟨y, dx, _, rfl, ey, row_heights_ok T hn hy fun L H1 s1 _ eL => ?_⟩
  walk_at "go"
  refine ⟨u, _, dxu, _, _, rfl, s1 _ _ eu, T.c_Rule, T.n_Rule_left, ruleF_left l r, ?_⟩
  walk_at "go"
  refine lenA_str (by rw [tx_len]; exact small2 (by omega)) ?_
  rw [tx_len]
  walk_at "go"
  refine slA_lst (.of eL) fun p hp => ?_
  rw [cutV_any]
  have s2 := Same.new (o := .lst ((((ps.map Prod.snd).map V.int).drop n).take l.length)) hp
  walk_at "go"
  have hw := win_len hf
  rw [Int.toNat_natCast] at hw
  have hne : (win ps n l.length).map Prod.snd ≠ [] := fun q => by
    have := congrArg List.length q
    rw [List.length_map, hw, List.length_nil] at this
    omega
  refine min_ok (hs := (win ps n l.length).map Prod.snd) (by rw [upd_same]; unfold win; rw [List.map_take, List.map_drop, List.map_take, List.map_drop]) hne ?_
  walk_at "go"
  exact h _ (s1.trans s2)
theorem stepP_ok {ps : List (Nat × Int)} {l r : List Nat} {k : Int} (hl : 1 ≤ l.length) (ok : Okp ps) (hr : ∀ c ∈ r, c ∈ letters) (hf : fitsP ps l k) (h9 : r = [] ∨ wrote ps l k ≤ 9) : Okp (stepP ps l r k) := by
  have hw := wrote_range hl ok hf
  refine ((ok.sub fun p h => List.mem_of_mem_take h).app fun p h => ?_).app (ok.sub fun p h => List.mem_of_mem_drop h)
  obtain ⟨c, hc, rfl⟩ := List.mem_map.mp h
  refine ⟨hr c hc, by show 0 ≤ wrote ps l k; omega, ?_⟩
  rcases h9 with q | q
  · rw [q] at hc; cases hc
  · exact q
theorem stepP_len {ps : List (Nat × Int)} {l r : List Nat} {k : Int} : (stepP ps l r k).length ≤ ps.length + r.length := by
  unfold stepP
  rw [List.length_append, List.length_append, List.length_take, List.length_map, List.length_drop]
  omega
def t_Rule_new (K : Frg) (E : XK) : TS :=
  (tSeq (tAsg (tMakeS (He.ga K "Row") (sp_Row_init K) (List.drop 2 [.str "", .non]) (WE (W0 E)) (tCons (tFld K (tVar 0) "right") (tCons (tOp rMulA (tLst (tCons (tVar 3) tNil)) (tCB (rLenA K) (tCons (tFld K (tVar 0) "right") tNil))) tNil))) (gName 4)) (tRet (tOwn (He.ga K "Row") (sp_Row_add K) (WE (W0 E)) (isIns (He.ga K "Row")) (tOwn (He.ga K "Row") (sp_Row_add K) (WE (W0 E)) (isIns (He.ga K "Row")) (tOwn (He.ga K "Row") (sp_Row_getitem K) (WE (W0 E)) anyV (tVar 1) (tSli (tC (.int 0)) (tVar 2))) (tVar 4)) (tOwn (He.ga K "Row") (sp_Row_getitem K) (WE (W0 E)) anyV (tVar 1) (tSli (tOp rAddA (tVar 2) (tCB (rLenA K) (tCons (tFld K (tVar 0) "left") tNil))) (tLenO (He.ga K "Row") (sp_Row_len K) (WE (W0 E)) (tCons (tVar 1) tNil)))))))
theorem rule_new_ok {P : Program} {mg : Str → Option Value} (T : Txt P K mg) {u y D : Addr} {l r : List Nat} {ps : List (Nat × Int)} {k : Int} {H : Hp} {Dn : Ends} {E : XK} (hn : ps.length ≤ 4000) (hl : 1 ≤ l.length) (hl2 : l.length ≤ 4) (hr2 : r.length ≤ 4) (hr : ∀ c ∈ r, c ∈ letters) (ok : Okp ps) (hu : RuleAt K H u l r) (hy : RowAt K H y D ps)
    (hf : fitsP ps l k) (h9 : r = [] ∨ wrote ps l k ≤ 9)
    (h : ∀ z F H', Same H H' → H z = none → H F = none → RowAt K H' z F (stepP ps l r k) → Dn.rt (.ref z) H') : t_Rule_new K E Dn [some (.ref u), some (.ref y), some (.int k), some (.int (wrote ps l k)), none] H := by
  unfold t_Rule_new
  obtain ⟨n, rfl⟩ : ∃ n : Nat, k = n := ⟨k.toNat, by have := hf.1; omega⟩
  have hle := fits_le hl hf
  have hw := wrote_range hl ok hf
  obtain ⟨dxu, eu⟩ := id hu
  walk_at "sq"
  walk_at "st"
  refine ⟨u, _, dxu, _, _, rfl, eu, T.c_Rule, T.n_Rule_right, ruleF_right l r, ?_⟩
  walk_at "st"
  intro p1 hp1
  have s1 := Same.new (o := .lst [.int (wrote ps l n)]) hp1
  walk_at "st"
  refine ⟨u, _, dxu, _, _, rfl, s1 _ _ eu, T.c_Rule, T.n_Rule_right, ruleF_right l r, ?_⟩
  walk_at "st"
  refine lenA_str (by rw [tx_len]; exact small2 (by omega)) ?_
  rw [tx_len]
  walk_at "st"
  refine .inr (.inl ⟨p1, _, _, rfl, rfl, upd_same, by omega, by omega, by rw [List.length_singleton, sizeLine_eq]; omega, fun b hb => ?_⟩)
  have eb : (List.replicate (r.length : Int).toNat [V.int (wrote ps l n)]).flatten = (r.map fun _ => wrote ps l n).map V.int := by
    rw [Int.toNat_natCast, List.map_map]
    clear hr hr2 h9 h hu eu
    induction r with
    | nil => rfl
    | cons c t ih => rw [List.length_cons, List.replicate_succ, List.flatten_cons, ih]; rfl
  rw [eb]
  have s2 := s1.trans (Same.new (o := .lst ((r.map fun _ => wrote ps l n).map V.int)) hb)
  walk_at "st"
  have okn : Okp (r.map fun c => (c, wrote ps l n)) := fun q hq => by
    obtain ⟨c, hc, rfl⟩ := List.mem_map.mp hq
    refine ⟨hr c hc, by show 0 ≤ wrote ps l n; omega, ?_⟩
    rcases h9 with z | z
    · rw [z] at hc; cases hc
    · exact z
  refine row_make_ok T (ps := r.map fun c => (c, wrote ps l n)) (by rw [List.length_map]; omega) (by rw [List.map_map]; exact (List.map_id r).symm) (by rw [List.map_map]; rfl) okn upd_same fun y2 D2 H3 s3 _ _ r2 => ?_
  have t3 := s2.trans s3
  walk_at "st"
  walk_at "st"
  refine ⟨0, n, rfl, rfl, fun sl hsl => ?_⟩
  have s4 := t3.trans (Same.new (o := Sli sl 0 n) hsl)
  obtain ⟨dx, ey⟩ := (hy.same s4).1
  refine ⟨y, dx, _, rfl, ey, trivial, row_cut_ok T (i := 0) (by omega) (Nat.zero_le _) (by omega) (hy.same s4) ok upd_same fun y5 D5 H5 s5 _ _ r5 => ?_⟩
  have t5 := s4.trans s5
  walk_at "st"
  have r2' := (r2.same (Same.new (o := Sli sl 0 n) hsl)).same s5
  obtain ⟨dx5, ey5⟩ := r5.1
  obtain ⟨dx2, ey2⟩ := r2'.1
  have c5 : (cutP ps 0 n).length ≤ ps.length := cutP_len
  refine ⟨y5, dx5, _, rfl, ey5, ⟨y2, dx2, _, rfl, ey2⟩, row_add_ok T (by rw [List.length_map]; omega) r5 r2' (cutP_ok ok) okn fun y6 D6 H6 s6 _ _ r6 => ?_⟩
  have t6 := t5.trans s6
  walk_at "st"
  refine ⟨u, _, dxu, _, _, rfl, t6 _ _ eu, T.c_Rule, T.n_Rule_left, ruleF_left l r, ?_⟩
  walk_at "st"
  refine lenA_str (by rw [tx_len]; exact small2 (by omega)) ?_
  rw [tx_len]
  walk_at "st"
  obtain ⟨dx6, ey6⟩ := (hy.same t6).1
  refine ⟨y, dx6, _, rfl, ey6, row_len_ok T (hy.same t6) ⟨_, rfl, by omega, by omega, ?_⟩⟩
  refine ⟨_, _, rfl, rfl, fun sm hsm => ?_⟩
  have s7 := Same.new (o := Sli sm ((n : Int) + (l.length : Int)) ps.length) hsm
  have t7 := t6.trans s7
  obtain ⟨dx7, ey7⟩ := (hy.same t7).1
  refine ⟨y, dx7, _, rfl, ey7, trivial, row_cut_ok T (i := n + l.length) (j := ps.length) (by omega) (by have := hle; rw [Int.toNat_natCast] at this; exact this) (Nat.le_refl _) (hy.same t7) ok (by rw [upd_same]; congr 2) fun y8 D8 H8 s8 _ _ r8 => ?_⟩
  have t8 := t7.trans s8
  have r6' := (r6.same s7).same s8
  obtain ⟨dx6', ey6'⟩ := r6'.1
  obtain ⟨dx8, ey8⟩ := r8.1
  have c8 : (cutP ps (n + l.length) ps.length).length ≤ ps.length := cutP_len
  refine ⟨y6, dx6', _, rfl, ey6', ⟨y8, dx8, _, rfl, ey8⟩, row_add_ok T (by rw [List.length_append, List.length_map]; omega) r6' r8 ((cutP_ok ok).app okn) (cutP_ok ok) fun y9 D9 H9 s9 f1 f2 r9 => ?_⟩
  have e9 : cutP ps 0 n ++ (r.map fun c => (c, wrote ps l n)) ++ cutP ps (n + l.length) ps.length = stepP ps l r n := by
    unfold stepP cutP
    rw [List.drop_zero, Nat.sub_zero, Int.toNat_natCast, List.take_of_length_le (by rw [List.length_drop]; omega : (ps.drop (n + l.length)).length ≤ ps.length - (n + l.length))]
  rw [e9] at r9
  exact h y9 D9 H9 (t8.trans s9) (t8.free f1) (t8.free f2) r9
theorem rule_call_ok {P : Program} {mg : Str → Option Value} (T : Txt P K mg) {u y D : Addr} {l r : List Nat} {ps : List (Nat × Int)} {k : Int} {H : Hp} {Q : VK} {E : XK} (hn : ps.length ≤ 4000) (hl : 1 ≤ l.length) (hl2 : l.length ≤ 4) (hr2 : r.length ≤ 4) (hr : ∀ c ∈ r, c ∈ letters) (ok : Okp ps) (hu : RuleAt K H u l r) (hy : RowAt K H y D ps)
    (hE1 : ¬ fitsP ps l k → ∀ H' d, Same H H' → H' d = none → E (.ref (He.ga K "Mismatch")) (some d) (upd H' d (.xd [("at", .int k)])))
    (hE2 : fitsP ps l k → r ≠ [] → 9 < wrote ps l k → ∀ H' d, Same H H' → H' d = none → E (.ref (He.ga K "Beyond")) (some d) (upd H' d (.xd [("height", .int (wrote ps l k))])))
    (h : fitsP ps l k → (r = [] ∨ wrote ps l k ≤ 9) → ∀ z F H', Same H H' → H z = none → H F = none → RowAt K H' z F (stepP ps l r k) → Q (.ref z) H') : sp_Rule_call K [.ref u, .ref y, .int k] H Q E := by
  refine ⟨rfl, ?_⟩
  unfold t_Rule_call
  walk_at "st"
  walk_at "sq"
  walk_at "st"
  obtain ⟨dxu, eu⟩ := id hu
  have lk1 : ∀ v w : V, List.lookup ("fits" : Str) [(("left" : Str), v), (("right" : Str), w)] = none := fun v w => by
    have a : (("fits" : Str) == "left") = false := by decide +kernel
    have b : (("fits" : Str) == "right") = false := by decide +kernel
    simp [List.lookup, a, b]
  have lk2 : ∀ v w : V, List.lookup ("written_height" : Str) [(("left" : Str), v), (("right" : Str), w)] = none := fun v w => by
    have a : (("written_height" : Str) == "left") = false := by decide +kernel
    have b : (("written_height" : Str) == "right") = false := by decide +kernel
    simp [List.lookup, a, b]
  refine ⟨u, dxu, _, rfl, eu, lk1 _ _, ?_⟩
  walk_at "st"
  refine fits_ok T (by omega) (by omega) hu hy fun H1 s1 => ?_
  by_cases hf : fitsP ps l k
  case neg =>
    rw [decide_eq_false hf]
    walk_at "auto"
    exact ⟨_, rfl, fun d hd => hE1 hf H1 d s1 hd⟩
  rw [decide_eq_true hf]
  walk_at "st"
  walk_at "sq"
  walk_at "st"
  refine ⟨u, dxu, _, rfl, s1 _ _ eu, lk2 _ _, ?_⟩
  walk_at "st"
  have hu1 : RuleAt K H1 u l r := ⟨dxu, s1 _ _ eu⟩
  refine written_ok T (by omega) hl (by omega) hf hu1 (hy.same s1) fun H2 s2 => ?_
  have hw := wrote_range hl ok hf
  have s12 := s1.trans s2
  walk_at "st"
  walk_at "sq"
  walk_at "st"
  refine ⟨u, _, dxu, _, _, rfl, s12 _ _ eu, T.c_Rule, T.n_Rule_right, ruleF_right l r, ?_⟩
  walk_at "st"
  have ee : (Str.ofString "") = tx [] := by decide +kernel
  have er : decide (tx r = Str.ofString "") = decide (r = []) := by
    apply decide_eq_decide.mpr
    rw [ee, tx_inj]
  rw [er]
  by_cases c0 : r = []
  · rw [decide_eq_true c0]
    walk_at "st"
    refine rule_new_ok T hn hl hl2 hr2 hr ok ⟨dxu, s12 _ _ eu⟩ (hy.same s12) hf (.inl c0) ?_
    exact fun z F H' s f1 f2 rz => h hf (.inl c0) z F H' (s12.trans s) (s12.free f1) (s12.free f2) rz
  rw [decide_eq_false c0]
  walk_at "st"
  by_cases c1 : 9 < wrote ps l k
  · walk_at "st"
    exact ⟨_, rfl, fun d hd => hE2 hf c0 c1 H2 d s12 hd⟩
  walk_at "st"
  refine rule_new_ok T hn hl hl2 hr2 hr ok ⟨dxu, s12 _ _ eu⟩ (hy.same s12) hf (.inr (by omega)) ?_
  exact fun z F H' s f1 f2 rz => h hf (.inr (by omega)) z F H' (s12.trans s) (s12.free f1) (s12.free f2) rz
/-! letters drawn -/
theorem filter_ne_len : ∀ (L : List Nat) (c : Nat), L.Nodup → L.length ≤ (L.filter fun x => decide (x ≠ c)).length + 1
  | [], _, _ => Nat.zero_le _
  | x :: r, c, h => by
    have hx : x ∉ r := (List.nodup_cons.mp h).1
    have hr := (List.nodup_cons.mp h).2
    by_cases e : x = c
    · have : (r.filter fun y => decide (y ≠ c)) = r := List.filter_eq_self.mpr fun y hy => decide_eq_true fun q => hx (by rw [e, ← q]; exact hy)
      rw [List.filter_cons_of_neg (by simp [e]), this]
      exact Nat.le_refl _
    · have := filter_ne_len r c hr
      rw [List.filter_cons_of_pos (by simp [e]), List.length_cons, List.length_cons]
      omega
theorem filter_out_len : ∀ (s L : List Nat), L.Nodup → L.length ≤ (L.filter fun x => decide (x ∉ s)).length + s.length
  | [], L, _ => by
    have : (L.filter fun x => decide (x ∉ ([] : List Nat))) = L := List.filter_eq_self.mpr fun y _ => decide_eq_true (by simp)
    rw [this]
    exact Nat.le_refl _
  | c :: s, L, h => by
    have h1 := filter_out_len s L h
    have h2 := filter_ne_len (L.filter fun x => decide (x ∉ s)) c (h.filter _)
    rw [List.filter_filter] at h2
    have e : (L.filter fun x => decide (x ≠ c) && decide (x ∉ s)) = L.filter fun x => decide (x ∉ c :: s) := by
      apply List.filter_congr
      intro x _
      by_cases a : x = c <;> by_cases b : x ∈ s <;> simp [a, b]
    rw [e] at h2
    rw [List.length_cons]
    omega
theorem letters_nodup : letters.Nodup := by decide +kernel
theorem letters_len : letters.length = 26 := by decide +kernel
theorem alphabet_ok {d : Addr} {m : Int} {H : Hp} {Q : VK} {E : XK} (h0 : 0 ≤ m) (h1 : m ≤ 20) (hd : DrL H d)
    (h : ∀ (s : List Nat) H', s.length = m.toNat → (∀ c ∈ s, c ∈ letters) → s.Nodup → Keep d H H' → DrL H' d → Q (.str (tx s)) H') : sp_law_alphabet K [.ref d, .int m] H Q E := by
  refine ⟨rfl, ?_⟩
  unfold t_law_alphabet
  walk_at "go"
  refine ⟨m, rfl, by omega, by omega, ?_⟩
  have ee : (Str.ofString "") = tx [] := by decide +kernel
  have el : (Str.ofString "abcdefghijklmnopqrstuvwxyz") = tx letters := (tx_self _).symm
  refine forR (n := m) (fun i σ H2 => ∃ (s : List Nat) (v4 v5 v6 : Option V), σ = [some (.ref d), some (.int m), some (.str (tx letters)), some (.str (tx s)), v4, v5, v6] ∧ s.length = i ∧ (∀ c ∈ s, c ∈ letters) ∧ s.Nodup ∧ Keep d H H2 ∧ DrL H2 d)
    ⟨[], none, none, none, by rw [← el, ← ee]; rfl, rfl, by simp, by simp, Keep.refl, hd⟩ ?_ ?_
  · rintro i σ H2 hi ⟨s, v4, v5, v6, rfl, hl, hs, nd, k2, d2⟩
    walk_at "go"
    refine ⟨_, rfl, ?_⟩
    intro L hL
    refine lc_it (walk_str (z := tx letters)) (fun j H3 => Same H2 H3 ∧ H3 L = some (.lst (((letters.take j).filter fun x => decide (x ∉ s)).map fun c => V.str (tx [c])))) ⟨Same.new hL, by rw [upd_same]; rfl⟩ (fun _ _ _ _ => trivial) ?_ ?_
    · rintro j x H3 H4 hj ⟨s3, eL⟩ ⟨rfl, c, hc, rfl⟩
      rw [tx_get] at hc
      have hlt := (List.getElem?_eq_some_iff.mp hc).1
      have etk : letters.take (j + 1) = letters.take j ++ [c] := by
        rw [List.take_succ_eq_append_getElem hlt, (List.getElem?_eq_some_iff.mp hc).2]
      walk_at "go"
      refine ⟨rfl, ?_⟩
      walk_at "go"
      refine notInA_sign ?_
      refine ⟨_, rfl, ?_⟩
      rw [tx_toList]
      refine rd_iteN (fun cs => ?_) (fun cs => ?_)
      · walk_at "go"
        refine ⟨_, eL, by rw [List.length_map, sizeLine_eq]; have := List.length_filter_le (fun x => decide (x ∉ s)) (letters.take j); have := List.length_take_le j letters; have := letters_len; omega, fun b o e => ?_, ?_⟩
        · rw [upd_ne (ne_of_none e hL)]
          exact s3 _ _ e
        · rw [upd_same, etk, List.filter_append, List.map_append]
          have e1 : ([c].filter fun x => decide (x ∉ s)) = [c] := by simp [cs]
          rw [e1]
          rfl
      · refine ⟨s3, ?_⟩
        have e1 : ([c].filter fun x => decide (x ∉ s)) = [] := by simp [cs]
        rw [eL, etk, List.filter_append, e1, List.append_nil]
    · rintro H3 ⟨s3, eL⟩
      have ez : (tx letters).cps.size = letters.length := tx_len letters
      rw [ez, List.take_length] at eL
      have fl := filter_out_len s letters letters_nodup
      rw [letters_len] at fl
      have d3 := d2.same s3
      have Ld : L ≠ d := fun q => by
        obtain ⟨_, _, e⟩ := d2
        rw [q] at hL
        rw [hL] at e
        cases e
      walk_at "go"
      refine lenA_lst (.of eL) ?_
      rw [List.length_map]
      walk_at "go"
      refine pick_ok (by omega) d3 fun q H4 q0 q1 k4 d4 => ?_
      obtain ⟨n, rfl⟩ : ∃ n : Nat, q = n := ⟨q.toNat, by omega⟩
      have hn : n < (letters.filter fun x => decide (x ∉ s)).length := by omega
      have hmem := List.mem_filter.mp (List.getElem_mem hn)
      refine ixA_lst (.of (k4 _ _ Ld eL)) (atI_nat (by rw [List.getElem?_map, List.getElem?_eq_getElem hn]; rfl)) ?_
      refine addA_str (by rw [tx_len, tx_len]; exact small2 (by simp; omega)) ?_
      rw [tx_app]
      walk_at "go"
      refine ⟨s ++ [_], _, _, _, rfl, by rw [List.length_append, hl]; rfl, fun c hc => ?_, ?_, ((k2.trans (Keep.same s3)).trans k4), d4⟩
      · rcases List.mem_append.mp hc with z | z
        · exact hs c z
        · rw [List.mem_singleton.mp z]; exact hmem.1
      · refine List.nodup_append.mpr ⟨nd, by simp, fun a ha b hb e => ?_⟩
        rw [List.mem_singleton.mp hb] at e
        have := of_decide_eq_true hmem.2
        rw [← e] at this
        exact this ha
  · rintro σ H2 ⟨s, v4, v5, v6, rfl, hl, hs, nd, k2, d2⟩
    walk_at "go"
    exact h s H2 hl hs nd k2 d2
/-! comprehensions whose target is a pair -/
theorem wipe_two {σ : L2.St} {i j : Nat} {a b : Option V} (h : i ≠ j) : wipe (((wipe σ [i, j]).set i a).set j b) [i, j] = wipe σ [i, j] := by
  show (((((σ.set j none).set i none).set i a).set j b).set j none).set i none = (σ.set j none).set i none
  rw [List.set_set, List.set_set, List.set_comm _ _ h, List.set_set, List.set_set]
theorem comp2 {σ : L2.St} {M : Addr} {ps : List (Nat × Int)} {i j v : Nat} {H : Hp} {Q : VK} (f : Nat × Int → V) (hf : (∀ p : Nat × Int, f p = .str (tx [p.1])) ∧ v = i ∨ (∀ p : Nat × Int, f p = .int p.2) ∧ v = j) (hi : i < σ.length) (hj : j < σ.length) (hij : i ≠ j) (hM : Prs H M ps) (hn : ps.length ≤ 10000)
    (h : ∀ D H', Same H H' → H D = none → H' D = some (.lst (ps.map f)) → Q (.ref D) H') : LcG K (.ref M) (gTup K 2 (gCons (gName i) (gCons (gName j) gNil))) (tVar v) [i, j] σ H Q := by
  obtain ⟨as, eM, hl, hp⟩ := hM.mapc
  refine lcV (ps.map f) (.of eM) (by simp [hl]) (by simp; omega) ?_ h
  intro n x y H2 C s2 hx hy hC
  rw [List.getElem?_map] at hy
  obtain ⟨p, hp2, rfl⟩ := Option.map_eq_some_iff.mp hy
  obtain ⟨a, rfl, ea⟩ := hp n x p hx hp2
  refine rd_gtup (s2 _ _ ea) rfl (rd_gcons (rd_name (rd_gcons (rd_name (rd_gnil ?_)))))
  refine ⟨wipe_two hij, ?_⟩
  have lw : (wipe σ [i, j]).length = σ.length := wipe_length σ [i, j]
  rcases hf with ⟨hf, rfl⟩ | ⟨hf, rfl⟩
  · rw [hf] at hC
    exact ⟨.str (tx [p.1]), by rw [List.getElem?_set_ne (Ne.symm hij), List.getElem?_set_self (by rw [lw]; exact hi)], hC _ (Same.refl _)⟩
  · rw [hf] at hC
    exact ⟨.int p.2, by rw [List.getElem?_set_self (by rw [List.length_set, lw]; exact hj)], hC _ (Same.refl _)⟩
theorem comp2_fst {σ : L2.St} {M : Addr} {ps : List (Nat × Int)} {i j : Nat} {H : Hp} {Q : VK} (hi : i < σ.length) (hj : j < σ.length) (hij : i ≠ j) (hM : Prs H M ps) (hn : ps.length ≤ 10000)
    (h : ∀ D H', Same H H' → H D = none → H' D = some (.lst ((ps.map Prod.fst).map fun c => V.str (tx [c]))) → Q (.ref D) H') : LcG K (.ref M) (gTup K 2 (gCons (gName i) (gCons (gName j) gNil))) (tVar i) [i, j] σ H Q :=
  comp2 (fun p => .str (tx [p.1])) (.inl ⟨fun _ => rfl, rfl⟩) hi hj hij hM hn fun D H' s f e => h D H' s f (by rw [e, List.map_map]; rfl)
theorem comp2_snd {σ : L2.St} {M : Addr} {ps : List (Nat × Int)} {i j : Nat} {H : Hp} {Q : VK} (hi : i < σ.length) (hj : j < σ.length) (hij : i ≠ j) (hM : Prs H M ps) (hn : ps.length ≤ 10000)
    (h : ∀ D H', Same H H' → H D = none → H' D = some (.lst ((ps.map Prod.snd).map V.int)) → Q (.ref D) H') : LcG K (.ref M) (gTup K 2 (gCons (gName i) (gCons (gName j) gNil))) (tVar j) [i, j] σ H Q :=
  comp2 (fun p => .int p.2) (.inr ⟨fun _ => rfl, rfl⟩) hi hj hij hM hn fun D H' s f e => h D H' s f (by rw [e, List.map_map]; rfl)
theorem Prs.keepD {H H' : Hp} {D e : Addr} {ps : List (Nat × Int)} (h : Prs H D ps) (k : Keep e H H') (n : D ≠ e) (he : DrL H e) : Prs H' D ps := let ⟨_, _, q⟩ := he; h.keep k n q
theorem Prs.push {H : Hp} {M T : Addr} {ps : List (Nat × Int)} {c : Nat} {z : Int} {as : List Addr} (hM : H M = some (.lst (as.map V.ref))) (hl : as.length = ps.length) (hp : ∀ (j : Nat) (a : Addr) (p : Nat × Int), as[j]? = some a → ps[j]? = some p → H a = some (.tup [.str (tx [p.1]), .int p.2]))
    (hT : H T = some (.tup [.str (tx [c]), .int z])) : Prs (upd H M (.lst (as.map V.ref ++ [.ref T]))) M (ps ++ [(c, z)]) := by
  refine ⟨as ++ [T], by rw [upd_same, List.map_append]; rfl, by rw [List.length_append, List.length_append, hl]; rfl, fun j a p e1 e2 => ?_⟩
  have key : H a = some (.tup [.str (tx [p.1]), .int p.2]) := by
    by_cases hj : j < as.length
    · rw [List.getElem?_append_left hj] at e1
      rw [List.getElem?_append_left (by omega)] at e2
      exact hp j a p e1 e2
    · have hj2 : j = as.length := by
        have := (List.getElem?_eq_some_iff.mp e1).1
        rw [List.length_append, List.length_singleton] at this
        omega
      subst hj2
      rw [List.getElem?_append_right (Nat.le_refl _), Nat.sub_self] at e1
      rw [List.getElem?_append_right (by omega), show as.length - ps.length = 0 by omega] at e2
      cases e1
      cases e2
      exact hT
  rw [upd_ne (fun q => by rw [q, hM] at key; cases key)]
  exact key
/-! the step as the law reckons it -/
theorem prs_win {M : Addr} {ps : List (Nat × Int)} {k n : Nat} {H : Hp} {Q : VK} (hM : Prs H M ps) (h : ∀ p H', Same H H' → H p = none → Prs H' p (win ps k n) → Q (.ref p) H') : rSlA K (.ref M) (some (k : Int)) (some ((k : Int) + (n : Int))) H Q := by
  obtain ⟨as, eM, la, ha⟩ := hM
  refine slA_lst (.of eM) fun p hp => ?_
  rw [cutV_any]
  refine h p _ (Same.new hp) hp ⟨(as.drop k).take n, by rw [upd_same, List.map_take, List.map_drop], by unfold win; simp [la], fun j a q e1 e2 => ?_⟩
  unfold win at e2
  rw [List.getElem?_take] at e1 e2
  split at e1
  · rename_i c
    rw [if_pos c, List.getElem?_drop] at e2
    rw [List.getElem?_drop] at e1
    have key := ha _ a q e1 e2
    rw [upd_ne (ne_of_none key hp)]
    exact key
  · cases e1
theorem win_none {ps : List (Nat × Int)} {l : List Nat} {k : Int} (h : ¬ fitsP ps l k) (h0 : 0 ≤ k) : (win ps k.toNat l.length).map Prod.fst ≠ l := fun q => h ⟨h0, q⟩
theorem take_ok {M S : Addr} {l r : List Nat} {ps : List (Nat × Int)} {k : Int} {H : Hp} {Q : VK} {E : XK} (hn : ps.length ≤ 4000) (hl : 1 ≤ l.length) (hl2 : l.length ≤ 4) (hr2 : r.length ≤ 4) (hM : Prs H M ps) (hS : H S = some (.tup [.str (tx l), .str (tx r)]))
    (h0 : ¬ fitsP ps l k → ∀ H', Same H H' → Q .non H') (h1 : fitsP ps l k → ∀ p H', Same H H' → H p = none → Prs H' p (stepP ps l r k) → Q (.ref p) H') : sp_law_take K [.ref M, .ref S, .int k] H Q E := by
  refine ⟨rfl, ?_⟩
  unfold t_law_take
  walk_at "st"
  walk_at "sq"
  walk_at "st"
  refine ixA_tup (SqT.of hS) (v := .str (tx l)) rfl ?_
  walk_at "st"
  walk_at "sq"
  walk_at "st"
  have ee : (Str.ofString "") = tx [] := by decide +kernel
  by_cases c : 0 ≤ k
  case neg =>
    have nf : ¬ fitsP ps l k := fun q => c q.1
    walk_at "st"
    intro p hp
    have sp := Same.new (o := .lst []) hp
    walk_at "st"
    walk_at "sq"
    walk_at "st"
    refine ⟨⟨_, rfl⟩, ?_⟩
    walk_at "st"
    refine comp2_fst (ps := []) (Nat.le_of_ble_eq_true rfl) (Nat.le_of_ble_eq_true rfl) (by decide) ⟨[], upd_same, rfl, fun j a q e => by simp at e⟩ (by decide) fun L H1 s1 _ e1 => ?_
    refine join_ok e1 (by decide) ?_
    have en : decide (tx (([] : List (Nat × Int)).map Prod.fst) = tx l) = false := decide_eq_false fun q => by
      have := congrArg List.length (tx_inj.mp q)
      rw [List.map_nil, List.length_nil] at this
      omega
    walk_at "st"
    rw [en]
    walk_at "st"
    exact h0 nf _ (sp.trans s1)
  obtain ⟨n, rfl⟩ : ∃ n : Nat, k = n := ⟨k.toNat, by omega⟩
  walk_at "st"
  refine lenA_str (by rw [tx_len]; exact small2 (by omega)) ?_
  rw [tx_len]
  walk_at "st"
  refine prs_win hM fun W H1 s1 _ pW => ?_
  walk_at "st"
  walk_at "sq"
  walk_at "st"
  refine ⟨⟨_, rfl⟩, ?_⟩
  walk_at "st"
  have lW : (win ps n l.length).length ≤ 4 := by unfold win; rw [List.length_take]; omega
  refine comp2_fst (Nat.le_of_ble_eq_true rfl) (Nat.le_of_ble_eq_true rfl) (by decide) pW (by omega) fun L H2 s2 _ e2 => ?_
  refine join_ok e2 (by rw [List.length_map]; omega) ?_
  walk_at "st"
  have s12 := s1.trans s2
  by_cases hf : fitsP ps l n
  case neg =>
    have en : decide (tx ((win ps n l.length).map Prod.fst) = tx l) = false := decide_eq_false fun q => win_none hf c (by rw [Int.toNat_natCast]; exact tx_inj.mp q)
    rw [en]
    walk_at "st"
    exact h0 hf _ s12
  have en : decide (tx ((win ps n l.length).map Prod.fst) = tx l) = true := decide_eq_true (tx_inj.mpr (by have := hf.2; rw [Int.toNat_natCast] at this; exact this))
  rw [en]
  have hw := win_len hf
  have hle := fits_le hl hf
  rw [Int.toNat_natCast] at hw hle
  walk_at "st"
  walk_at "sq"
  walk_at "st"
  refine comp2_snd (Nat.le_of_ble_eq_true rfl) (Nat.le_of_ble_eq_true rfl) (by decide) (pW.same s2) (by omega) fun L3 H3 s3 _ e3 => ?_
  walk_at "st"
  have hne : (win ps n l.length).map Prod.snd ≠ [] := fun q => by
    have := congrArg List.length q
    rw [List.length_map, hw, List.length_nil] at this
    omega
  refine min_ok e3 hne ?_
  have s13 := s12.trans s3
  walk_at "st"
  refine prs_take (hM.same s13) (by omega) fun A H4 s4 _ pA => ?_
  walk_at "st"
  have s14 := s13.trans s4
  refine ixA_tup (SqT.of (s14 _ _ hS)) (v := .str (tx r)) rfl ?_
  refine ⟨_, rfl, ?_⟩
  intro N hN
  generalize hm : minH ((win ps n l.length).map Prod.snd) = m
  refine lc_it (walk_str (z := tx r)) (fun i H5 => Same H4 H5 ∧ Prs H5 N ((r.take i).map fun c => (c, m + 1))) ⟨Same.new hN, ⟨[], upd_same, rfl, fun j a q e => by simp at e⟩⟩ (fun _ _ _ _ => trivial) ?_ ?_
  · rintro i x H5 H6 hi ⟨s5, p5⟩ ⟨rfl, c2, hc, rfl⟩
    rw [tx_get] at hc
    walk_at "go"
    refine ⟨rfl, ?_⟩
    walk_at "go"
    intro Tp hT
    have sT := Same.new (o := .tup [.str ⟨#[c2]⟩, .int (m + 1)]) hT
    obtain ⟨as, eN, la, ha⟩ := p5.same sT
    refine ⟨_, eN, by rw [List.length_map, sizeLine_eq, la, List.length_map, List.length_take]; omega, fun b o e => ?_, ?_⟩
    · rw [upd_ne (ne_of_none e hN)]
      exact sT _ _ (s5 _ _ e)
    · have hlt := (List.getElem?_eq_some_iff.mp hc).1
      rw [List.take_succ_eq_append_getElem hlt, (List.getElem?_eq_some_iff.mp hc).2, List.map_append]
      exact Prs.push eN la ha upd_same
  · rintro H5 ⟨s5, p5⟩
    have ez : (tx r).cps.size = r.length := tx_len r
    rw [ez, List.take_length] at p5
    walk_at "st"
    refine prs_cat (pA.same s5) p5 (by rw [List.length_take, List.length_map]; omega) fun B H6 s6 _ pB => ?_
    walk_at "st"
    refine lenA_str (by rw [tx_len]; exact small2 (by omega)) ?_
    rw [tx_len]
    walk_at "st"
    have s16 := (s14.trans s5).trans s6
    rw [show (n : Int) + (l.length : Int) = ((n + l.length : Nat) : Int) by omega]
    refine prs_drop (hM.same s16) (by omega) fun C H7 s7 _ pC => ?_
    refine prs_cat (pB.same s7) pC (by rw [List.length_append, List.length_take, List.length_map, List.length_drop]; omega) fun F H8 s8 fF pF => ?_
    refine h1 hf F H8 (s16.trans (s7.trans s8)) ((s16.trans s7).free fF) ?_
    have e9 : ps.take n ++ (r.map fun c => (c, m + 1)) ++ ps.drop (n + l.length) = stepP ps l r n := by
      unfold stepP wrote
      rw [Int.toNat_natCast, hm]
      congr 2
      apply List.map_congr_left
      intro c _
      rw [Int.add_comm]
    rw [e9] at pF
    exact pF
theorem atl (v : V) : List.lookup ("at" : Str) [(("at" : Str), v)] = some v := by simp [List.lookup]
theorem rd_methK {C : Addr} {m : Str} {n j : Nat} {sp : Sp} {gV : List V → List V → List V} {E : L2.St → XK} {ta : TE} {t tk : TA} {σ : L2.St} {H : Hp} {Q : VK} (h : ta σ H fun y H1 => ∃ a dx fs, y = .ref a ∧ H1 a = some (.ins C dx fs) ∧ fs.lookup m = none ∧
    t σ H1 fun vs H2 => tk σ H2 fun zs H3 => vs.length = n ∧ zs.length = j ∧ sp (gV (y :: vs) zs) H3 Q (E σ)) : tMethK C m n j sp gV E ta t tk σ H Q := h
local macro_rules | `(tactic| walk_at "rd") => `(tactic| (with_reducible refine rd_methK ?_))
theorem RuleAt.same {H H' : Hp} {u : Addr} {l r : List Nat} (h : RuleAt K H u l r) (s : Same H H') : RuleAt K H' u l r := let ⟨dx, a⟩ := h; ⟨dx, s _ _ a⟩
theorem RuleAt.keep {H H' : Hp} {u F : Addr} {l r : List Nat} {xs : List V} (h : RuleAt K H u l r) (k : Keep F H H') (e : H F = some (.lst xs)) : RuleAt K H' u l r := let ⟨dx, a⟩ := h; ⟨dx, k _ _ (fun z => by rw [z, e] at a; cases a) a⟩
theorem rule_make_ok {P : Program} {mg : Str → Option Value} (T : Txt P K mg) {l r : List Nat} {H : Hp} {Q : VK} {E : XK} (hl : 1 ≤ l.length) (hl2 : l.length ≤ 4) (hr2 : r.length ≤ 4) (ol : ∀ c ∈ l, c ∈ letters) (hr : ∀ c ∈ r, c ∈ letters)
    (h : ∀ u H', Same H H' → H u = none → RuleAt K H' u l r → Q (.ref u) H') : MkG (He.ga K "Rule") (sp_Rule_init K) (List.drop 1 [.str ""]) [.str (tx l), .str (tx r)] H Q E := by
  intro y dx hy hdx hne
  have f1 := fo_ok ol
  have f2 := fo_ok hr
  refine rule_init_ok T (by omega) (by omega) upd_same ?_ ?_ ?_ ?_
  · intro _ _ _ H1 k1 e1
    exact ⟨rfl, h y H1 (keep_same hy hdx k1) hy ⟨dx, e1⟩⟩
  · intro c; omega
  · intro _ c; omega
  · intro _ _ c; exact absurd ⟨hl, hl2, hr2⟩ c
/-! texts cut at a sign -/
theorem tx_tl (z : Str) : tx (TL.tl z) = z := tx_self z
theorem split_join {s : Nat} {parts : List (List Nat)} (hs : s < 256) (hne : parts ≠ []) (hf : ∀ p ∈ parts, s ∉ p) : Txt.split (tx (TL.joinL [s] parts)) (tx [s]) = parts.map tx := by
  have h1 : TL.tl (tx [s]) = [s] := by simp [TL.tl, tx]
  have h2 : TL.tl (tx (TL.joinL [s] parts)) = TL.joinL [s] parts := by simp [TL.tl, tx]
  have key := TL.split_spl (tx (TL.joinL [s] parts)) (tx [s]) (by rw [h1]; exact fun z => nomatch z) (TL.kind_ok (by simp [tx, hs]))
  rw [h1, h2, TL.spl_join hne hf] at key
  have e := congrArg (List.map tx) key
  rw [List.map_map] at e
  rw [← e]
  have : (tx ∘ TL.tl) = id := funext fun z => tx_tl z
  rw [this, List.map_id]
theorem replL_one (c d : Nat) : ∀ l : List Nat, StrLaws.replL [c] [d] l = l.map fun x => if x = c then d else x
  | [] => StrLaws.replL_nil
  | x :: r => by
    rw [List.map_cons, ← replL_one c d r]
    by_cases h : x = c
    · rw [StrLaws.replL_hit (by simp) (by simp [h]), if_pos h]
      rfl
    · rw [StrLaws.replL_miss (by simp [h]), if_neg h]
theorem replace_one (l : List Nat) (c d : Nat) : Txt.replace (tx l) (tx [c]) (tx [d]) = tx (l.map fun x => if x = c then d else x) := by
  have h := StrLaws.replace_list (x := tx l) (y := tx [c]) (z := tx [d]) (Nat.le_refl 1)
  have h1 : (tx [c]).cps.toList = [c] := by simp [tx]
  have h2 : (tx [d]).cps.toList = [d] := by simp [tx]
  have h3 : (tx l).cps.toList = l := by simp [tx]
  rw [h1, h2, h3, replL_one] at h
  rw [← h]
  exact (tx_self _).symm
/-! books -/
def RulesAt (K : Frg) (H : Hp) (us : List Addr) (rs : List (List Nat × List Nat)) : Prop := us.length = rs.length ∧ ∀ (i : Nat) (u : Addr) (r : List Nat × List Nat), us[i]? = some u → rs[i]? = some r → RuleAt K H u r.1 r.2
def BookAt (K : Frg) (H : Hp) (b L : Addr) (rs : List (List Nat × List Nat)) : Prop := (∃ dx, H b = some (.ins (He.ga K "Book") dx [("rules", .ref L)])) ∧ ∃ us : List Addr, H L = some (.lst (us.map V.ref)) ∧ RulesAt K H us rs
theorem look_rules (v : V) : List.lookup ("rules" : Str) [(("rules" : Str), v)] = some v := by simp [List.lookup]
theorem BookAt.same {H H' : Hp} {b L : Addr} {rs : List (List Nat × List Nat)} (h : BookAt K H b L rs) (s : Same H H') : BookAt K H' b L rs := by
  obtain ⟨⟨dx, hb⟩, us, hL, hl, hr⟩ := h
  refine ⟨⟨dx, s _ _ hb⟩, us, s _ _ hL, hl, fun i u r e1 e2 => ?_⟩
  obtain ⟨dy, hu⟩ := hr i u r e1 e2
  exact ⟨dy, s _ _ hu⟩
theorem book_len_ok {P : Program} {mg : Str → Option Value} (T : Txt P K mg) {b L : Addr} {rs : List (List Nat × List Nat)} {H : Hp} {Q : VK} {E : XK} (hb : BookAt K H b L rs) (h : Q (.int rs.length) H) : sp_Book_len K [.ref b] H Q E := by
  obtain ⟨⟨dx, hb⟩, us, hL, hl, hr⟩ := hb
  refine ⟨rfl, ?_⟩
  unfold t_Book_len
  walk_at "go"
  refine ⟨b, _, dx, _, _, rfl, hb, T.c_Book, T.n_Book_rules, look_rules _, ?_⟩
  walk_at "go"
  refine lenA_lst (.of hL) ?_
  rw [List.length_map, hl]
  exact h
theorem book_iter_ok {P : Program} {mg : Str → Option Value} (T : Txt P K mg) {b L : Addr} {rs : List (List Nat × List Nat)} {H : Hp} {Q : VK} {E : XK} (hb : BookAt K H b L rs) (h : ∀ it, H it = none → Q (.ref it) (upd H it (ItO L it 0))) : sp_Book_iter K [.ref b] H Q E := by
  obtain ⟨⟨dx, hb⟩, us, hL, hl, hr⟩ := hb
  refine ⟨rfl, ?_⟩
  unfold t_Book_iter
  walk_at "go"
  refine ⟨b, _, dx, _, _, rfl, hb, T.c_Book, T.n_Book_rules, look_rules _, ?_⟩
  walk_at "go"
  exact ⟨L, _, rfl, .of hL, h⟩
theorem book_add_ok {P : Program} {mg : Str → Option Value} (T : Txt P K mg) {b L u : Addr} {l r : List Nat} {rs : List (List Nat × List Nat)} {H : Hp} {Q : VK} {E : XK} (hb : BookAt K H b L rs) (hu : RuleAt K H u l r) (hn : rs.length ≤ 6)
    (h : rs.length < 6 → ∀ H', Keep L H H' → BookAt K H' b L (rs ++ [(l, r)]) → Q .non H') (hE : rs.length = 6 → E (.ref (He.ga K "BookFull")) none H) : sp_Book_add K [.ref b, .ref u] H Q E := by
  have hb0 := hb
  obtain ⟨⟨dx, hb⟩, us, hL, hl, hr⟩ := hb
  refine ⟨rfl, ?_⟩
  unfold t_Book_add
  walk_at "st"
  walk_at "sq"
  walk_at "st"
  refine ⟨b, _, dx, _, _, rfl, hb, T.c_Book, T.n_Book_rules, look_rules _, ?_⟩
  walk_at "st"
  refine lenA_lst (.of hL) ?_
  rw [List.length_map, hl]
  walk_at "st"
  by_cases c : rs.length = 6
  · walk_at "auto"
    exact hE c
  · walk_at "auto"
    refine ⟨b, _, dx, _, _, rfl, hb, T.c_Book, T.n_Book_rules, look_rules _, ?_⟩
    walk_at "auto"
    refine ⟨.inl ⟨rfl, _, .of hL⟩, ?_⟩
    walk_at "auto"
    refine append_go hL (by rw [List.length_map]; omega) ?_
    refine h (by omega) _ Keep.at_ ⟨⟨dx, ?_⟩, us ++ [u], ?_, ?_, fun i v q e1 e2 => ?_⟩
    · rw [upd_ne (fun z => by rw [z, hL] at hb; cases hb)]
      exact hb
    · rw [upd_same, List.map_append]
      rfl
    · rw [List.length_append, List.length_append, hl]
      rfl
    · have key : RuleAt K H v q.1 q.2 := by
        by_cases hi : i < us.length
        · rw [List.getElem?_append_left hi] at e1
          rw [List.getElem?_append_left (by omega)] at e2
          exact hr i v q e1 e2
        · have hi2 : i = us.length := by
            have := (List.getElem?_eq_some_iff.mp e1).1
            rw [List.length_append, List.length_singleton] at this
            omega
          subst hi2
          rw [List.getElem?_append_right (Nat.le_refl _), Nat.sub_self] at e1
          rw [List.getElem?_append_right (by omega), show us.length - rs.length = 0 by omega] at e2
          cases e1
          cases e2
          exact hu
      obtain ⟨dv, hv⟩ := key
      exact ⟨dv, by rw [upd_ne (fun z => by rw [z, hL] at hv; cases hv)]; exact hv⟩
theorem look_add (v : V) : List.lookup ("add" : Str) [(("rules" : Str), v)] = none := by
  have e : (("add" : Str) == "rules") = false := by decide +kernel
  simp [List.lookup, e]
theorem putRules (v : V) : putF "rules" v [] = [(("rules" : Str), v)] := rfl
theorem RulesAt.take {H : Hp} {us : List Addr} {rs : List (List Nat × List Nat)} (h : RulesAt K H us rs) (n : Nat) : RulesAt K H (us.take n) (rs.take n) := by
  obtain ⟨hl, hr⟩ := h
  refine ⟨by simp [hl], fun i u r e1 e2 => ?_⟩
  rw [List.getElem?_take] at e1 e2
  split at e1
  · rename_i c
    rw [if_pos c] at e2
    exact hr i u r e1 e2
  · cases e1
theorem book_init_ok {P : Program} {mg : Str → Option Value} (T : Txt P K mg) {b dx p : Addr} {us : List Addr} {rs : List (List Nat × List Nat)} {H : Hp} {Q : VK} {E : XK} (hb : H b = some (.ins (He.ga K "Book") dx [])) (hp : H p = some (.tup (us.map V.ref))) (hr : RulesAt K H us rs) (hn : rs.length ≤ 6)
    (h : ∀ L H', Keep b H H' → H L = none → BookAt K H' b L rs → Q .non H') : sp_Book_init K [.ref b, .ref p] H Q E := by
  refine ⟨rfl, ?_⟩
  unfold t_Book_init
  walk_at "st"
  walk_at "sq"
  walk_at "st"
  intro L hL
  walk_at "st"
  have sL := Same.new (o := .lst []) hL
  refine ⟨b, _, dx, _, rfl, sL _ _ hb, T.c_Book, T.n_Book_rules, by show 0 < 1000; decide, ?_⟩
  rw [putRules]
  walk_at "st"
  have hpb : p ≠ b := fun z => by rw [z, hb] at hp; cases hp
  have bL : b ≠ L := ne_of_none hb hL
  have k0 : ∀ a o, a ≠ b → H a = some o → upd (upd H L (.lst [])) b (.ins (He.ga K "Book") dx [(("rules" : Str), .ref L)]) a = some o := fun a o n e => by rw [upd_ne n]; exact sL _ _ e
  have b0 : BookAt K (upd (upd H L (.lst [])) b (.ins (He.ga K "Book") dx [(("rules" : Str), .ref L)])) b L (rs.take 0) := ⟨⟨dx, upd_same⟩, [], by rw [upd_ne (Ne.symm bL), upd_same]; rfl, by simp, fun i u r e => by simp at e⟩
  refine ⟨_, rfl, p, rfl, ⟨_, SqT.of (k0 _ _ hpb hp)⟩, for_it (walk_tup (K := K) (a := p) (xs := us.map V.ref)) (fun i σ H2 => (∃ v, σ = [some (.ref b), some (.ref p), v]) ∧ (∀ a o, a ≠ b → H a = some o → H2 a = some o) ∧ BookAt K H2 b L (rs.take i)) ⟨⟨none, rfl⟩, k0, b0⟩ (fun i σ H2 _ q => SqT.of (q.2.1 _ _ hpb hp)) ?_ ?_⟩
  · rintro i x σ H2 H3 hi ⟨⟨v, rfl⟩, k2, bk⟩ ⟨rfl, hx⟩
    rw [List.length_map] at hi
    have hi2 : i < rs.length := by rw [← hr.1]; exact hi
    have eu : x = .ref us[i] := by
      rw [List.getElem?_map, List.getElem?_eq_getElem hi] at hx
      exact (Option.some.inj hx).symm
    subst eu
    obtain ⟨du, hu⟩ := hr.2 i us[i] rs[i] (List.getElem?_eq_getElem hi) (List.getElem?_eq_getElem hi2)
    have hu2 : RuleAt K H3 us[i] rs[i].1 rs[i].2 := ⟨du, k2 _ _ (fun z => by
      rw [z, hb] at hu
      have := congrArg (fun o => match o with | some (HO.ins _ _ fs) => fs.length | _ => 0) hu
      simp [ruleF] at this) hu⟩
    walk_at "st"
    obtain ⟨d2, hb2⟩ := bk.1
    refine ⟨b, d2, _, rfl, hb2, look_add _, ?_⟩
    walk_at "st"
    obtain ⟨vs, hL2, _⟩ := bk.2
    refine book_add_ok T bk hu2 (by rw [List.length_take]; omega) (fun _ H4 k4 bk4 => ?_) (fun c => absurd c (by rw [List.length_take]; omega))
    refine ⟨⟨_, rfl⟩, fun a o n e => k4 _ _ (fun z => by rw [z, hL] at e; cases e) (k2 _ _ n e), ?_⟩
    rw [List.take_succ_eq_append_getElem hi2]
    exact bk4
  · rintro σ H2 ⟨⟨v, rfl⟩, k2, bk⟩
    rw [List.length_map, hr.1, List.take_length] at bk
    exact h L H2 k2 hL bk
/-! lists of rules as the law keeps them -/
def RlsL (H : Hp) (D : Addr) (rs : List (List Nat × List Nat)) : Prop := ∃ as : List Addr, H D = some (.lst (as.map V.ref)) ∧ as.length = rs.length ∧ ∀ (j : Nat) (a : Addr) (r : List Nat × List Nat), as[j]? = some a → rs[j]? = some r → H a = some (.tup [.str (tx r.1), .str (tx r.2)])
theorem RlsL.same {H H' : Hp} {D : Addr} {rs : List (List Nat × List Nat)} (h : RlsL H D rs) (s : Same H H') : RlsL H' D rs := let ⟨as, a, b, c⟩ := h; ⟨as, s _ _ a, b, fun j x p e f => s _ _ (c j x p e f)⟩
theorem RlsL.keep {H H' : Hp} {D e : Addr} {xs : List V} {rs : List (List Nat × List Nat)} (h : RlsL H D rs) (k : Keep e H H') (n : D ≠ e) (he : H e = some (.lst xs)) : RlsL H' D rs := by
  obtain ⟨as, a, b, c⟩ := h
  refine ⟨as, k _ _ n a, b, fun j x p e1 e2 => k _ _ (fun q => ?_) (c j x p e1 e2)⟩
  have := c j x p e1 e2
  rw [q, he] at this
  cases this
theorem RlsL.keepD {H H' : Hp} {D e : Addr} {rs : List (List Nat × List Nat)} (h : RlsL H D rs) (k : Keep e H H') (n : D ≠ e) (he : DrL H e) : RlsL H' D rs := let ⟨_, _, q⟩ := he; h.keep k n q
theorem RlsL.push {H : Hp} {M T : Addr} {rs : List (List Nat × List Nat)} {r : List Nat × List Nat} {as : List Addr} (hM : H M = some (.lst (as.map V.ref))) (hl : as.length = rs.length) (hp : ∀ (j : Nat) (a : Addr) (p : List Nat × List Nat), as[j]? = some a → rs[j]? = some p → H a = some (.tup [.str (tx p.1), .str (tx p.2)]))
    (hT : H T = some (.tup [.str (tx r.1), .str (tx r.2)])) : RlsL (upd H M (.lst (as.map V.ref ++ [.ref T]))) M (rs ++ [r]) := by
  refine ⟨as ++ [T], by rw [upd_same, List.map_append]; rfl, by rw [List.length_append, List.length_append, hl]; rfl, fun j a p e1 e2 => ?_⟩
  have key : H a = some (.tup [.str (tx p.1), .str (tx p.2)]) := by
    by_cases hj : j < as.length
    · rw [List.getElem?_append_left hj] at e1
      rw [List.getElem?_append_left (by omega)] at e2
      exact hp j a p e1 e2
    · have hj2 : j = as.length := by
        have := (List.getElem?_eq_some_iff.mp e1).1
        rw [List.length_append, List.length_singleton] at this
        omega
      subst hj2
      rw [List.getElem?_append_right (Nat.le_refl _), Nat.sub_self] at e1
      rw [List.getElem?_append_right (by omega), show as.length - rs.length = 0 by omega] at e2
      cases e1
      cases e2
      exact hT
  rw [upd_ne (fun q => by rw [q, hM] at key; cases key)]
  exact key
theorem RlsL.at_ {H : Hp} {D : Addr} {rs : List (List Nat × List Nat)} (h : RlsL H D rs) {i : Nat} (hi : i < rs.length) : ∃ (as : List Addr) (a : Addr), H D = some (.lst (as.map V.ref)) ∧ as.length = rs.length ∧ atI (as.map V.ref) (i : Int) = some (.ref a) ∧ H a = some (.tup [.str (tx rs[i].1), .str (tx rs[i].2)]) := by
  obtain ⟨as, hD, hl, hp⟩ := h
  have h1 : i < as.length := by omega
  exact ⟨as, as[i], hD, hl, atI_nat (by rw [List.getElem?_map, List.getElem?_eq_getElem h1]; rfl), hp i _ _ (List.getElem?_eq_getElem h1) (List.getElem?_eq_getElem hi)⟩
def okR (r : List Nat × List Nat) : Prop := okSides r.1 r.2 ∧ (∀ c ∈ r.1, c ∈ letters) ∧ (∀ c ∈ r.2, c ∈ letters)
def OkRs (rs : List (List Nat × List Nat)) : Prop := ∀ r ∈ rs, okR r
theorem OkRs.app {ps qs : List (List Nat × List Nat)} (a : OkRs ps) (b : OkRs qs) : OkRs (ps ++ qs) := fun p h => (List.mem_append.mp h).elim (a p) (b p)
theorem OkRs.get {rs : List (List Nat × List Nat)} (a : OkRs rs) {i : Nat} (hi : i < rs.length) : okR rs[i] := a _ (List.getElem_mem hi)
/-- a rule as a line -/
def lineL (r : List Nat × List Nat) : List Nat := r.1 ++ 58 :: r.2
def writeL (rs : List (List Nat × List Nat)) : List Nat := TL.joinL [10] (rs.map lineL)
theorem joinL_map (f : Nat → Nat) (S : List Nat) : ∀ ps : List (List Nat), (TL.joinL S ps).map f = TL.joinL (S.map f) (ps.map (List.map f))
  | [] => rfl
  | [p] => rfl
  | p :: q :: r => by
    show (p ++ (S ++ TL.joinL S (q :: r))).map f = p.map f ++ (S.map f ++ TL.joinL (S.map f) (q.map f :: r.map (List.map f)))
    rw [List.map_append, List.map_append, joinL_map f S (q :: r)]
    rfl
/-! the twelve plans -/
def planR : List (List (List Nat × List Nat)) := [[([48, 49], [49])], [([48, 48], [48, 49, 48])], [([48, 49], [49, 49, 48])], [([48, 49], [49, 48])], [([48, 48], [49]), ([49, 49], [48])], [([48, 49], []), ([49, 48], [])], [([48], [49, 50]), ([50, 49], [48])], [([48, 48], [48])],
  [([48, 48, 49], [49, 48])], [([48, 49, 48], [49, 48, 48, 49])], [([48], [49]), ([49], [50])], [([48, 48], [49, 50]), ([50], [])]]
def planT (P : List (List Nat × List Nat)) : List Nat := TL.joinL [32] (P.map lineL)
theorem plans_eq : (["01:1", "00:010", "01:110", "01:10", "00:1 11:0", "01: 10:", "0:12 21:0", "00:0", "001:10", "010:1001", "0:1 1:2", "00:12 2:"] : List Str) = planR.map fun P => tx (planT P) := by decide +kernel
theorem plans_ok : ∀ P ∈ planR, P ≠ [] ∧ P.length ≤ 2 ∧ ∀ r ∈ P, okSides r.1 r.2 ∧ (∀ c ∈ r.1, 48 ≤ c ∧ c < 51) ∧ (∀ c ∈ r.2, 48 ≤ c ∧ c < 51) := by decide +kernel
/-- the first k digits replaced by signs -/
def subD (sg : List Nat) (k c : Nat) : Nat := if 48 ≤ c ∧ c < 48 + k then sg.getD (c - 48) 0 else c
theorem subD_zero (sg : List Nat) (c : Nat) : subD sg 0 c = c := by unfold subD; rw [if_neg (by omega)]
theorem letters_big : ∀ c ∈ letters, 97 ≤ c ∧ c < 123 := by decide +kernel
theorem subD_in {sg : List Nat} {k c : Nat} (hk : k ≤ sg.length) (h : 48 ≤ c ∧ c < 48 + k) : ∃ hl : c - 48 < sg.length, subD sg k c = sg[c - 48] := by
  have hl : c - 48 < sg.length := by omega
  refine ⟨hl, ?_⟩
  unfold subD
  rw [if_pos h]
  simp [List.getD, List.getElem?_eq_getElem hl]
theorem subD_out {sg : List Nat} {k c : Nat} (h : ¬ (48 ≤ c ∧ c < 48 + k)) : subD sg k c = c := by unfold subD; rw [if_neg h]
theorem subD_succ {sg : List Nat} {k : Nat} (hk : k < sg.length) (ok : ∀ c ∈ sg, c ∈ letters) (hk3 : k < 3) (c : Nat) : (if subD sg k c = 48 + k then sg[k] else subD sg k c) = subD sg (k + 1) c := by
  by_cases h : 48 ≤ c ∧ c < 48 + k
  · obtain ⟨hl, e0⟩ := subD_in (k := k) (sg := sg) (by omega) h
    obtain ⟨_, e1⟩ := subD_in (k := k + 1) (sg := sg) (c := c) (by omega) (by omega)
    have := letters_big _ (ok _ (List.getElem_mem hl))
    rw [e0, e1, if_neg (by omega)]
  · rw [subD_out h]
    by_cases h2 : c = 48 + k
    · obtain ⟨hl, e1⟩ := subD_in (k := k + 1) (sg := sg) (c := c) (by omega) (by omega)
      have e2 : c - 48 = k := by omega
      rw [if_pos h2, e1]
      simp only [e2]
    · rw [if_neg h2, subD_out (by omega)]
theorem subD_let {sg : List Nat} (h3 : sg.length = 3) (ok : ∀ c ∈ sg, c ∈ letters) {c : Nat} (h : 48 ≤ c ∧ c < 51) : subD sg 3 c ∈ letters := by
  unfold subD
  have hl : c - 48 < sg.length := by omega
  have e : sg.getD (c - 48) 0 = sg[c - 48] := by simp [List.getD, List.getElem?_eq_getElem hl]
  rw [if_pos (by omega), e]
  exact ok _ (List.getElem_mem hl)
def subR (sg : List Nat) (r : List Nat × List Nat) : List Nat × List Nat := (r.1.map (subD sg 3), r.2.map (subD sg 3))
theorem subT {sg : List Nat} (P : List (List Nat × List Nat)) : (planT P).map (subD sg 3) = TL.joinL [32] ((P.map (subR sg)).map lineL) := by
  have e : [32].map (subD sg 3) = [32] := by simp [subD]
  unfold planT
  rw [joinL_map, e]
  congr 1
  rw [List.map_map, List.map_map]
  apply List.map_congr_left
  intro r _
  have e2 : subD sg 3 58 = 58 := by simp [subD]
  simp [lineL, subR, e2]
theorem subR_ok {sg : List Nat} (h3 : sg.length = 3) (ok : ∀ c ∈ sg, c ∈ letters) {P : List (List Nat × List Nat)} (hP : P ∈ planR) : OkRs (P.map (subR sg)) := by
  intro r hr
  obtain ⟨q, hq, rfl⟩ := List.mem_map.mp hr
  obtain ⟨⟨a, b, c⟩, h1, h2⟩ := (plans_ok P hP).2.2 q hq
  refine ⟨⟨by simp [subR]; omega, by simp [subR]; omega, by simp [subR]; omega⟩, fun c hc => ?_, fun c hc => ?_⟩
  · obtain ⟨x, hx, rfl⟩ := List.mem_map.mp hc
    exact subD_let h3 ok (h1 x hx)
  · obtain ⟨x, hx, rfl⟩ := List.mem_map.mp hc
    exact subD_let h3 ok (h2 x hx)
theorem line_no {r : List Nat × List Nat} (h : okR r) {s : Nat} (hs : s < 97) (h58 : s ≠ 58) : s ∉ lineL r := fun m => by
  rcases List.mem_append.mp m with m | m
  · have := letters_big _ (h.2.1 _ m); omega
  · rcases List.mem_cons.mp m with m | m
    · exact h58 m
    · have := letters_big _ (h.2.2 _ m); omega
theorem lineL_join (r : List Nat × List Nat) : lineL r = TL.joinL [58] [r.1, r.2] := rfl
theorem split_line {r : List Nat × List Nat} (h : okR r) : Txt.split (tx (lineL r)) (tx [58]) = [tx r.1, tx r.2] := by
  rw [lineL_join]
  refine split_join (by decide) (by simp) fun p hp m => ?_
  rcases List.mem_cons.mp hp with e | e
  · rw [e] at m; have := letters_big _ (h.2.1 _ m); omega
  · rw [List.mem_singleton.mp e] at m; have := letters_big _ (h.2.2 _ m); omega
theorem split_lines {s : Nat} {rs : List (List Nat × List Nat)} (h : OkRs rs) (hne : rs ≠ []) (hs : s < 97) (h58 : s ≠ 58) : Txt.split (tx (TL.joinL [s] (rs.map lineL))) (tx [s]) = rs.map fun r => tx (lineL r) := by
  rw [split_join (by omega) (by simp [hne]) fun p hp m => ?_, List.map_map]
  · rfl
  · obtain ⟨r, hr, rfl⟩ := List.mem_map.mp hp
    exact line_no (h r hr) hs h58 m
theorem lineL_len (r : List Nat × List Nat) : (lineL r).length = r.1.length + r.2.length + 1 := by simp [lineL]; omega
theorem lineL_le {r : List Nat × List Nat} (h : okR r) : (lineL r).length ≤ 9 := by
  have := h.1
  unfold okSides at this
  rw [lineL_len]
  omega
theorem joinL_len (s : Nat) : ∀ ps : List (List Nat), (TL.joinL [s] ps).length ≤ (ps.map List.length).sum + ps.length
  | [] => Nat.zero_le _
  | [p] => by simp [TL.joinL]
  | p :: q :: r => by
    have h := joinL_len s (q :: r)
    show (p ++ ([s] ++ TL.joinL [s] (q :: r))).length ≤ _
    simp at h ⊢
    omega
theorem lines_sum : ∀ {rs : List (List Nat × List Nat)}, OkRs rs → ((rs.map lineL).map List.length).sum ≤ 9 * rs.length
  | [], _ => Nat.le_refl _
  | r :: t, h => by
    have h1 := lineL_le (h r List.mem_cons_self)
    have h2 := lines_sum (rs := t) fun q hq => h q (List.mem_cons_of_mem _ hq)
    simp at h2 ⊢
    omega
theorem writeL_len {rs : List (List Nat × List Nat)} (h : OkRs rs) : (writeL rs).length ≤ 10 * rs.length := by
  have h1 := joinL_len 10 (rs.map lineL)
  have h2 := lines_sum h
  unfold writeL
  rw [List.length_map] at h1
  omega
theorem rd_split {to te : TE} {σ : L2.St} {H : Hp} {Q : VK} (h : to σ H fun x H1 => (∃ a, x = .str a) ∧ te σ H1 fun y H2 => rSplitS x [y] H2 Q) : tSplit to te σ H Q := h
theorem split_go {a b : Str} {H : Hp} {Q : VK} (hb : (b.length == 0) = false) (ha : a.length ≤ 10000) (h : ∀ p, H p = none → Q (.ref p) (upd H p (.lst ((Txt.split a b).map V.str)))) : rSplitS (.str a) [.str b] H Q := ⟨a, b, rfl, rfl, hb, by rw [sizeLine_eq]; omega, h⟩
local macro_rules | `(tactic| walk_at "rd") => `(tactic| first | (with_reducible refine rd_split ?_) | ((with_reducible show (∃ a, V.str _ = V.str a) ∧ _); refine ⟨⟨_, rfl⟩, ?_⟩))
theorem s58 : (Str.ofString ":" : Str) = tx [58] := by decide +kernel
theorem s32 : (Str.ofString " " : Str) = tx [32] := by decide +kernel
theorem s10 : (Str.ofString "\n" : Str) = tx [10] := by decide +kernel
theorem s012 : (Str.ofString "012" : Str) = tx [48, 49, 50] := by decide +kernel
theorem rd_rep {to ti tB tj : TE} {a : Str} {σ : L2.St} {H : Hp} {Q : VK} (h : to σ H fun v H1 => ∃ x, v = .str x ∧ ti σ H1 fun iv H2 => ∃ i c, iv = .int i ∧ a.length ≤ sizeLine ∧ atI a.cps.toList i = some c ∧ tB σ H2 fun bv H3 => tj σ H3 fun jv H4 =>
  ∃ b j d, bv = .str b ∧ jv = .int j ∧ b.length ≤ sizeLine ∧ atI b.cps.toList j = some d ∧ c ≠ d ∧ x.length ≤ 1000000 ∧ Q (.str (Txt.replace x ⟨#[c]⟩ ⟨#[d]⟩)) H4) : tReplIx to a ti tB tj σ H Q := h
theorem DrL.ne {H : Hp} {d L : Addr} (h : DrL H d) (hL : H L = none) : L ≠ d := fun q => by
  obtain ⟨_, _, e⟩ := h
  rw [q] at hL
  rw [hL] at e
  cases e
theorem planT_short : ∀ P ∈ planR, (planT P).length ≤ 20 := by decide +kernel
theorem atI_digit {k : Nat} (hk : k < 3) : atI [48, 49, 50] (k : Int) = some (48 + k) := by
  obtain h | h | h : k = 0 ∨ k = 1 ∨ k = 2 := by omega
  all_goals subst h; rfl
def t_bkp (K : Frg) (E : XK) : TS :=
  (tSeq (tFor (iRng1 (tCons (tC (.int 3)) tNil)) (gName 6) (tAsg (tReplIx (tVar 7) "012" (tVar 6) (tVar 1) (tVar 6)) (gName 7))) (tRet (tLc (iList K (tSplit (tVar 7) (tC (.str " ")))) (gName 9) tYes (tTup (tCons (tOp (rIx K) (tSplit (tVar 9) (tC (.str ":"))) (tC (.int 0))) (tCons (tOp (rIx K) (tSplit (tVar 9) (tC (.str ":"))) (tC (.int 1))) tNil))) [9])))
/-- the plan's way -/
theorem bkp_ok {d L : Addr} {sg : List Nat} {P : List (List Nat × List Nat)} {H : Hp} {Dd : Ends} {E : XK} {v3 : Option V} (sl : sg.length = 3) (sok : ∀ c ∈ sg, c ∈ letters) (hP : P ∈ planR)
    (h : ∀ M H', Same H H' → H M = none → RlsL H' M (P.map (subR sg)) → Dd.rt (.ref M) H') :
    t_bkp K E Dd [some (.ref d), some (.str (tx sg)), some (.ref L), v3, none, none, none, some (.str (tx (planT P))), none, none] H := by
  unfold t_bkp
  walk_at "sq"
  walk_at "st"
  refine ⟨3, rfl, by decide, by decide, ?_⟩
  have pl := planT_short P hP
  refine forR (n := 3) (fun k σ H2 => H2 = H ∧ ∃ v6, σ = [some (.ref d), some (.str (tx sg)), some (.ref L), v3, none, none, v6, some (.str (tx ((planT P).map (subD sg k)))), none, none]) ⟨rfl, none, ?_⟩ ?_ ?_
  · have : (planT P).map (subD sg 0) = planT P := by
      conv => rhs; rw [← List.map_id (planT P)]
      exact List.map_congr_left fun c _ => subD_zero sg c
    rw [this]
  · rintro k σ H2 hk ⟨rfl, v6, rfl⟩
    have hk3 : k < 3 := by omega
    have hks : k < sg.length := by omega
    walk_at "st"
    refine rd_rep ?_
    walk_at "st"
    refine ⟨_, rfl, ?_⟩
    walk_at "st"
    have ed : (Str.ofString "012").cps.toList = [48, 49, 50] := by rw [s012, tx_toList]
    refine ⟨(k : Int), 48 + k, rfl, by decide, by rw [ed]; exact atI_digit hk3, ?_⟩
    walk_at "st"
    have lb := letters_big _ (sok _ (List.getElem_mem hks))
    refine ⟨tx sg, (k : Int), sg[k], rfl, rfl, by rw [tx_len]; exact small2 (by omega), by rw [tx_toList]; exact atI_nat (List.getElem?_eq_getElem hks), by omega, by rw [tx_len, List.length_map]; omega, ?_⟩
    walk_at "st"
    have e1 := replace_one ((planT P).map (subD sg k)) (48 + k) sg[k]
    rw [← tx_one, ← tx_one, e1, List.map_map]
    have e2 : (planT P).map ((fun x => if x = 48 + k then sg[k] else x) ∘ subD sg k) = (planT P).map (subD sg (k + 1)) := List.map_congr_left fun c _ => subD_succ hks sok hk3 c
    rw [e2]
    exact ⟨rfl, _, rfl⟩
  · rintro σ H2 ⟨rfl, v6, rfl⟩
    rw [show (3 : Int).toNat = 3 from rfl, subT]
    have okP := subR_ok sl sok hP
    have nP : P.map (subR sg) ≠ [] := by simpa using (plans_ok P hP).1
    have lP : (P.map (subR sg)).length ≤ 2 := by rw [List.length_map]; exact (plans_ok P hP).2.1
    have tl : (TL.joinL [32] ((P.map (subR sg)).map lineL)).length ≤ 20 := by
      rw [← subT, List.length_map]; exact pl
    generalize P.map (subR sg) = rs at okP nP lP h tl
    walk_at "st"
    rw [s32]
    refine split_go (by decide) (by rw [tx_len]; omega) fun p hp => ?_
    have sp := Same.new (o := .lst ((Txt.split (tx (TL.joinL [32] (rs.map lineL))) (tx [32])).map V.str)) hp
    have ep : upd H2 p (.lst ((Txt.split (tx (TL.joinL [32] (rs.map lineL))) (tx [32])).map V.str)) p = some (.lst (rs.map fun r => V.str (tx (lineL r)))) := by
      rw [upd_same, split_lines okP nP (by decide) (by decide), List.map_map]
      rfl
    generalize upd H2 p (.lst ((Txt.split (tx (TL.joinL [32] (rs.map lineL))) (tx [32])).map V.str)) = H3 at sp ep
    refine lcT (rs.map fun r => [V.str (tx r.1), V.str (tx r.2)]) (.of ep) (by rw [List.length_map, List.length_map]) (by rw [List.length_map]; omega) ?_ ?_
    · intro i x z H4 C s4 hx hz hC
      rw [List.getElem?_map] at hx hz
      cases er : rs[i]? with
      | none => rw [er] at hx; cases hx
      | some r =>
        rw [er] at hx hz
        cases hx
        cases hz
        have okr := okP r (List.mem_of_getElem? er)
        have ll := lineL_le okr
        walk_at "st"
        refine ⟨rfl, ?_⟩
        walk_at "st"
        rw [s58]
        refine split_go (by decide) (by rw [tx_len]; omega) fun q hq => ?_
        rw [split_line okr]
        walk_at "st"
        refine ixA_lst (.of upd_same) (v := .str (tx r.1)) rfl ?_
        walk_at "st"
        refine split_go (by decide) (by rw [tx_len]; omega) fun q2 hq2 => ?_
        rw [split_line okr]
        walk_at "st"
        refine ixA_lst (.of upd_same) (v := .str (tx r.2)) rfl ?_
        walk_at "st"
        exact fun T hT => hC T _ (((Same.new hq).trans (Same.new hq2)).trans (Same.new hT)) upd_same
    · intro D H5 as s5 fD eD la hb
      refine h D H5 (sp.trans s5) (sp.free fD) ⟨as, eD, by rw [la, List.length_map], fun j a r e1 e2 => hb j a _ e1 (by rw [List.getElem?_map, e2]; rfl)⟩
def t_bkl (K : Frg) (E : XK) : TS :=
  (tSeq (tAsg (tLst tNil) (gName 5)) (tSeq (tFor (iRng1 (tCons (tVar 4) tNil)) (gName 6) (tSeq (tAsg (tCallSD (sp_law_word_of K) [] (WE (W0 E)) (tCons (tVar 0) (tCons (tVar 1) (tCons (tC (.int 1)) (tCons (tC (.int 4)) tNil))))) (gName 8)) (tDrop (tBM K "list" rAppend (tVar 5) (tCons (tTup (tCons (tVar 8) (tCons (tCallSD (sp_law_word_of K) [] (WE (W0 E)) (tCons (tVar 0) (tCons (tVar 1) (tCons (tC (.int 0)) (tCons (tC (.int 4)) tNil))))) tNil))) tNil))))) (tRet (tVar 5))))
theorem book_of_ok {d : Addr} {sg : List Nat} {H : Hp} {Q : VK} {E : XK} (sl : sg.length = 3) (sok : ∀ c ∈ sg, c ∈ letters) (hd : DrL H d)
    (h : ∀ (rs : List (List Nat × List Nat)) M H', OkRs rs → rs.length ≤ 6 → H M = none → M ≠ d → RlsL H' M rs → Keep d H H' → DrL H' d → Q (.ref M) H') : sp_law_book_of K [.ref d, .str (tx sg)] H Q E := by
  refine ⟨rfl, ?_⟩
  unfold t_law_book_of
  have szl : (tx sg).length = sg.length := tx_len sg
  walk_at "st"
  walk_at "sq"
  walk_at "st"
  intro p1 hp1
  walk_at "st"
  walk_at "sq"
  walk_at "st"
  intro p2 hp2
  have s2 := (Same.new hp1).trans (Same.new (o := .lst [.str "001:10", .str "010:1001", .str "0:1 1:2", .str "00:12 2:"]) hp2)
  refine addA_lst (Same.new hp2 _ _ upd_same) upd_same (by decide) fun L hL => ?_
  have s3 := s2.trans (Same.new (o := .lst (planR.map fun P => V.str (tx (planT P)))) hL)
  have epl : ([V.str "01:1", V.str "00:010", V.str "01:110", V.str "01:10", V.str "00:1 11:0", V.str "01: 10:", V.str "0:12 21:0", V.str "00:0"] ++ [V.str "001:10", V.str "010:1001", V.str "0:1 1:2", V.str "00:12 2:"]) = planR.map fun P => V.str (tx (planT P)) := by
    have := congrArg (List.map V.str) plans_eq
    rw [List.map_map] at this
    exact this
  rw [epl]
  clear epl
  have eL : ∀ H0 : Hp, upd H0 L (.lst (planR.map fun P => V.str (tx (planT P)))) L = some (.lst (planR.map fun P => V.str (tx (planT P)))) := fun H0 => upd_same
  have eL := eL (upd (upd H p1 (.lst [.str "01:1", .str "00:010", .str "01:110", .str "01:10", .str "00:1 11:0", .str "01: 10:", .str "0:12 21:0", .str "00:0"])) p2 (.lst [.str "001:10", .str "010:1001", .str "0:1 1:2", .str "00:12 2:"]))
  generalize upd (upd (upd H p1 (.lst [.str "01:1", .str "00:010", .str "01:110", .str "01:10", .str "00:1 11:0", .str "01: 10:", .str "0:12 21:0", .str "00:0"])) p2 (.lst [.str "001:10", .str "010:1001", .str "0:1 1:2", .str "00:12 2:"])) L (.lst (planR.map fun P => V.str (tx (planT P)))) = H3 at s3 eL
  have d3 := hd.same s3
  have Ld : L ≠ d := hd.ne ((s2.free hL))
  walk_at "st"
  walk_at "sq"
  walk_at "st"
  refine pick_ok (by decide) d3 fun kind H4 k0 k3 k4 d4 => ?_
  have eL4 := k4 _ _ Ld eL
  have k34 := (Keep.same (d := d) s3).trans k4
  walk_at "st"
  walk_at "sq"
  walk_at "st"
  have rest : True := trivial
  by_cases ck : kind = 0
  · rw [decide_eq_true ck]
    walk_at "st"
    walk_at "sq"
    walk_at "st"
    refine lenA_lst (.of eL4) ?_
    walk_at "st"
    have l12 : ((planR.map fun P => V.str (tx (planT P))).length : Int) = 12 := rfl
    rw [l12]
    refine pick_ok (by decide) d4 fun q H5 q0 q1 k5 d5 => ?_
    obtain ⟨n, rfl⟩ : ∃ n : Nat, q = n := ⟨q.toNat, by omega⟩
    have hn : n < planR.length := by show n < 12; omega
    refine ixA_lst (.of (k5 _ _ Ld eL4)) (v := .str (tx (planT planR[n]))) (atI_nat (by rw [List.getElem?_map, List.getElem?_eq_getElem hn]; rfl)) ?_
    walk_at "st"
    have hP : planR[n] ∈ planR := List.getElem_mem hn
    generalize planR[n] = P at hP
    refine bkp_ok (E := E) sl sok hP fun M H6 s6 fM hM => ?_
    have fM4 := (k34.trans k5).free (d5.ne fM) fM
    exact h _ M H6 (subR_ok sl sok hP) (by rw [List.length_map]; have := (plans_ok P hP).2.1; omega) fM4 (d5.ne fM) hM ((k34.trans k5).trans (Keep.same s6)) (d5.same s6)
  · rw [decide_eq_false ck]
    walk_at "st"
    walk_at "sq"
    walk_at "st"
    refine pick_ok (by decide) d4 fun m H5 m0 m1 k5 d5 => ?_
    have k35 := k34.trans k5
    walk_at "st"
    have loop : ∀ (m : Int) (H6 : Hp), 0 ≤ m → m ≤ 6 → Keep d H H6 → DrL H6 d → t_bkl K E { nx := fun _ H' => Q .non H', rt := Q } [some (.ref d), some (.str (tx sg)), some (.ref L), some (.int kind), some (.int m), none, none, none, none, none] H6 := by
      intro m H6 m0 m6 k6 d6
      unfold t_bkl
      walk_at "sq"
      walk_at "st"
      intro R hR
      have Rd := d6.ne hR
      walk_at "st"
      walk_at "sq"
      walk_at "st"
      refine ⟨m, rfl, by omega, by omega, ?_⟩
      refine forR (n := m) (fun k σ H7 => ∃ v6 v8 rs, σ = [some (.ref d), some (.str (tx sg)), some (.ref L), some (.int kind), some (.int m), some (.ref R), v6, none, v8, none] ∧ rs.length = k ∧ OkRs rs ∧ RlsL H7 R rs ∧ Keep d H6 H7 ∧ DrL H7 d)
        ⟨none, none, [], rfl, rfl, fun r hr => absurd hr (by simp), ⟨[], upd_same, rfl, fun j a q e => by simp at e⟩, Keep.new hR, d6.same (Same.new hR)⟩ ?_ ?_
      · rintro k σ H7 hk ⟨v6, v8, rs, rfl, hl, ok, hRs, k7, d7⟩
        walk_at "st"
        walk_at "sq"
        walk_at "st"
        refine word_ok (by omega) (by omega) (by decide) (by decide) (by decide) d7 fun l H8 lo l1 l4 k8 d8 => ?_
        rw [tx_toList] at lo
        walk_at "st"
        obtain ⟨as, eR, la, ha⟩ := (hRs.keepD k8 Rd d7)
        refine ⟨tyL eR, ?_⟩
        walk_at "st"
        refine word_ok (by omega) (by omega) (by decide) (by decide) (by decide) d8 fun r H9 ro r0 r4 k9 d9 => ?_
        rw [tx_toList] at ro
        walk_at "st"
        intro T hT
        have sT := Same.new (o := .tup [.str (tx l), .str (tx r)]) hT
        obtain ⟨as, eR, la, ha⟩ := ((hRs.keepD k8 Rd d7).keepD k9 Rd d8).same sT
        walk_at "st"
        refine append_go eR (by rw [List.length_map]; omega) ?_
        refine ⟨_, _, rs ++ [(l, r)], rfl, by rw [List.length_append, hl]; rfl, ok.app fun q hq => ?_, RlsL.push eR la ha upd_same, ?_, ?_⟩
        · rw [List.mem_singleton.mp hq]
          exact ⟨⟨by show 1 ≤ l.length; omega, by show l.length ≤ 4; omega, by show r.length ≤ 4; omega⟩, fun c hc => sok c (lo c hc), fun c hc => sok c (ro c hc)⟩
        · intro b o n e
          have e7 := k7 _ _ n e
          rw [upd_ne (fun z => by rw [z, hR] at e; cases e)]
          exact sT _ _ (k9 _ _ n (k8 _ _ n e7))
        · obtain ⟨ds, dl, de⟩ := d9.same sT
          exact ⟨ds, dl, by rw [upd_ne (Ne.symm Rd)]; exact de⟩
      · rintro σ H7 ⟨v6, v8, rs, rfl, hl, ok, hRs, k7, d7⟩
        walk_at "st"
        exact h rs R H7 ok (by omega) (k6.free Rd hR) Rd hRs (k6.trans k7) d7
    walk_at "sq"
    walk_at "st"
    by_cases c1 : kind = 1
    · rw [decide_eq_true c1]
      walk_at "st"
      refine pick_ok (by decide) d5 fun q H6 _ _ k6 d6 => ?_
      have k36 := k35.trans k6
      walk_at "st"
      by_cases c3 : q = 3
      · rw [decide_eq_true c3]
        walk_at "st"
        refine pick_ok (by decide) d6 fun q7 H7 q70 q71 k7 d7 => ?_
        walk_at "st"
        exact loop (4 + q7) H7 (by omega) (by omega) (k36.trans k7) d7
      · rw [decide_eq_false c3]
        walk_at "st"
        exact loop m H6 (by omega) (by omega) k36 d6
    · rw [decide_eq_false c1]
      walk_at "st"
      exact loop m H5 (by omega) (by omega) k35 d5
/-! the written form, and the book that is read from it -/
theorem join_sep (s : List Nat) (ps : List (List Nat)) : Txt.join (tx s) (ps.map tx) = tx (TL.joinL s ps) := by
  rw [TL.join_eq]
  have h := TL.tl_join (tx s) (ps.map tx)
  have e : (ps.map tx).map TL.tl = ps := by
    rw [List.map_map]
    conv => rhs; rw [← List.map_id ps]
    apply List.map_congr_left
    intro l _
    exact tx_toList l
  rw [e, show TL.tl (tx s) = s from tx_toList s] at h
  rw [← h]
  exact (tx_self _).symm
/-- lines joined by newlines -/
theorem joinlines_ok {L : Addr} {rs : List (List Nat × List Nat)} {H : Hp} {Q : VK} (ok : OkRs rs) (hn : rs.length ≤ 1000) (eL : H L = some (.lst (rs.map fun r => V.str (tx (lineL r))))) (h : Q (.str (tx (writeL rs))) H) : rJoinA K (.str (Str.ofString "\n")) [.ref L] H Q := by
  have e1 : (rs.map fun r => V.str (tx (lineL r))) = ((rs.map lineL).map tx).map V.str := by rw [List.map_map, List.map_map]; rfl
  refine ⟨_, L, (rs.map lineL).map tx, rfl, rfl, .inl (SqL.of (by rw [eL, e1])), ?_, ?_⟩
  · have h1 := lines_sum ok
    have e2 : ((rs.map lineL).map tx).map (·.length) = (rs.map lineL).map List.length := by
      rw [List.map_map]
      apply List.map_congr_left
      intro l _
      exact tx_len l
    rw [e2, List.length_map, List.length_map]
    have e3 : (Str.ofString "\n").length = 1 := by decide
    rw [e3]
    omega
  · rw [s10, join_sep]
    exact h
theorem lines_of_ok {M : Addr} {rs : List (List Nat × List Nat)} {H : Hp} {Q : VK} {E : XK} (ok : OkRs rs) (hn : rs.length ≤ 100) (hM : RlsL H M rs) (h : ∀ H', Same H H' → Q (.str (tx (writeL rs))) H') : sp_law_lines_of K [.ref M] H Q E := by
  refine ⟨rfl, ?_⟩
  unfold t_law_lines_of
  walk_at "st"
  obtain ⟨as, eM, la, ha⟩ := hM
  refine lcV (rs.map fun r => V.str (tx (lineL r))) (.of eM) (by rw [List.length_map, List.length_map, la]) (by rw [List.length_map]; omega) ?_ ?_
  · intro i x y H2 C s2 hx hy hC
    rw [List.getElem?_map] at hx hy
    cases ea : as[i]? with
    | none => rw [ea] at hx; cases hx
    | some a =>
      cases er : rs[i]? with
      | none => rw [er] at hy; cases hy
      | some r =>
        rw [ea] at hx
        rw [er] at hy
        cases hx
        cases hy
        have okr := ok r (List.mem_of_getElem? er)
        have ll := lineL_le okr
        rw [lineL_len] at ll
        refine rd_gtup (s2 _ _ (ha i a r ea er)) rfl (rd_gcons (rd_name (rd_gcons (rd_name (rd_gnil ?_)))))
        refine ⟨rfl, ?_⟩
        walk_at "st"
        rw [s58]
        refine addA_str (by rw [tx_len, tx_len]; exact small2 (by simp; omega)) ?_
        rw [tx_app]
        walk_at "st"
        refine addA_str (by rw [tx_len, tx_len]; exact small2 (by simp; omega)) ?_
        rw [tx_app]
        have e5 : r.1 ++ [58] ++ r.2 = lineL r := by simp [lineL]
        rw [e5]
        exact hC _ (Same.refl _)
  · intro D H1 s1 _ eD
    exact joinlines_ok ok (by omega) eD (h H1 s1)
theorem rd_makeSt {C : Addr} {sp : Sp} {E : L2.St → XK} {ta te : TE} {σ : L2.St} {H : Hp} {Q : VK} (h : ta σ H fun y H1 => y = .ref C ∧ te σ H1 fun z H2 => ∃ a xs, z = .ref a ∧ (SqT K H2 a xs ∨ SqL K H2 a xs) ∧ MkG C sp [] xs H2 Q (E σ)) : tMakeSt K C sp E ta te σ H Q := h
theorem rd_enum {ta : TA} {σ : L2.St} {H : Hp} {R : It → Hp → Prop} (h : ta σ H fun vs H1 => ∃ a xs, vs = [.ref a] ∧ SqL K H1 a xs ∧ R (Ite K a) H1) : iEnum K ta σ H R := h
local macro_rules | `(tactic| walk_at "rd") => `(tactic| first | (with_reducible refine rd_makeSt ?_) | (with_reducible refine rd_enum ?_))
theorem book_make_ok {P : Program} {mg : Str → Option Value} (T : Txt P K mg) {us : List Addr} {rs : List (List Nat × List Nat)} {H : Hp} {Q : VK} {E : XK} (hr : RulesAt K H us rs) (hn : rs.length ≤ 6)
    (h : ∀ b L H', Same H H' → H b = none → H L = none → BookAt K H' b L rs → Q (.ref b) H') : MkG (He.ga K "Book") (spStar 1 (sp_Book_init K)) [] (us.map V.ref) H Q E := by
  intro y dx hy hdx hne
  refine ⟨[.ref y], us.map V.ref, by simp, rfl, by rw [List.length_map, hr.1, sizeLine_eq]; omega, fun p hp => ?_⟩
  have s0 : Same H (upd (upd H dx (.own y)) y (.ins (He.ga K "Book") dx [])) := made_same hy hdx
  have sp := Same.new (o := .tup (us.map V.ref)) hp
  refine book_init_ok T (dx := dx) (rs := rs) (us := us) (sp _ _ upd_same) upd_same ⟨hr.1, fun i u r e1 e2 => ?_⟩ hn fun L H1 k1 hL bk => ?_
  · obtain ⟨du, hu⟩ := hr.2 i u r e1 e2
    exact ⟨du, sp _ _ (s0 _ _ hu)⟩
  · refine ⟨rfl, h y L H1 (fun b o e => k1 b o (ne_of_none e hy) (sp _ _ (s0 _ _ e))) hy (s0.free (sp.free hL)) bk⟩
theorem writeL_ne {rs : List (List Nat × List Nat)} (h : rs ≠ []) : writeL rs ≠ [] := by
  cases rs with
  | nil => exact absurd rfl h
  | cons r t =>
    cases t with
    | nil =>
      show r.1 ++ 58 :: r.2 ≠ []
      simp
    | cons q t =>
      show lineL r ++ _ ≠ []
      simp [lineL]
def t_brl (K : Frg) (E : XK) : TS :=
  (tSeq (tFor (iEnum K (tCons (tVar 4) tNil)) (gTup K 2 (gCons (gName 5) (gCons (gName 6) gNil))) (tSeq (tAsg (tSplit (tVar 6) (tC (.str ":"))) (gName 7)) (tSeq (tIfS (tTest (tOp (rNeA K) (tCB (rLenA K) (tCons (tVar 7) tNil)) (tC (.int 2)))) (tRaise (tMkX (He.ga K "BadLine") "line" (tCons (tOp rAddA (tVar 5) (tC (.int 1))) tNil)) (W0 E)) tNext) (tTryF K (.ref (He.ga K "RiseError")) 8 (tMkX (He.ga K "BadLine") "line" (tCons (tOp rAddA (tVar 5) (tC (.int 1))) tNil)) (W0 E) (fun W => (tDrop (tBM K "list" rAppend (tVar 3) (tCons (tMakeS (He.ga K "Rule") (sp_Rule_init K) (List.drop 1 [.str ""]) (WE W) (tCons (tOp (rIx K) (tVar 7) (tC (.int 0))) (tCons (tOp (rIx K) (tVar 7) (tC (.int 1))) tNil))) tNil)))))))) (tRet (tMakeSt K (He.ga K "Book") (spStar 1 (sp_Book_init K)) (WE (W0 E)) (tVar 0) (tVar 3))))
theorem book_read_ok {P : Program} {mg : Str → Option Value} (T : Txt P K mg) {rs : List (List Nat × List Nat)} {H : Hp} {Q : VK} {E : XK} (ok : OkRs rs) (hn : rs.length ≤ 6)
    (h : ∀ b L H', Same H H' → H b = none → H L = none → BookAt K H' b L rs → Q (.ref b) H') : sp_Book_read K [.ref (He.ga K "Book"), .str (tx (writeL rs))] H Q E := by
  refine ⟨rfl, ?_⟩
  unfold t_Book_read
  walk_at "st"
  walk_at "sq"
  walk_at "st"
  refine as_string_ok ?_
  walk_at "st"
  walk_at "sq"
  walk_at "st"
  intro R hR
  have sR := Same.new (o := .lst []) hR
  walk_at "st"
  walk_at "sq"
  walk_at "st"
  have wl := writeL_len ok
  have ee : (Str.ofString "") = tx [] := by decide +kernel
  have loop : ∀ (Ls : Addr) (H1 : Hp), Same (upd H R (.lst [])) H1 → Ls ≠ R → H1 Ls = some (.lst (rs.map fun r => V.str (tx (lineL r)))) →
      t_brl K E { nx := fun _ H' => Q .non H', rt := Q } [some (.ref (He.ga K "Book")), some (.str (tx (writeL rs))), some (.str (tx (writeL rs))), some (.ref R), some (.ref Ls), none, none, none, none] H1 := by
    intro Ls H1 s1 LR eLs
    unfold t_brl
    walk_at "sq"
    walk_at "st"
    refine ⟨Ls, _, rfl, .of eLs, ?_⟩
    refine for_it (walk_enum (K := K) (a := Ls) (xs := rs.map fun r => V.str (tx (lineL r)))) (fun i σ H2 => (∃ v5 v6 v7, σ = [some (.ref (He.ga K "Book")), some (.str (tx (writeL rs))), some (.str (tx (writeL rs))), some (.ref R), some (.ref Ls), v5, v6, v7, none]) ∧ Keep R H1 H2 ∧ ∃ us : List Addr, H2 R = some (.lst (us.map V.ref)) ∧ RulesAt K H2 us (rs.take i))
      ⟨⟨none, none, none, rfl⟩, Keep.refl, [], s1 _ _ upd_same, rfl, fun i u r e => by simp at e⟩ (fun i σ H2 _ q => .of (q.2.1 _ _ LR eLs)) ?_ ?_
    · rintro i x σ H2 H3 hi ⟨⟨v5, v6, v7, rfl⟩, k2, us, eR, hr⟩ ⟨Tp, x1, x2, rfl, hT, rfl, e1, e2⟩
      rw [List.length_map] at hi
      cases e1
      have e2 : (rs.map fun r => V.str (tx (lineL r)))[i]? = some x2 := e2
      rw [List.getElem?_map, List.getElem?_eq_getElem hi] at e2
      cases e2
      have okr := ok.get hi
      have ll := lineL_le okr
      have sT := Same.new (o := .tup [.int (i : Nat), .str (tx (lineL rs[i]))]) hT
      refine rd_gtup upd_same rfl ?_
      walk_at "st"
      walk_at "sq"
      walk_at "st"
      rw [s58]
      refine split_go (by decide) (by rw [tx_len]; omega) fun p hp => ?_
      rw [split_line okr]
      have sP := sT.trans (Same.new (o := .lst (List.map V.str [tx rs[i].1, tx rs[i].2])) hp)
      have eP : upd (upd H2 Tp (.tup [.int (i : Nat), .str (tx (lineL rs[i]))])) p (.lst (List.map V.str [tx rs[i].1, tx rs[i].2])) p = some (.lst [.str (tx rs[i].1), .str (tx rs[i].2)]) := upd_same
      have eR4 := sP _ _ eR
      have hr4 : RulesAt K (upd (upd H2 Tp (.tup [.int (i : Nat), .str (tx (lineL rs[i]))])) p (.lst (List.map V.str [tx rs[i].1, tx rs[i].2]))) us (rs.take i) := ⟨hr.1, fun j u r e1 e2 => (hr.2 j u r e1 e2).same sP⟩
      have k4 : Keep R H1 (upd (upd H2 Tp (.tup [.int (i : Nat), .str (tx (lineL rs[i]))])) p (.lst (List.map V.str [tx rs[i].1, tx rs[i].2]))) := k2.trans (Keep.same sP)
      generalize upd (upd H2 Tp (.tup [.int (i : Nat), .str (tx (lineL rs[i]))])) p (.lst (List.map V.str [tx rs[i].1, tx rs[i].2])) = H4 at eP eR4 hr4 k4
      walk_at "st"
      walk_at "sq"
      walk_at "st"
      refine lenA_lst (.of eP) ?_
      walk_at "st"
      refine ⟨tyL eR4, ?_⟩
      walk_at "st"
      refine ixA_lst (.of eP) (v := .str (tx rs[i].1)) rfl ?_
      walk_at "st"
      refine ixA_lst (.of eP) (v := .str (tx rs[i].2)) rfl ?_
      walk_at "st"
      refine rule_make_ok T okr.1.1 okr.1.2.1 okr.1.2.2 okr.2.1 okr.2.2 fun u H5 s5 fu ru => ?_
      walk_at "st"
      refine append_go (s5 _ _ eR4) (by rw [List.length_map, hr.1, List.length_take]; omega) ?_
      refine ⟨⟨_, _, _, rfl⟩, fun b o n e => ?_, us ++ [u], by rw [upd_same, List.map_append]; rfl, ?_⟩
      · rw [upd_ne n]
        exact s5 _ _ (k4 _ _ n e)
      · rw [List.take_succ_eq_append_getElem hi]
        refine ⟨by rw [List.length_append, List.length_append, hr.1]; rfl, fun j v q e1 e2 => ?_⟩
        have key : RuleAt K H5 v q.1 q.2 := by
          have hl := hr.1
          by_cases hj : j < us.length
          · rw [List.getElem?_append_left hj] at e1
            rw [List.getElem?_append_left (by omega)] at e2
            exact (hr4.2 j v q e1 e2).same s5
          · have hj2 : j = us.length := by
              have := (List.getElem?_eq_some_iff.mp e1).1
              rw [List.length_append, List.length_singleton] at this
              omega
            subst hj2
            rw [List.getElem?_append_right (Nat.le_refl _), Nat.sub_self] at e1
            rw [List.getElem?_append_right (by omega), show us.length - (rs.take i).length = 0 by omega] at e2
            cases e1
            cases e2
            exact ru
        obtain ⟨dv, hv⟩ := key
        exact ⟨dv, by rw [upd_ne (fun z => by rw [z, s5 _ _ eR4] at hv; cases hv)]; exact hv⟩
    · rintro σ H2 ⟨⟨v5, v6, v7, rfl⟩, k2, us, eR, hr⟩
      rw [List.length_map, List.take_length] at hr
      walk_at "st"
      refine ⟨rfl, ?_⟩
      walk_at "st"
      refine ⟨R, _, rfl, .inr (.of eR), ?_⟩
      refine book_make_ok T hr hn fun b L H5 s5 fb fL bk => ?_
      have key : Same H H2 := fun a o e => k2 _ _ (ne_of_none e hR) (s1 _ _ (sR _ _ e))
      exact h b L H5 (key.trans s5) (key.free fb) (key.free fL) bk
  by_cases c : rs = []
  · subst c
    have e0 : (tx (writeL ([] : List (List Nat × List Nat)))) = Str.ofString "" := by rw [ee]; rfl
    rw [decide_eq_true e0]
    walk_at "st"
    intro Ls hLs
    walk_at "st"
    exact loop Ls _ (Same.new hLs) (fun z => by rw [z, upd_same] at hLs; cases hLs) upd_same
  · have e0 : ¬ tx (writeL rs) = Str.ofString "" := fun z => by
      rw [ee, tx_inj] at z
      exact writeL_ne c z
    rw [decide_eq_false e0]
    walk_at "st"
    rw [s10]
    refine split_go (by decide) (by rw [tx_len]; omega) fun Ls hLs => ?_
    walk_at "st"
    refine loop Ls _ (Same.new hLs) (fun z => by rw [z, upd_same] at hLs; cases hLs) ?_
    rw [upd_same]
    have e9 := split_lines (s := 10) ok c (by decide) (by decide)
    unfold writeL
    rw [e9, List.map_map]
    rfl
/-- values that are the tuples of these steps -/
def StL (H : Hp) (ys : List V) (qs : List (Nat × Nat)) : Prop := ∃ as : List Addr, ys = as.map V.ref ∧ as.length = qs.length ∧ ∀ (j : Nat) (a : Addr) (q : Nat × Nat), as[j]? = some a → qs[j]? = some q → H a = some (.tup [.int q.1, .int q.2])
theorem StL.nil {H : Hp} : StL H [] [] := ⟨[], rfl, rfl, fun j a q e => by simp at e⟩
theorem StL.same {H H' : Hp} {ys : List V} {qs : List (Nat × Nat)} (h : StL H ys qs) (s : Same H H') : StL H' ys qs := let ⟨as, a, b, c⟩ := h; ⟨as, a, b, fun j x p e f => s _ _ (c j x p e f)⟩
theorem StL.keep {H H' : Hp} {e : Addr} {xs ys : List V} {qs : List (Nat × Nat)} (h : StL H ys qs) (k : Keep e H H') (he : H e = some (.lst xs)) : StL H' ys qs := by
  obtain ⟨as, a, b, c⟩ := h
  refine ⟨as, a, b, fun j x p e1 e2 => k _ _ (fun q => ?_) (c j x p e1 e2)⟩
  have := c j x p e1 e2
  rw [q, he] at this
  cases this
theorem StL.push {H : Hp} {ys : List V} {qs : List (Nat × Nat)} {T : Addr} {q : Nat × Nat} (h : StL H ys qs) (hT : H T = some (.tup [.int q.1, .int q.2])) : StL H (ys ++ [.ref T]) (qs ++ [q]) := by
  obtain ⟨as, rfl, hl, hp⟩ := h
  refine ⟨as ++ [T], by rw [List.map_append]; rfl, by rw [List.length_append, List.length_append, hl]; rfl, fun j a p e1 e2 => ?_⟩
  by_cases hj : j < as.length
  · rw [List.getElem?_append_left hj] at e1
    rw [List.getElem?_append_left (by omega)] at e2
    exact hp j a p e1 e2
  · have hj2 : j = as.length := by
      have := (List.getElem?_eq_some_iff.mp e1).1
      rw [List.length_append, List.length_singleton] at this
      omega
    subst hj2
    rw [List.getElem?_append_right (Nat.le_refl _), Nat.sub_self] at e1
    rw [List.getElem?_append_right (by omega), show as.length - qs.length = 0 by omega] at e2
    cases e1
    cases e2
    exact hT
theorem rd_gfor {wi : TI} {g : TG} {tb : TGn} {D : GEnds} {ys : List V} {σ : L2.St} {H : Hp} (h : wi σ H fun J H0 => ∃ W : Nat → Nat → List V → L2.St → Hp → Prop, (∃ m, W 0 m ys σ H0) ∧ ∀ i n ys σ H, W i n ys σ H →
  (J.stop i H ∧ D.nx ys σ H) ∨ (J.go i H ∧ ∃ N : List V → L2.St → Hp → Prop, (∀ ys' σ' H', N ys' σ' H' → ∃ m, m < n ∧ W (i + 1) m ys' σ' H') ∧
    ∀ x H', J.yld i H x H' → g x σ H' fun σ1 H1 => tb { D with nx := N, ct := N, bk := D.nx } ys σ1 H1)) : tGFor wi g tb D ys σ H := h
theorem rd_gthen {t u : TGn} {D : GEnds} {ys : List V} {σ : L2.St} {H : Hp} (h : t { D with nx := fun ys' σ' H' => u D ys' σ' H' } ys σ H) : tGThen t u D ys σ H := h
theorem rd_g0 {D : GEnds} {ys : List V} {σ : L2.St} {H : Hp} (h : D.nx ys σ H) : tG0 D ys σ H := h
theorem rd_gif {tc : TT} {ta tb : TGn} {D : GEnds} {ys : List V} {σ : L2.St} {H : Hp} (h : tc σ H fun k H1 => if k = true then ta D ys σ H1 else tb D ys σ H1) : tGIf tc ta tb D ys σ H := h
theorem rd_gyield {te : TE} {D : GEnds} {ys : List V} {σ : L2.St} {H : Hp} (h : ys.length < sizeLine ∧ te σ H fun x H1 => D.nx (ys ++ [x]) σ H1) : tGYield te D ys σ H := h
theorem rd_listG {tg : TGen} {σ : L2.St} {H : Hp} {Q : VK} (h : tg σ H fun out H2 => ∀ p, H2 p = none → Q (.ref p) (upd H2 p (.lst out))) : tListG tg σ H Q := h
theorem rd_methG {C : Addr} {m : Str} {sp : SpG} {dvs : List V} {E : XK} {ta : TE} {t : TA} {σ : L2.St} {H : Hp} {cont : List V → Hp → Prop} (h : ta σ H fun x H1 => ∃ a dx fs, x = .ref a ∧ H1 a = some (.ins C dx fs) ∧ fs.lookup m = none ∧
  t σ H1 fun vs H2 => sp (x :: (vs ++ dvs)) H2 cont E) : tMethG C m sp dvs E ta t σ H cont := h
local macro_rules | `(tactic| walk_at "rd") => `(tactic| first | (with_reducible refine rd_gfor ?_) | (with_reducible refine rd_gthen ?_) | (with_reducible refine rd_g0 ?_) | (with_reducible refine rd_gif ?_) | (with_reducible refine rd_gyield ?_) | (with_reducible refine rd_listG ?_) | (with_reducible refine rd_methG ?_))
theorem look_fits (l r : List Nat) : (ruleF l r).lookup ("fits" : Str) = none := by
  have e1 : (("fits" : Str) == "left") = false := by decide +kernel
  have e2 : (("fits" : Str) == "right") = false := by decide +kernel
  simp [ruleF, List.lookup, e1, e2]
theorem look_written (l r : List Nat) : (ruleF l r).lookup ("written_height" : Str) = none := by
  have e1 : (("written_height" : Str) == "left") = false := by decide +kernel
  have e2 : (("written_height" : Str) == "right") = false := by decide +kernel
  simp [ruleF, List.lookup, e1, e2]
theorem rule_at {H : Hp} {us : List Addr} {rs : List (List Nat × List Nat)} (h : RulesAt K H us rs) {i : Nat} {x : V} (hx : (us.map V.ref)[i]? = some x) : ∃ u r, x = .ref u ∧ us[i]? = some u ∧ rs[i]? = some r ∧ RuleAt K H u r.1 r.2 := by
  rw [List.getElem?_map] at hx
  cases e : us[i]? with
  | none => rw [e] at hx; cases hx
  | some u =>
    rw [e] at hx
    have hi := (List.getElem?_eq_some_iff.mp e).1
    have hi2 : i < rs.length := by rw [← h.1]; exact hi
    exact ⟨u, rs[i], (Option.some.inj hx).symm, rfl, List.getElem?_eq_getElem hi2, h.2 i u _ e (List.getElem?_eq_getElem hi2)⟩
/-! book.take -/
theorem bound_ok {P : Program} {mg : Str → Option Value} (T : Txt P K mg) {m g : Int} {H : Hp} {Q : VK} {E : XK} (h : 0 ≤ m → m ≤ g → Q .non H) (hE : ¬ (0 ≤ m ∧ m ≤ g) → ∀ d, H d = none → E (.ref (He.ga K "BadBound")) (some d) (upd H d (.xd [("most", .int m)]))) : sp_check_bound K [.int m, .int g] H Q E := by
  refine ⟨rfl, ?_⟩
  unfold t_check_bound
  walk_at "st"
  by_cases c : 0 ≤ m
  · rw [decide_eq_true c]
    walk_at "st"
    by_cases c2 : m ≤ g
    · rw [decide_eq_true c2]
      walk_at "st"
      exact h c c2
    · rw [decide_eq_false c2]
      walk_at "st"
      exact ⟨_, rfl, fun d hd => hE (fun z => c2 z.2) d hd⟩
  · rw [decide_eq_false c]
    walk_at "st"
    exact ⟨_, rfl, fun d hd => hE (fun z => c z.1) d hd⟩
theorem book_at {H : Hp} {L : Addr} {us : List Addr} {rs : List (List Nat × List Nat)} (hr : RulesAt K H us rs) {n : Int} (h0 : 0 ≤ n) (h1 : n < rs.length) : ∃ (u : Addr) (r : List Nat × List Nat), rs[n.toNat]? = some r ∧ atI (us.map V.ref) n = some (.ref u) ∧ RuleAt K H u r.1 r.2 := by
  obtain ⟨i, rfl⟩ : ∃ i : Nat, n = i := ⟨n.toNat, by omega⟩
  have hi : i < us.length := by rw [hr.1]; omega
  have hi2 : i < rs.length := by omega
  rw [Int.toNat_natCast]
  exact ⟨us[i], rs[i], List.getElem?_eq_getElem hi2, atI_nat (by rw [List.getElem?_map, List.getElem?_eq_getElem hi]; rfl), hr.2 i _ _ (List.getElem?_eq_getElem hi) (List.getElem?_eq_getElem hi2)⟩
theorem book_take_ok {P : Program} {mg : Str → Option Value} (T : Txt P K mg) {b L y D : Addr} {rs : List (List Nat × List Nat)} {ps : List (Nat × Int)} {n k m : Int} {H : Hp} {Q : VK} {E : XK} (hn : ps.length ≤ 4000) (okr : OkRs rs) (hl : rs.length ≤ 100) (ok : Okp ps) (hb : BookAt K H b L rs) (hy : RowAt K H y D ps)
    (h1 : ¬ (0 ≤ m ∧ m ≤ 9) → ∀ H' d, Same H H' → H' d = none → E (.ref (He.ga K "BadBound")) (some d) (upd H' d (.xd [("most", .int m)])))
    (h2 : 0 ≤ m → m ≤ 9 → ¬ (0 ≤ n ∧ n < rs.length) → ∀ H' d, Same H H' → H' d = none → E (.ref (He.ga K "NoRule")) (some d) (upd H' d (.xd [("number", .int n)])))
    (h3 : 0 ≤ m → m ≤ 9 → 0 ≤ n → ∀ r, rs[n.toNat]? = some r → ¬ fitsP ps r.1 k → ∀ H' d, Same H H' → H' d = none → E (.ref (He.ga K "Mismatch")) (some d) (upd H' d (.xd [("at", .int k)])))
    (h4 : 0 ≤ m → m ≤ 9 → 0 ≤ n → ∀ r, rs[n.toNat]? = some r → fitsP ps r.1 k → r.2 ≠ [] → m < wrote ps r.1 k → ∀ H' d, Same H H' → H' d = none → E (.ref (He.ga K "Beyond")) (some d) (upd H' d (.xd [("height", .int (wrote ps r.1 k))])))
    (h5 : 0 ≤ m → m ≤ 9 → 0 ≤ n → ∀ r, rs[n.toNat]? = some r → fitsP ps r.1 k → (r.2 = [] ∨ wrote ps r.1 k ≤ m) → ∀ z F H', Same H H' → H z = none → H F = none → RowAt K H' z F (stepP ps r.1 r.2 k) → Q (.ref z) H') :
    sp_Book_take K [.ref b, .ref y, .int n, .int k, .int m] H Q E := by
  refine ⟨rfl, ?_⟩
  unfold t_Book_take
  walk_at "st"
  walk_at "sq"
  walk_at "st"
  refine bound_ok T (fun m0 m9 => ?_) (fun c d hd => h1 c H d (Same.refl _) hd)
  walk_at "st"
  walk_at "sq"
  walk_at "st"
  obtain ⟨⟨dx, eb⟩, us, eL, hru⟩ := id hb
  have len : ∀ (H2 : Hp) (Q2 : VK), Same H H2 → Q2 (.int rs.length) H2 → rLenA K [.ref L] H2 Q2 := fun H2 Q2 s q => by
    refine lenA_lst (.of (s _ _ eL)) ?_
    rw [List.length_map, hru.1]
    exact q
  by_cases n0 : 0 ≤ n
  case neg =>
    rw [decide_eq_false n0]
    walk_at "st"
    exact ⟨_, rfl, fun d hd => h2 m0 m9 (fun z => n0 z.1) H d (Same.refl _) hd⟩
  rw [decide_eq_true n0]
  walk_at "st"
  refine ⟨b, _, dx, _, _, rfl, eb, T.c_Book, T.n_Book_rules, look_rules _, ?_⟩
  walk_at "st"
  refine len H _ (Same.refl _) ?_
  walk_at "st"
  by_cases n1 : n < rs.length
  case neg =>
    rw [decide_eq_false n1]
    walk_at "st"
    exact ⟨_, rfl, fun d hd => h2 m0 m9 (fun z => n1 z.2) H d (Same.refl _) hd⟩
  rw [decide_eq_true n1]
  walk_at "st"
  walk_at "sq"
  walk_at "st"
  refine ⟨b, _, dx, _, _, rfl, eb, T.c_Book, T.n_Book_rules, look_rules _, ?_⟩
  obtain ⟨u, r, er, hat, ru⟩ := book_at (L := L) hru n0 n1
  have okq := okr r (List.mem_of_getElem? er)
  walk_at "st"
  refine ixA_lst (.of eL) hat ?_
  walk_at "st"
  walk_at "sq"
  walk_at "st"
  obtain ⟨du, hu⟩ := id ru
  refine ⟨u, du, _, rfl, hu, look_fits _ _, ?_⟩
  walk_at "st"
  refine fits_ok T (by omega) (by have := okq.1.2.1; omega) ru hy fun H6 s6 => ?_
  refine ⟨_, rfl, ?_⟩
  by_cases hf : fitsP ps r.1 k
  case neg =>
    rw [decide_eq_false hf]
    walk_at "st"
    exact ⟨_, rfl, fun d hd => h3 m0 m9 n0 r er hf H6 d s6 hd⟩
  rw [decide_eq_true hf]
  walk_at "st"
  walk_at "sq"
  walk_at "st"
  refine ⟨u, du, _, rfl, s6 _ _ hu, look_written _ _, ?_⟩
  walk_at "st"
  refine written_ok T (by omega) okq.1.1 (by have := okq.1.2.1; omega) hf (ru.same s6) (hy.same s6) fun H7 s7 => ?_
  have s67 := s6.trans s7
  walk_at "st"
  walk_at "sq"
  walk_at "st"
  refine ⟨u, _, du, _, _, rfl, s67 _ _ hu, T.c_Rule, T.n_Rule_right, ruleF_right _ _, ?_⟩
  walk_at "st"
  have ee : (Str.ofString "") = tx [] := by decide +kernel
  have er2 : decide (tx r.2 = Str.ofString "") = decide (r.2 = []) := by
    apply decide_eq_decide.mpr
    rw [ee, tx_inj]
  rw [er2]
  have wr := wrote_range okq.1.1 ok hf
  have last : (r.2 = [] ∨ wrote ps r.1 k ≤ m) → sp_Rule_call K [.ref u, .ref y, .int k] H7 Q E := by
    intro c
    refine rule_call_ok T hn okq.1.1 okq.1.2.1 okq.1.2.2 okq.2.2 ok (ru.same s67) (hy.same s67) ?_ ?_ ?_
    · exact fun z => absurd hf z
    · intro _ ne gt
      rcases c with c | c
      · exact absurd c ne
      · omega
    · intro _ _ z F H' s f1 f2 rz
      exact h5 m0 m9 n0 r er hf c z F H' (s67.trans s) (s67.free f1) (s67.free f2) rz
  by_cases c0 : r.2 = []
  · rw [decide_eq_true c0]
    walk_at "st"
    refine ⟨u, rfl, ?_⟩
    walk_at "st"
    exact ⟨du, _, s67 _ _ hu, last (.inl c0)⟩
  rw [decide_eq_false c0]
  walk_at "st"
  by_cases c1 : m < wrote ps r.1 k
  · rw [decide_eq_true c1]
    walk_at "st"
    exact ⟨_, rfl, fun d hd => h4 m0 m9 n0 r er hf c0 c1 H7 d s67 hd⟩
  · rw [decide_eq_false c1]
    walk_at "st"
    refine ⟨u, rfl, ?_⟩
    walk_at "st"
    exact ⟨du, _, s67 _ _ hu, last (.inr (by omega))⟩
/-! row[at] = pair, whatever the pair -/
theorem is_sign_gen {l : List Nat} {H : Hp} {Q : VK} {E : XK} (hl : l.length ≤ 10000) (h : Q (.bl (decide (l.length = 1 ∧ fo l = -1))) H) : sp_is_sign K [.str (tx l)] H Q E := by
  refine ⟨rfl, ?_⟩
  unfold t_is_sign
  walk_at "go"
  refine lenA_str (by rw [tx_len]; exact small2 (by omega)) ?_
  rw [tx_len]
  walk_at "st"
  by_cases c1 : l.length = 1
  · obtain ⟨c, rfl⟩ := List.length_eq_one_iff.mp c1
    rw [decide_eq_true (by rw [c1]; rfl : ((([c] : List Nat).length : Int) = 1))]
    walk_at "st"
    refine inA_sign ?_
    have e : decide (c ∈ (Str.ofString "abcdefghijklmnopqrstuvwxyz").cps.toList) = decide (([c] : List Nat).length = 1 ∧ fo [c] = -1) := by
      apply decide_eq_decide.mpr
      show c ∈ letters ↔ _
      constructor
      · intro hc
        exact ⟨rfl, fo_ok fun x hx => by rw [List.mem_singleton.mp hx]; exact hc⟩
      · rintro ⟨_, hf⟩
        exact fo_all [c] hf c (List.mem_singleton.mpr rfl)
    rw [e]
    exact h
  · rw [decide_eq_false (by omega : ¬ ((l.length : Int) = 1))]
    walk_at "st"
    rw [decide_eq_false (fun q => c1 q.1)] at h
    exact h
theorem row_put_gen {P : Program} {mg : Str → Option Value} (T : Txt P K mg) {y D Tp : Addr} {ps : List (Nat × Int)} {k : Int} {l : List Nat} {z : Int} {H : Hp} {Q : VK} {E : XK} (hn : ps.length ≤ 10000) (hl : l.length ≤ 10000) (h1 : RowAt K H y D ps) (hT : H Tp = some (.tup [.str (tx l), .int z]))
    (hE1 : ¬ (0 ≤ k ∧ k < ps.length) → ∀ H' d, Same H H' → H' d = none → E (.ref (He.ga K "NoPlace")) (some d) (upd H' d (.xd [("at", .int k)])))
    (hE2 : 0 ≤ k → k < ps.length → ¬ (l.length = 1 ∧ fo l = -1) → ∀ H' d, Same H H' → H' d = none → E (.ref (He.ga K "BadSign")) (some d) (upd H' d (.xd [("at", .int 0)])))
    (hE3 : 0 ≤ k → k < ps.length → (l.length = 1 ∧ fo l = -1) → ¬ (0 ≤ z ∧ z ≤ 9) → ∀ H' d, Same H H' → H' d = none → E (.ref (He.ga K "BadHeight")) (some d) (upd H' d (.xd [("height", .int z)])))
    (h : ∀ (i c : Nat), k = i → i < ps.length → l = [c] → c ∈ letters → 0 ≤ z → z ≤ 9 → ∀ H', Keep D H H' → RowAt K H' y D (ps.set i (c, z)) → Q .non H') : sp_Row_setitem K [.ref y, .int k, .ref Tp] H Q E := by
  refine ⟨rfl, ?_⟩
  unfold t_Row_setitem
  walk_at "go"
  obtain ⟨⟨dx, ey⟩, as, hD, hl', hp⟩ := h1
  refine .inl (isi_go (.ty _) (.base (.int _)) (kit_ty (r := true) (by decide +kernel)) ?_)
  walk_at "auto"
  by_cases c0 : 0 ≤ k
  case neg =>
    walk_at "auto"
    exact ⟨_, rfl, fun d hd => hE1 (by omega) H d (Same.refl _) hd⟩
  walk_at "auto"
  refine ⟨y, _, dx, _, _, rfl, ey, T.c_Row, T.n_Row_pairs, look_pairs _, ?_⟩
  walk_at "go"
  refine lenA_lst (.of hD) ?_
  rw [List.length_map, hl']
  walk_at "go"
  by_cases c1 : k < ps.length
  case neg =>
    walk_at "auto"
    exact ⟨_, rfl, fun d hd => hE1 (by omega) H d (Same.refl _) hd⟩
  walk_at "auto"
  refine rd_gtup hT rfl ?_
  walk_at "go"
  refine is_sign_gen hl ?_
  by_cases c2 : l.length = 1 ∧ fo l = -1
  case neg =>
    rw [decide_eq_false c2]
    walk_at "auto"
    exact ⟨_, rfl, fun d hd => hE2 c0 c1 c2 H d (Same.refl _) hd⟩
  rw [decide_eq_true c2]
  walk_at "auto"
  by_cases c3 : 0 ≤ z
  case neg =>
    walk_at "auto"
    exact ⟨_, rfl, fun d hd => hE3 c0 c1 c2 (by omega) H d (Same.refl _) hd⟩
  walk_at "auto"
  by_cases c4 : z ≤ 9
  case neg =>
    walk_at "auto"
    exact ⟨_, rfl, fun d hd => hE3 c0 c1 c2 (by omega) H d (Same.refl _) hd⟩
  walk_at "auto"
  refine fun p hp2 => ?_
  have sp := Same.new (o := .tup [.str (tx l), .int z]) hp2
  walk_at "go"
  refine ⟨y, _, dx, _, _, rfl, sp _ _ ey, T.c_Row, T.n_Row_pairs, look_pairs _, ?_⟩
  walk_at "go"
  obtain ⟨i, rfl⟩ : ∃ n : Nat, k = n := ⟨k.toNat, by omega⟩
  obtain ⟨c, rfl⟩ := List.length_eq_one_iff.mp c2.1
  refine .inl ⟨D, _, i, i, rfl, rfl, sp _ _ hD, ixN_nat (by rw [List.length_map]; omega), ?_⟩
  have key : Keep D H (upd (upd H p (.tup [.str (tx [c]), .int z])) D (.lst ((as.map V.ref).set i (.ref p)))) := fun b o n e => by rw [upd_ne n]; exact sp _ _ e
  refine h i c rfl (by omega) rfl (fo_all [c] c2.2 c (List.mem_singleton.mpr rfl)) c3 c4 _ key ⟨⟨dx, key _ _ (fun q => by rw [q, hD] at ey; cases ey) ey⟩, Prs.set (sp _ _ hD) hl' (fun j a q e1 e2 => sp _ _ (hp j a q e1 e2)) upd_same⟩
/-! lists of steps as data -/
def sd (q : Nat × Nat) : PyData := .tuple [.int q.1, .int q.2]
theorem stData {H : Hp} : ∀ (as : List Addr) (qs : List (Nat × Nat)), as.length = qs.length → (∀ (j : Nat) (a : Addr) (q : Nat × Nat), as[j]? = some a → qs[j]? = some q → H a = some (.tup [.int q.1, .int q.2])) → DpAll K H (as.map V.ref) (qs.map sd)
  | [], [], _, _ => .nil
  | [], _ :: _, h, _ => by cases h
  | _ :: _, [], h, _ => by cases h
  | a :: as, q :: qs, h, hp => .cons (.tup (SqT.of (hp 0 a q rfl rfl)) (.cons (.int _) (.cons (.int _) .nil))) (stData as qs (by simpa using h) fun j b q e1 e2 => hp (j + 1) b q e1 e2)
theorem canLay_st : ∀ qs : List (Nat × Nat), PyData.canLayAll0 (qs.map sd) = true
  | [] => by simp [PyData.canLayAll0]
  | q :: r => by
    have h2 := canLay_st r
    simp [PyData.canLayAll0, sd, PyData.canLay0, h2]
theorem depth_st : ∀ qs : List (Nat × Nat), PyData.depthAll (qs.map sd) ≤ 1
  | [] => by simp [PyData.depthAll]
  | q :: r => by
    have := depth_st r
    simp [PyData.depthAll, sd, PyData.depth]
    omega
theorem shaped_st (qs : List (Nat × Nat)) : SeqAt.shaped (.list (qs.map sd)) = true := by
  have h1 := canLay_st qs
  have h2 := depth_st qs
  simp [SeqAt.shaped, PyData.canLay0, h1, PyData.depth]
  omega
theorem eqv_sd (p q : Nat × Nat) : PyData.eqv (sd p) (sd q) = decide (p = q) := by
  obtain ⟨a, b⟩ := p
  obtain ⟨c, d⟩ := q
  by_cases h1 : a = c <;> by_cases h2 : b = d
  · subst h1 h2; simp [sd, PyData.eqv, PyData.eqvAll]
  · have h3 : ¬ (b : Int) = d := by omega
    subst h1; simp [sd, PyData.eqv, PyData.eqvAll, h2, h3]
  · have h3 : ¬ (a : Int) = c := by omega
    simp [sd, PyData.eqv, PyData.eqvAll, h1, h3]
  · have h3 : ¬ (a : Int) = c := by omega
    simp [sd, PyData.eqv, PyData.eqvAll, h1, h3]
theorem eqvAll_st : ∀ ps qs : List (Nat × Nat), PyData.eqvAll (ps.map sd) (qs.map sd) = decide (ps = qs)
  | [], [] => by simp [PyData.eqvAll]
  | [], _ :: _ => by simp [PyData.eqvAll]
  | _ :: _, [] => by simp [PyData.eqvAll]
  | p :: ps, q :: qs => by
    have h := eqvAll_st ps qs
    have h2 := eqv_sd p q
    simp [PyData.eqvAll, h, h2]
def StA (H : Hp) (D : Addr) (qs : List (Nat × Nat)) : Prop := ∃ ys, H D = some (.lst ys) ∧ StL H ys qs
theorem StA.same {H H' : Hp} {D : Addr} {qs : List (Nat × Nat)} (h : StA H D qs) (s : Same H H') : StA H' D qs := let ⟨ys, a, b⟩ := h; ⟨ys, s _ _ a, b.same s⟩
theorem StA.keepD {H H' : Hp} {D e : Addr} {qs : List (Nat × Nat)} (h : StA H D qs) (k : Keep e H H') (n : D ≠ e) (he : DrL H e) : StA H' D qs := let ⟨ys, a, b⟩ := h; let ⟨_, _, q⟩ := he; ⟨ys, k _ _ n a, b.keep k q⟩
theorem StA.data {H : Hp} {D : Addr} {qs : List (Nat × Nat)} (h : StA H D qs) : Dp K H (.ref D) (.list (qs.map sd)) := by
  obtain ⟨ys, e, as, rfl, hl, hp⟩ := h
  exact .lst (SqL.of e) (stData as qs hl hp)
theorem eqv_st (ps qs : List (Nat × Nat)) : PyData.eqv (.list (ps.map sd)) (.list (qs.map sd)) = decide (ps = qs) := by
  simp only [PyData.eqv]
  exact eqvAll_st ps qs
theorem eq_st {M N : Addr} {ps qs : List (Nat × Nat)} {H : Hp} {Q : VK} (hM : StA H M ps) (hN : StA H N qs) (h : Q (.bl (decide (ps = qs))) H) : rEqA K (.ref M) (.ref N) H Q :=
  eqA_data hM.data hN.data (shaped_st _) (shaped_st _) (eqv_st ps qs) h
theorem StA.nil {H : Hp} {D : Addr} (h : H D = some (.lst [])) : StA H D [] := ⟨[], h, StL.nil⟩
theorem StA.get {H : Hp} {D : Addr} {qs : List (Nat × Nat)} (h : StA H D qs) {i : Nat} (hi : i < qs.length) : ∃ (ys : List V) (a : Addr), H D = some (.lst ys) ∧ ys.length = qs.length ∧ atI ys (i : Int) = some (.ref a) ∧ H a = some (.tup [.int qs[i].1, .int qs[i].2]) := by
  obtain ⟨ys, e, as, rfl, hl, hp⟩ := h
  have h1 : i < as.length := by omega
  exact ⟨_, as[i], e, by rw [List.length_map, hl], atI_nat (by rw [List.getElem?_map, List.getElem?_eq_getElem h1]; rfl), hp i _ _ (List.getElem?_eq_getElem h1) (List.getElem?_eq_getElem hi)⟩
/-! the written form of a book -/
theorem str_line (l r : List Nat) : l ++ (Str.ofString ":").cps.toList ++ r = lineL (l, r) := by
  rw [s58, tx_toList]
  simp [lineL]
theorem written_form_ok {P : Program} {mg : Str → Option Value} (T : Txt P K mg) {b L : Addr} {rs : List (List Nat × List Nat)} {H : Hp} {Q : VK} {E : XK} (ok : OkRs rs) (hn : rs.length ≤ 100) (hb : BookAt K H b L rs) (h : ∀ H', Same H H' → Q (.str (tx (writeL rs))) H') : sp_Book_written K [.ref b] H Q E := by
  refine ⟨rfl, ?_⟩
  unfold t_Book_written
  walk_at "st"
  obtain ⟨⟨dx, eb⟩, us, eL, hru⟩ := id hb
  refine ⟨b, _, dx, _, _, rfl, eb, T.c_Book, T.n_Book_rules, look_rules _, ?_⟩
  refine lcV (rs.map fun r => V.str (tx (lineL r))) (.of eL) (by rw [List.length_map, List.length_map, hru.1]) (by rw [List.length_map, hru.1]; omega) ?_ ?_
  · intro i x y H2 C s2 hx hy hC
    obtain ⟨u, r, rfl, eu, er, ru⟩ := rule_at hru hx
    rw [List.getElem?_map, er] at hy
    cases hy
    have okq := ok r (List.mem_of_getElem? er)
    walk_at "st"
    refine ⟨rfl, ?_⟩
    walk_at "st"
    obtain ⟨du, hu⟩ := ru.same s2
    refine ⟨u, du, _, rfl, hu, ?_⟩
    refine rule_str_ok T (by have := okq.1.2.1; omega) (by have := okq.1.2.2; omega) (ru.same s2) ⟨_, rfl, ?_⟩
    rw [str_line]
    exact hC _ (Same.refl _)
  · intro D H1 s1 _ eD
    exact joinlines_ok ok (by omega) eD (h H1 s1)
theorem BookAt.keep {H H' : Hp} {b L e : Addr} {xs : List V} {rs : List (List Nat × List Nat)} (h : BookAt K H b L rs) (k : Keep e H H') (n : L ≠ e) (he : H e = some (.lst xs)) : BookAt K H' b L rs := by
  obtain ⟨⟨dx, hb⟩, us, hL, hr⟩ := h
  exact ⟨⟨dx, k _ _ (fun z => by rw [z, he] at hb; cases hb) hb⟩, us, k _ _ n hL, hr.1, fun i u r e1 e2 => (hr.2 i u r e1 e2).keep k he⟩
theorem look_wform (v : V) : List.lookup ("written" : Str) [(("rules" : Str), v)] = none := by
  have e : (("written" : Str) == "rules") = false := by decide +kernel
  simp [List.lookup, e]
/-- what the law holds -/
structure Wd (K : Frg) (H : Hp) (d M RL b L y D : Addr) (ps : List (Nat × Int)) (rs : List (List Nat × List Nat)) : Prop where
  dr : DrL H d
  prs : Prs H M ps
  rls : RlsL H RL rs
  bk : BookAt K H b L rs
  row : RowAt K H y D ps
  nM : M ≠ d
  nR : RL ≠ d
  nL : L ≠ d
  nD : D ≠ d
theorem Wd.same {H H' : Hp} {d M RL b L y D : Addr} {ps : List (Nat × Int)} {rs : List (List Nat × List Nat)} (w : Wd K H d M RL b L y D ps rs) (s : Same H H') : Wd K H' d M RL b L y D ps rs := ⟨w.dr.same s, w.prs.same s, w.rls.same s, w.bk.same s, w.row.same s, w.nM, w.nR, w.nL, w.nD⟩
theorem Wd.keep {H H' : Hp} {d M RL b L y D : Addr} {ps : List (Nat × Int)} {rs : List (List Nat × List Nat)} (w : Wd K H d M RL b L y D ps rs) (k : Keep d H H') (e : DrL H' d) : Wd K H' d M RL b L y D ps rs := by
  obtain ⟨ds, dl, de⟩ := w.dr
  exact ⟨e, w.prs.keep k w.nM de, w.rls.keep k w.nR de, w.bk.keep k w.nL de, w.row.keep k w.nD de, w.nM, w.nR, w.nL, w.nD⟩
/-! lists of rules: data, cuts -/
theorem strOk_let {l : List Nat} (h : ∀ c ∈ l, c ∈ letters) : PyData.strOk (tx l) = true := by
  simp [PyData.strOk, tx]
  exact fun c hc => letters_small c (h c hc)
def rdat (r : List Nat × List Nat) : PyData := .tuple [.str (tx r.1), .str (tx r.2)]
theorem rlData {H : Hp} : ∀ (as : List Addr) (rs : List (List Nat × List Nat)), as.length = rs.length → (∀ (j : Nat) (a : Addr) (r : List Nat × List Nat), as[j]? = some a → rs[j]? = some r → H a = some (.tup [.str (tx r.1), .str (tx r.2)])) → DpAll K H (as.map V.ref) (rs.map rdat)
  | [], [], _, _ => .nil
  | [], _ :: _, h, _ => by cases h
  | _ :: _, [], h, _ => by cases h
  | a :: as, r :: rs, h, hp => .cons (.tup (SqT.of (hp 0 a r rfl rfl)) (.cons (.str _) (.cons (.str _) .nil))) (rlData as rs (by simpa using h) fun j b q e1 e2 => hp (j + 1) b q e1 e2)
theorem canLay_rl : ∀ {rs : List (List Nat × List Nat)}, OkRs rs → PyData.canLayAll0 (rs.map rdat) = true
  | [], _ => by simp [PyData.canLayAll0]
  | r :: t, h => by
    have h1 := strOk_let (h r List.mem_cons_self).2.1
    have h2 := strOk_let (h r List.mem_cons_self).2.2
    have h3 := canLay_rl (rs := t) fun q hq => h q (List.mem_cons_of_mem _ hq)
    simp [PyData.canLayAll0, rdat, PyData.canLay0, h1, h2, h3]
theorem depth_rl : ∀ rs : List (List Nat × List Nat), PyData.depthAll (rs.map rdat) ≤ 1
  | [] => by simp [PyData.depthAll]
  | r :: t => by
    have := depth_rl t
    simp [PyData.depthAll, rdat, PyData.depth]
    omega
theorem shaped_rl {rs : List (List Nat × List Nat)} (h : OkRs rs) : SeqAt.shaped (.list (rs.map rdat)) = true := by
  have h1 := canLay_rl h
  have h2 := depth_rl rs
  simp [SeqAt.shaped, PyData.canLay0, h1, PyData.depth]
  omega
theorem RlsL.data {H : Hp} {D : Addr} {rs : List (List Nat × List Nat)} (h : RlsL H D rs) : Dp K H (.ref D) (.list (rs.map rdat)) := by
  obtain ⟨as, e, hl, hp⟩ := h
  exact .lst (SqL.of e) (rlData as rs hl hp)
/-! book.drop -/
theorem eraseIdx_map {α β : Type} (f : α → β) : ∀ (l : List α) (i : Nat), (l.map f).eraseIdx i = (l.eraseIdx i).map f
  | [], _ => rfl
  | _ :: _, 0 => rfl
  | x :: l, i + 1 => by
    show f x :: (l.map f).eraseIdx i = f x :: (l.eraseIdx i).map f
    rw [eraseIdx_map f l i]
theorem look_drop (v : V) : List.lookup ("drop" : Str) [(("rules" : Str), v)] = none := by
  have e : (("drop" : Str) == "rules") = false := by decide +kernel
  simp [List.lookup, e]
theorem drop_ok {P : Program} {mg : Str → Option Value} (T : Txt P K mg) {b L : Addr} {n : Int} {rs : List (List Nat × List Nat)} {H : Hp} {Q : VK} {E : XK} (hb : BookAt K H b L rs) (hn : rs.length ≤ 6)
    (h1 : ∀ (i : Nat) (hi : i < rs.length) u H', n = i → Keep L H H' → RuleAt K H' u rs[i].1 rs[i].2 → BookAt K H' b L (rs.eraseIdx i) → Q (.ref u) H')
    (h2 : ¬ (0 ≤ n ∧ n < rs.length) → ∀ d, H d = none → E (.ref (He.ga K "NoRule")) (some d) (upd H d (.xd [("number", .int n)]))) : sp_Book_drop K [.ref b, .int n] H Q E := by
  refine ⟨rfl, ?_⟩
  unfold t_Book_drop
  obtain ⟨⟨dx, eb⟩, us, eL, hru⟩ := id hb
  walk_at "sq"
  walk_at "st"
  by_cases n0 : 0 ≤ n
  case neg =>
    rw [decide_eq_false n0]
    walk_at "st"
    exact ⟨_, rfl, fun d hd => h2 (fun z => n0 z.1) d hd⟩
  rw [decide_eq_true n0]
  walk_at "st"
  refine ⟨b, _, dx, _, _, rfl, eb, T.c_Book, T.n_Book_rules, look_rules _, ?_⟩
  walk_at "st"
  refine lenA_lst (.of eL) ?_
  rw [List.length_map, hru.1]
  walk_at "st"
  by_cases n1 : n < rs.length
  case neg =>
    rw [decide_eq_false n1]
    walk_at "st"
    exact ⟨_, rfl, fun d hd => h2 (fun z => n1 z.2) d hd⟩
  rw [decide_eq_true n1]
  walk_at "st"
  refine ⟨b, _, dx, _, _, rfl, eb, T.c_Book, T.n_Book_rules, look_rules _, ?_⟩
  walk_at "st"
  refine ⟨tyL eL, ?_⟩
  walk_at "st"
  obtain ⟨i, rfl⟩ : ∃ i : Nat, n = i := ⟨n.toNat, by omega⟩
  have hi : i < rs.length := by omega
  have hu : i < us.length := by rw [hru.1]; exact hi
  refine ⟨L, _, (i : Int), i, .ref us[i], rfl, rfl, eL, by omega, by omega, ?_, by rw [List.getElem?_map, List.getElem?_eq_getElem hu]; rfl, ?_⟩
  · unfold seqIndex?
    rw [List.length_map]
    simp
    omega
  · have ru := hru.2 i us[i] rs[i] (List.getElem?_eq_getElem hu) (List.getElem?_eq_getElem hi)
    refine h1 i hi us[i] _ rfl Keep.at_ (ru.keep Keep.at_ eL) ⟨⟨dx, Keep.at_ _ _ (fun z => by rw [z, eL] at eb; cases eb) eb⟩, us.eraseIdx i, by rw [upd_same, eraseIdx_map], by rw [List.length_eraseIdx, List.length_eraseIdx, hru.1], fun j v q e1 e2 => ?_⟩
    rw [List.getElem?_eraseIdx] at e1 e2
    have key : RuleAt K H v q.1 q.2 := by
      by_cases c : j < i
      · rw [if_pos c] at e1 e2
        exact hru.2 j v q e1 e2
      · rw [if_neg c] at e1 e2
        exact hru.2 (j + 1) v q e1 e2
    exact key.keep Keep.at_ eL
/-! a walk of a generator in turns: its readings -/
theorem wfor_it {J : It} {n : Nat} {G : Hp → Prop} {Yl : Nat → Hp → V → Hp → Prop} (w : Walk J n G Yl) {g : TG} {tb : TGw} {Y : WY} {D : WEnds} {c : L2.St} {k : Nat} {σ : L2.St} {H : Hp} (Pv : Nat → L2.St → Nat → L2.St → Hp → Prop) (h0 : Pv 0 c k σ H) (hG : ∀ i c k σ H, i ≤ n → Pv i c k σ H → G H)
    (hs : ∀ i x c k σ H H', i < n → Pv i c k σ H → Yl i H x H' → g x σ H' fun σ2 H2 => tb Y { D with nx := Pv (i + 1), ct := Pv (i + 1), bk := D.nx } c k σ2 H2) (hd : ∀ c k σ H, Pv n c k σ H → D.nx c k σ H) :
    ∃ W : Nat → Nat → L2.St → Nat → L2.St → Hp → Prop, (∃ m, W 0 m c k σ H) ∧ ∀ i m c k σ H, W i m c k σ H →
      (J.stop i H ∧ D.nx c k σ H) ∨ (J.go i H ∧ ∃ N : L2.St → Nat → L2.St → Hp → Prop, (∀ c' k' σ' H', N c' k' σ' H' → ∃ m', m' < m ∧ W (i + 1) m' c' k' σ' H') ∧ ∀ x H', J.yld i H x H' → g x σ H' fun σ2 H2 => tb Y { D with nx := N, ct := N, bk := D.nx } c k σ2 H2) := by
  refine ⟨fun i m c k σ H => m = n - i ∧ i ≤ n ∧ Pv i c k σ H, ⟨n, by simp, Nat.zero_le _, h0⟩, ?_⟩
  rintro i m c k σ H ⟨rfl, hi, p⟩
  have q := hG i c k σ H hi p
  by_cases hlt : i < n
  · exact .inr ⟨w.goes i H hlt q, Pv (i + 1), fun c' k' σ' H' p' => ⟨n - (i + 1), by omega, rfl, hlt, p'⟩, fun x H' y => hs i x c k σ H H' hlt p (w.yields i H x H' hlt q y)⟩
  · have e : i = n := by omega
    subst e
    exact .inl ⟨w.stops H q, hd c k σ H p⟩
theorem rd_wfor {wi : TI} {g : TG} {tb : TGw} {Y : WY} {D : WEnds} {c : L2.St} {k : Nat} {σ : L2.St} {H : Hp} (h : wi σ H fun J H0 => ∃ W : Nat → Nat → L2.St → Nat → L2.St → Hp → Prop, (∃ m, W 0 m c k σ H0) ∧ ∀ i m c k σ H, W i m c k σ H →
  (J.stop i H ∧ D.nx c k σ H) ∨ (J.go i H ∧ ∃ N : L2.St → Nat → L2.St → Hp → Prop, (∀ c' k' σ' H', N c' k' σ' H' → ∃ m', m' < m ∧ W (i + 1) m' c' k' σ' H') ∧
    ∀ x H', J.yld i H x H' → g x σ H' fun σ1 H1 => tb Y { D with nx := N, ct := N, bk := D.nx } c k σ1 H1)) : tWFor wi g tb Y D c k σ H := h
theorem rd_wthen {t u : TGw} {Y : WY} {D : WEnds} {c : L2.St} {k : Nat} {σ : L2.St} {H : Hp} (h : t Y { D with nx := fun c' k' σ' H' => u Y D c' k' σ' H' } c k σ H) : tWThen t u Y D c k σ H := h
theorem rd_w0 {Y : WY} {D : WEnds} {c : L2.St} {k : Nat} {σ : L2.St} {H : Hp} (h : D.nx c k σ H) : tW0 Y D c k σ H := h
theorem rd_wif {tc : TT} {ta tb : TGw} {Y : WY} {D : WEnds} {c : L2.St} {k : Nat} {σ : L2.St} {H : Hp} (h : tc σ H fun b H1 => if b = true then ta Y D c k σ H1 else tb Y D c k σ H1) : tWIf tc ta tb Y D c k σ H := h
theorem rd_wyield {te : TE} {Y : WY} {D : WEnds} {c : L2.St} {k : Nat} {σ : L2.St} {H : Hp} (h : k < sizeLine ∧ te σ H fun x H1 => Y c x H1 fun c' H2 => D.nx c' (k + 1) σ H2) : tWYield te Y D c k σ H := h
theorem rd_wplain {t : TS} {Y : WY} {D : WEnds} {c : L2.St} {k : Nat} {σ : L2.St} {H : Hp} (h : t (D.at c k) σ H) : tPlainW t Y D c k σ H := h
theorem rd_methW {C : Addr} {m : Str} {sp : SpW} {n : Nat} {ta : TE} {t : TA} {σ : L2.St} {H : Hp} {cont : TStart → Hp → Prop} (h : ta σ H fun x H1 => ∃ a dx fs, x = .ref a ∧ H1 a = some (.ins C dx fs) ∧ fs.lookup m = none ∧
  t σ H1 fun vs H2 => vs.length + 1 = n ∧ cont (sp (x :: vs)) H2) : tMethW C m sp n ta t σ H cont := h
theorem rd_forW {tg : TGwe} {g : TG} {tb : TS} {D : Ends} {σ : L2.St} {H : Hp} (h : tg σ H fun st H1 => st (fun c x H k => g x c H fun c1 H2 => tb { D with nx := k, ct := k, bk := D.nx } c1 H2) (fun c H => D.nx c H) σ H1) : tForW tg g tb D σ H := h
theorem rd_lcW {tgn : TGwe} {g : TG} {tt : TT} {te : TE} {vs : List Nat} {σ : L2.St} {H : Hp} {Q : VK} (h : tgn σ H fun st H1 => ∀ D, H1 D = none →
  st (fun c x H k => g x c H fun σ2 H2 => wipe σ2 vs = c ∧ tt σ2 H2 fun b H3 => if b = true then te σ2 H3 fun y H4 => ∃ acc, H4 D = some (.lst acc) ∧ acc.length < sizeLine ∧ k c (upd H4 D (.lst (acc ++ [y]))) else k c H3)
    (fun _ H => Q (.ref D) H) (wipe σ vs) (upd H1 D (.lst []))) : tLcW tgn g tt te vs σ H Q := h
local macro_rules | `(tactic| walk_at "rd") => `(tactic| first | (with_reducible refine rd_wfor ?_) | (with_reducible refine rd_wthen ?_) | (with_reducible refine rd_w0 ?_) | (with_reducible refine rd_wif ?_) | (with_reducible refine rd_wyield ?_) | (with_reducible refine rd_wplain ?_) | (with_reducible refine rd_methW ?_) | (with_reducible refine rd_forW ?_) | (with_reducible refine rd_lcW ?_))
theorem topH_le {hs : List Int} {m : Int} (h0 : 0 ≤ m) (h : ∀ x ∈ hs, x ≤ m) : topH hs ≤ m := by
  rcases (foldl_max hs 0).2.2 with e | e
  · show hs.foldl max 0 ≤ m
    omega
  · exact h _ e
theorem topH_mem {hs : List Int} {x : Int} (h : x ∈ hs) : x ≤ topH hs := (foldl_max hs 0).2.1 x h
/-- the step that the law counts as open -/
def opP (ps : List (Nat × Int)) (r : List Nat × List Nat) (k : Nat) : Prop := fitsP ps r.1 (k : Int) ∧ topH ((stepP ps r.1 r.2 (k : Int)).map Prod.snd) ≤ 9
instance (ps : List (Nat × Int)) (r : List Nat × List Nat) (k : Nat) : Decidable (opP ps r k) := by unfold opP fitsP; infer_instance
def opIn (ps : List (Nat × Int)) (rs : List (List Nat × List Nat)) (k n : Nat) : List (Nat × Nat) := ((List.range n).filter fun i => decide (opP ps (rs.getD i ([], [])) k)).map fun i => (i, k)
def opTo (ps : List (Nat × Int)) (rs : List (List Nat × List Nat)) : Nat → List (Nat × Nat)
  | 0 => []
  | k + 1 => opTo ps rs k ++ opIn ps rs k rs.length
theorem opIn_succ {ps : List (Nat × Int)} {rs : List (List Nat × List Nat)} {k n : Nat} : opIn ps rs k (n + 1) = opIn ps rs k n ++ if opP ps (rs.getD n ([], [])) k then [(n, k)] else [] := by
  unfold opIn
  rw [List.range_succ, List.filter_append, List.map_append]
  congr 1
  by_cases h : opP ps (rs.getD n ([], [])) k
  · rw [if_pos h, List.filter_cons_of_pos (by simpa using h)]; rfl
  · rw [if_neg h, List.filter_cons_of_neg (by simpa using h)]; rfl
theorem opIn_len {ps : List (Nat × Int)} {rs : List (List Nat × List Nat)} {k n : Nat} : (opIn ps rs k n).length ≤ n := by
  unfold opIn
  rw [List.length_map]
  have := List.length_filter_le (fun i => decide (opP ps (rs.getD i ([], [])) k)) (List.range n)
  rw [List.length_range] at this
  exact this
theorem opTo_len {ps : List (Nat × Int)} {rs : List (List Nat × List Nat)} : ∀ k, (opTo ps rs k).length ≤ k * rs.length
  | 0 => Nat.zero_le _
  | k + 1 => by
    have h1 := opTo_len (ps := ps) (rs := rs) k
    have h2 := opIn_len (ps := ps) (rs := rs) (k := k) (n := rs.length)
    show (opTo ps rs k ++ opIn ps rs k rs.length).length ≤ (k + 1) * rs.length
    rw [List.length_append, Nat.succ_mul]
    omega
theorem opTo_mem {ps : List (Nat × Int)} {rs : List (List Nat × List Nat)} {q : Nat × Nat} : ∀ {k : Nat}, q ∈ opTo ps rs k ↔ q.2 < k ∧ q.1 < rs.length ∧ opP ps (rs.getD q.1 ([], [])) q.2
  | 0 => by simp [opTo]
  | k + 1 => by
    show q ∈ opTo ps rs k ++ opIn ps rs k rs.length ↔ _
    rw [List.mem_append, opTo_mem (k := k)]
    unfold opIn
    rw [List.mem_map]
    constructor
    · rintro (⟨a, b, c⟩ | ⟨i, hi, rfl⟩)
      · exact ⟨by omega, b, c⟩
      · obtain ⟨h1, h2⟩ := List.mem_filter.mp hi
        exact ⟨by show k < k + 1; omega, List.mem_range.mp h1, of_decide_eq_true h2⟩
    · rintro ⟨a, b, c⟩
      by_cases e : q.2 = k
      · refine .inr ⟨q.1, List.mem_filter.mpr ⟨List.mem_range.mpr b, ?_⟩, by rw [← e]⟩
        rw [← e]
        exact decide_eq_true c
      · exact .inl ⟨by omega, b, c⟩
/-- for rows with lawful heights: open is what can be taken -/
theorem op_iff {ps : List (Nat × Int)} {r : List Nat × List Nat} {k : Nat} (ok : Okp ps) (okr : okR r) : opP ps r k ↔ fitsP ps r.1 (k : Int) ∧ (r.2 = [] ∨ wrote ps r.1 (k : Int) ≤ 9) := by
  unfold opP
  constructor
  · rintro ⟨f, t⟩
    refine ⟨f, ?_⟩
    by_cases e : r.2 = []
    · exact .inl e
    · obtain ⟨c, hc⟩ := List.exists_mem_of_ne_nil _ e
      have m : (c, wrote ps r.1 (k : Int)) ∈ stepP ps r.1 r.2 (k : Int) := by
        unfold stepP
        exact List.mem_append_left _ (List.mem_append_right _ (List.mem_map.mpr ⟨c, hc, rfl⟩))
      have := topH_mem (List.mem_map.mpr ⟨_, m, rfl⟩ : wrote ps r.1 (k : Int) ∈ (stepP ps r.1 r.2 (k : Int)).map Prod.snd)
      exact .inr (by omega)
  · rintro ⟨f, w⟩
    refine ⟨f, topH_le (by decide) fun x hx => ?_⟩
    obtain ⟨p, hp, rfl⟩ := List.mem_map.mp hx
    exact (stepP_ok okr.1.1 ok okr.2.2 f w p hp).2.2
/-- steps taken one after the other -/
def runP (rs : List (List Nat × List Nat)) : List (Nat × Int) → List (Nat × Nat) → List (Nat × Int)
  | ps, [] => ps
  | ps, q :: qs => runP rs (stepP ps (rs.getD q.1 ([], [])).1 (rs.getD q.1 ([], [])).2 (q.2 : Int)) qs
def okRun (rs : List (List Nat × List Nat)) : List (Nat × Int) → List (Nat × Nat) → Prop
  | _, [] => True
  | ps, q :: qs => (q.1 < rs.length ∧ opP ps (rs.getD q.1 ([], [])) q.2) ∧ okRun rs (stepP ps (rs.getD q.1 ([], [])).1 (rs.getD q.1 ([], [])).2 (q.2 : Int)) qs
theorem runP_snoc {rs : List (List Nat × List Nat)} : ∀ {ps : List (Nat × Int)} {qs : List (Nat × Nat)} {q : Nat × Nat}, runP rs ps (qs ++ [q]) = stepP (runP rs ps qs) (rs.getD q.1 ([], [])).1 (rs.getD q.1 ([], [])).2 (q.2 : Int)
  | _, [], _ => rfl
  | ps, p :: qs, q => by
    show runP rs _ (qs ++ [q]) = stepP (runP rs _ qs) _ _ _
    exact runP_snoc
theorem okRun_snoc {rs : List (List Nat × List Nat)} : ∀ {ps : List (Nat × Int)} {qs : List (Nat × Nat)} {q : Nat × Nat}, okRun rs ps (qs ++ [q]) ↔ okRun rs ps qs ∧ q.1 < rs.length ∧ opP (runP rs ps qs) (rs.getD q.1 ([], [])) q.2
  | ps, [], q => by
    show (_ ∧ True) ↔ (True ∧ _)
    simp [runP]
  | ps, p :: qs, q => by
    show (_ ∧ okRun rs _ (qs ++ [q])) ↔ ((_ ∧ okRun rs _ qs) ∧ _)
    rw [okRun_snoc]
    show (_ ∧ _ ∧ _) ↔ ((_ ∧ _) ∧ _ ∧ opP (runP rs _ qs) _ _)
    exact and_assoc.symm
theorem okRun_take {rs : List (List Nat × List Nat)} {ps : List (Nat × Int)} {qs : List (Nat × Nat)} (h : okRun rs ps qs) : ∀ i, okRun rs ps (qs.take i) := by
  intro i
  induction qs generalizing ps i with
  | nil => rw [List.take_nil]; trivial
  | cons q qs ih =>
    cases i with
    | zero => trivial
    | succ i => exact ⟨h.1, ih h.2 i⟩
theorem run_at {rs : List (List Nat × List Nat)} {ps : List (Nat × Int)} {qs : List (Nat × Nat)} {i : Nat} {q : Nat × Nat} (e : qs[i]? = some q) : runP rs ps (qs.take (i + 1)) = stepP (runP rs ps (qs.take i)) (rs.getD q.1 ([], [])).1 (rs.getD q.1 ([], [])).2 (q.2 : Int) := by
  obtain ⟨hi, e2⟩ := List.getElem?_eq_some_iff.mp e
  rw [List.take_succ_eq_append_getElem hi, e2, runP_snoc]
theorem okRun_at {rs : List (List Nat × List Nat)} {ps : List (Nat × Int)} {qs : List (Nat × Nat)} {i : Nat} {q : Nat × Nat} (h : okRun rs ps qs) (e : qs[i]? = some q) : q.1 < rs.length ∧ opP (runP rs ps (qs.take i)) (rs.getD q.1 ([], [])) q.2 := by
  obtain ⟨hi, e2⟩ := List.getElem?_eq_some_iff.mp e
  have z := okRun_take h (i + 1)
  rw [List.take_succ_eq_append_getElem hi, e2, okRun_snoc] at z
  exact z.2
theorem run_ok {rs : List (List Nat × List Nat)} (okr : OkRs rs) : ∀ {qs : List (Nat × Nat)} {ps : List (Nat × Int)}, Okp ps → okRun rs ps qs → Okp (runP rs ps qs) ∧ (runP rs ps qs).length ≤ ps.length + 4 * qs.length
  | [], ps, ok, _ => ⟨ok, by simp [runP]⟩
  | q :: qs, ps, ok, h => by
    obtain ⟨⟨h1, h2⟩, h3⟩ := h
    have gd : rs.getD q.1 ([], []) = rs[q.1] := by simp [List.getD, List.getElem?_eq_getElem h1]
    have o := okr.get h1
    rw [gd] at h2 h3
    obtain ⟨f, w⟩ := (op_iff ok o).mp h2
    have s := stepP_ok o.1.1 ok o.2.2 f w
    have l := stepP_len (ps := ps) (l := rs[q.1].1) (r := rs[q.1].2) (k := (q.2 : Int))
    have z := run_ok okr (qs := qs) s h3
    have o4 := o.1.2.2
    show Okp (runP rs (stepP ps (rs.getD q.1 ([], [])).1 (rs.getD q.1 ([], [])).2 (q.2 : Int)) qs) ∧ (runP rs (stepP ps (rs.getD q.1 ([], [])).1 (rs.getD q.1 ([], [])).2 (q.2 : Int)) qs).length ≤ _
    rw [gd]
    refine ⟨z.1, ?_⟩
    rw [List.length_cons]
    omega
theorem run_take {rs : List (List Nat × List Nat)} (okr : OkRs rs) {qs : List (Nat × Nat)} {ps : List (Nat × Int)} (ok : Okp ps) (h : okRun rs ps qs) (i : Nat) : Okp (runP rs ps (qs.take i)) ∧ (runP rs ps (qs.take i)).length ≤ ps.length + 4 * qs.length := by
  obtain ⟨a, b⟩ := run_ok okr ok (okRun_take h i)
  have := List.length_take_le' i qs
  exact ⟨a, by omega⟩
/-- the text with heights 0 -/
def zeroP (t : List Nat) : List (Nat × Int) := t.map fun c => (c, 0)
theorem zeroP_ok {t : List Nat} (h : ∀ c ∈ t, c ∈ letters) : Okp (zeroP t) := fun p hp => by
  obtain ⟨c, hc, rfl⟩ := List.mem_map.mp hp
  exact ⟨h c hc, by show (0 : Int) ≤ 0; omega, by show (0 : Int) ≤ 9; omega⟩
theorem zeroP_len (t : List Nat) : (zeroP t).length = t.length := List.length_map _
theorem zeroP_zip (t : List Nat) : t.zip (List.replicate t.length (0 : Int)) = zeroP t := by
  induction t with
  | nil => rfl
  | cons c r ih => show (c, (0 : Int)) :: r.zip (List.replicate r.length 0) = (c, 0) :: zeroP r; rw [ih]
/-! what can be taken, walked -/
theorem law_top_ok {M : Addr} {ps : List (Nat × Int)} {H : Hp} {Q : VK} {E : XK} (hn : ps.length ≤ 5000) (hM : Prs H M ps) (h : ∀ H', Same H H' → Q (.int (topH (ps.map Prod.snd))) H') : sp_law_top K [.ref M] H Q E := by
  refine ⟨rfl, ?_⟩
  unfold t_law_top
  walk_at "st"
  intro p hp
  have s0 := Same.new (o := .lst [.int 0]) hp
  walk_at "st"
  refine comp2_snd (Nat.le_of_ble_eq_true rfl) (Nat.le_of_ble_eq_true rfl) (by decide) (hM.same s0) (by omega) fun L H2 s2 hL eL => ?_
  refine addA_lst (s2 _ _ upd_same) eL (by rw [List.length_map, List.length_map, List.length_singleton, sizeLine_eq]; omega) fun q hq => ?_
  walk_at "st"
  exact max_ok upd_same (h _ ((s0.trans s2).trans (Same.new hq)))
theorem open_steps_ok {M RL : Addr} {ps : List (Nat × Int)} {rs : List (List Nat × List Nat)} {H : Hp} {Q : VK} {E : XK} (hn : ps.length ≤ 1000) (okr : OkRs rs) (hl : rs.length ≤ 6) (hM : Prs H M ps) (hR : RlsL H RL rs)
    (h : ∀ p H', Same H H' → H p = none → StA H' p (opTo ps rs ps.length) → Q (.ref p) H') : sp_law_open_steps K [.ref M, .ref RL] H Q E := by
  refine ⟨rfl, ?_⟩
  unfold t_law_open_steps
  walk_at "sq"
  walk_at "st"
  intro Du hDu
  have sD := Same.new (o := .lst []) hDu
  walk_at "st"
  walk_at "sq"
  walk_at "st"
  obtain ⟨asM, eM, laM, _⟩ := id (hM.same sD)
  refine lenA_lst (.of eM) ?_
  rw [List.length_map, laM]
  walk_at "st"
  refine ⟨ps.length, rfl, by omega, by omega, ?_⟩
  refine forR (n := ps.length) (fun k σ H2 => (∃ v3 v4 v5, σ = [some (.ref M), some (.ref RL), some (.ref Du), v3, v4, v5]) ∧ Same H H2 ∧ StA H2 Du (opTo ps rs k)) ⟨⟨none, none, none, rfl⟩, sD, StA.nil upd_same⟩ ?_ ?_
  · rintro k σ H2 hk ⟨⟨v3, v4, v5, rfl⟩, s2, u2⟩
    walk_at "st"
    obtain ⟨asR, eR, laR, _⟩ := id (hR.same s2)
    refine lenA_lst (.of eR) ?_
    rw [List.length_map, laR]
    walk_at "st"
    refine ⟨rs.length, rfl, by omega, by omega, ?_⟩
    refine forR (n := rs.length) (fun i σ H3 => (∃ v4 v5, σ = [some (.ref M), some (.ref RL), some (.ref Du), some (.int k), v4, v5]) ∧ Same H H3 ∧ StA H3 Du (opTo ps rs k ++ opIn ps rs k i)) ⟨⟨_, _, rfl⟩, s2, by rw [show opIn ps rs k 0 = [] from rfl, List.append_nil]; exact u2⟩ ?_ ?_
    · rintro i σ H3 hi ⟨⟨v4, v5, rfl⟩, s3, u3⟩
      have hi2 : i < rs.length := by omega
      walk_at "st"
      walk_at "sq"
      walk_at "st"
      obtain ⟨as, a, e1, la, e2, ea⟩ := (hR.same s3).at_ hi2
      have okq := okr.get hi2
      have gd : rs.getD i ([], []) = rs[i] := by simp [List.getD, List.getElem?_eq_getElem hi2]
      refine ixA_lst (.of e1) e2 ?_
      walk_at "st"
      refine take_ok (by omega) okq.1.1 okq.1.2.1 okq.1.2.2 (hM.same s3) ea ?_ ?_
      · intro nf H4 s4
        walk_at "st"
        refine ⟨rfl, ?_⟩
        walk_at "auto"
        refine ⟨⟨_, _, rfl⟩, s3.trans s4, ?_⟩
        rw [opIn_succ, gd, if_neg (fun q => nf q.1), List.append_nil]
        exact u3.same s4
      · intro hf z H4 s4 fz pz
        walk_at "st"
        refine ⟨rfl, ?_⟩
        walk_at "st"
        have lr := okq.1.2.2
        have lz := stepP_len (ps := ps) (l := rs[i].1) (r := rs[i].2) (k := (k : Int))
        refine law_top_ok (by omega) pz fun H5 s5 => ?_
        have u5 := u3.same (s4.trans s5)
        have s15 := s3.trans (s4.trans s5)
        walk_at "st"
        by_cases c : topH ((stepP ps rs[i].1 rs[i].2 (k : Int)).map Prod.snd) ≤ 9
        · refine rd_iteB (decide_eq_true c) ?_
          walk_at "st"
          obtain ⟨ys, eU, hys⟩ := id u5
          refine ⟨tyL eU, ?_⟩
          walk_at "st"
          intro Tp hT
          have sT := Same.new (o := .tup [.int (i : Nat), .int (k : Nat)]) hT
          walk_at "st"
          have lys : ys.length ≤ 10000 := by
            obtain ⟨as', rfl, la', _⟩ := hys
            have l1 := opTo_len (ps := ps) (rs := rs) k
            have l2 := opIn_len (ps := ps) (rs := rs) (k := k) (n := i)
            have hm : k * rs.length ≤ 1000 * 6 := Nat.mul_le_mul (by omega) hl
            rw [List.length_map, la', List.length_append]
            omega
          refine append_go (sT _ _ eU) (by omega) ?_
          refine ⟨⟨_, _, rfl⟩, fun c o e => ?_, ys ++ [.ref Tp], upd_same, ?_⟩
          · rw [upd_ne (ne_of_none e hDu)]
            exact sT _ _ (s15 _ _ e)
          · rw [opIn_succ, gd, if_pos ⟨hf, c⟩, ← List.append_assoc]
            exact ((hys.same sT).push (q := (i, k)) upd_same).keep Keep.at_ (sT _ _ eU)
        · refine rd_iteC (decide_eq_false c) ?_
          walk_at "st"
          refine ⟨⟨_, _, rfl⟩, s15, ?_⟩
          rw [opIn_succ, gd, if_neg (fun q => c q.2), List.append_nil]
          exact u5
    · rintro σ H3 ⟨⟨v4, v5, rfl⟩, s3, u3⟩
      rw [Int.toNat_natCast] at u3
      walk_at "st"
      exact ⟨⟨_, _, _, rfl⟩, s3, u3⟩
  · rintro σ H2 ⟨⟨v3, v4, v5, rfl⟩, s2, u2⟩
    rw [Int.toNat_natCast] at u2
    walk_at "st"
    exact h Du H2 s2 hDu u2
/-! lists of steps with any numbers -/
def ci (q : Nat × Nat) : Int × Int := ((q.1 : Int), (q.2 : Int))
def StI (H : Hp) (D : Addr) (zs : List (Int × Int)) : Prop := ∃ as : List Addr, H D = some (.lst (as.map V.ref)) ∧ as.length = zs.length ∧ ∀ (j : Nat) (a : Addr) (z : Int × Int), as[j]? = some a → zs[j]? = some z → H a = some (.tup [.int z.1, .int z.2])
theorem StI.same {H H' : Hp} {D : Addr} {zs : List (Int × Int)} (h : StI H D zs) (s : Same H H') : StI H' D zs := let ⟨as, a, b, c⟩ := h; ⟨as, s _ _ a, b, fun j x z e f => s _ _ (c j x z e f)⟩
theorem StI.keep {H H' : Hp} {D e : Addr} {xs : List V} {zs : List (Int × Int)} (h : StI H D zs) (k : Keep e H H') (n : D ≠ e) (he : H e = some (.lst xs)) : StI H' D zs := by
  obtain ⟨as, a, b, c⟩ := h
  exact ⟨as, k _ _ n a, b, fun j x z e1 e2 => k _ _ (fun q => by have := c j x z e1 e2; rw [q, he] at this; cases this) (c j x z e1 e2)⟩
theorem StI.keepD {H H' : Hp} {D e : Addr} {zs : List (Int × Int)} (h : StI H D zs) (k : Keep e H H') (n : D ≠ e) (he : DrL H e) : StI H' D zs := let ⟨_, _, q⟩ := he; h.keep k n q
theorem StA.toI {H : Hp} {D : Addr} {qs : List (Nat × Nat)} (h : StA H D qs) : StI H D (qs.map ci) := by
  obtain ⟨ys, e, as, rfl, hl, hp⟩ := h
  refine ⟨as, e, by rw [List.length_map, hl], fun j a z e1 e2 => ?_⟩
  rw [List.getElem?_map] at e2
  cases eq : qs[j]? with
  | none => rw [eq] at e2; cases e2
  | some q =>
    rw [eq] at e2
    cases e2
    exact hp j a q e1 eq
theorem StI.nil {H : Hp} {D : Addr} (h : H D = some (.lst [])) : StI H D [] := ⟨[], h, rfl, fun j a z e => by simp at e⟩
theorem StI.app {H : Hp} {D : Addr} {as bs : List Addr} {zs ws : List (Int × Int)} (h : H D = some (.lst (as.map V.ref ++ bs.map V.ref))) (la : as.length = zs.length) (lb : bs.length = ws.length)
    (ha : ∀ (j : Nat) (a : Addr) (z : Int × Int), as[j]? = some a → zs[j]? = some z → H a = some (.tup [.int z.1, .int z.2])) (hb : ∀ (j : Nat) (a : Addr) (z : Int × Int), bs[j]? = some a → ws[j]? = some z → H a = some (.tup [.int z.1, .int z.2])) : StI H D (zs ++ ws) := by
  refine ⟨as ++ bs, by rw [List.map_append]; exact h, by rw [List.length_append, List.length_append, la, lb], fun j a z e1 e2 => ?_⟩
  by_cases hj : j < as.length
  · rw [List.getElem?_append_left hj] at e1
    rw [List.getElem?_append_left (by omega)] at e2
    exact ha j a z e1 e2
  · rw [List.getElem?_append_right (by omega)] at e1
    rw [List.getElem?_append_right (by omega), ← la] at e2
    exact hb _ a z e1 e2
def zd (z : Int × Int) : PyData := .tuple [.int z.1, .int z.2]
theorem ziData {H : Hp} : ∀ (as : List Addr) (zs : List (Int × Int)), as.length = zs.length → (∀ (j : Nat) (a : Addr) (z : Int × Int), as[j]? = some a → zs[j]? = some z → H a = some (.tup [.int z.1, .int z.2])) → DpAll K H (as.map V.ref) (zs.map zd)
  | [], [], _, _ => .nil
  | [], _ :: _, h, _ => by cases h
  | _ :: _, [], h, _ => by cases h
  | a :: as, z :: zs, h, hp => .cons (.tup (SqT.of (hp 0 a z rfl rfl)) (.cons (.int _) (.cons (.int _) .nil))) (ziData as zs (by simpa using h) fun j b q e1 e2 => hp (j + 1) b q e1 e2)
theorem canLay_zi : ∀ zs : List (Int × Int), PyData.canLayAll0 (zs.map zd) = true
  | [] => by simp [PyData.canLayAll0]
  | q :: r => by
    have h2 := canLay_zi r
    simp [PyData.canLayAll0, zd, PyData.canLay0, h2]
theorem depth_zi : ∀ zs : List (Int × Int), PyData.depthAll (zs.map zd) ≤ 1
  | [] => by simp [PyData.depthAll]
  | q :: r => by
    have := depth_zi r
    simp [PyData.depthAll, zd, PyData.depth]
    omega
theorem shaped_zi (zs : List (Int × Int)) : SeqAt.shaped (.list (zs.map zd)) = true := by
  have h1 := canLay_zi zs
  have h2 := depth_zi zs
  simp [SeqAt.shaped, PyData.canLay0, h1, PyData.depth]
  omega
theorem shaped_zd (z : Int × Int) : SeqAt.shaped (zd z) = true := by simp [zd, SeqAt.shaped, PyData.canLay0, PyData.canLayAll0, PyData.depth, PyData.depthAll]
theorem eqv_zd (p q : Int × Int) : PyData.eqv (zd p) (zd q) = decide (p = q) := by
  obtain ⟨a, b⟩ := p
  obtain ⟨c, d⟩ := q
  by_cases h1 : a = c <;> by_cases h2 : b = d <;> simp [zd, PyData.eqv, PyData.eqvAll, h1, h2]
theorem eqvAll_zi : ∀ ps qs : List (Int × Int), PyData.eqvAll (ps.map zd) (qs.map zd) = decide (ps = qs)
  | [], [] => by simp [PyData.eqvAll]
  | [], _ :: _ => by simp [PyData.eqvAll]
  | _ :: _, [] => by simp [PyData.eqvAll]
  | p :: ps, q :: qs => by
    have h := eqvAll_zi ps qs
    have h2 := eqv_zd p q
    simp [PyData.eqvAll, h, h2]
theorem eqv_zi (ps qs : List (Int × Int)) : PyData.eqv (.list (ps.map zd)) (.list (qs.map zd)) = decide (ps = qs) := by
  simp only [PyData.eqv]
  exact eqvAll_zi ps qs
theorem StI.data {H : Hp} {D : Addr} {zs : List (Int × Int)} (h : StI H D zs) : Dp K H (.ref D) (.list (zs.map zd)) := by
  obtain ⟨as, e, hl, hp⟩ := h
  exact .lst (SqL.of e) (ziData as zs hl hp)
theorem ne_zi {M N : Addr} {ps qs : List (Int × Int)} {H : Hp} {Q : VK} (hM : StI H M ps) (hN : StI H N qs) (h : Q (.bl (!decide (ps = qs))) H) : rNeA K (.ref M) (.ref N) H Q :=
  neA_data hM.data hN.data (shaped_zi _) (shaped_zi _) (eqv_zi ps qs) h
theorem any_zi (b : Int × Int) : ∀ zs : List (Int × Int), ((zs.map zd).any fun z => PyData.eqv z (zd b)) = decide (b ∈ zs)
  | [] => by simp
  | a :: r => by
    rw [List.map_cons, List.any_cons, any_zi b r, eqv_zd]
    by_cases h : a = b
    · subst h; simp
    · have : b ≠ a := fun e => h e.symm
      simp [h, this]
theorem notInZ {H : Hp} {u F : Addr} {n k : Int} {zs : List (Int × Int)} {Q : VK} (hu : H u = some (.tup [.int n, .int k])) (hF : StI H F zs) (h : Q (.bl (!decide ((n, k) ∈ zs))) H) : rNotInD K (.ref u) (.ref F) H Q :=
  ⟨zd (n, k), zs.map zd, .tup (SqT.of hu) (.cons (.int _) (.cons (.int _) .nil)), hF.data, shaped_zd _, shaped_zi _, by rw [any_zi]; exact h⟩
def t_bsend (K : Frg) (E : XK) : TS :=
  (tRet (tTup (tCons (tVar 3) (tCons (tVar 4) tNil))))
/-! the drawn bad step -/
theorem bad_step_ok {d M RL : Addr} {ps : List (Nat × Int)} {rs : List (List Nat × List Nat)} {H : Hp} {Q : VK} {E : XK} (hn : ps.length ≤ 1000) (hl : rs.length ≤ 6) (nM : M ≠ d) (nR : RL ≠ d) (hd : DrL H d) (hM : Prs H M ps) (hR : RlsL H RL rs)
    (h : ∀ n k T H', Keep d H H' → DrL H' d → H' T = some (.tup [.int n, .int k]) → Q (.ref T) H') : sp_law_bad_step K [.ref d, .ref M, .ref RL] H Q E := by
  refine ⟨rfl, ?_⟩
  unfold t_law_bad_step
  obtain ⟨as, eM, la, _⟩ := id hM
  obtain ⟨bs, eR, lb, _⟩ := id hR
  walk_at "sq"
  walk_at "st"
  refine lenA_lst (.of eR) ?_
  rw [List.length_map, lb]
  walk_at "st"
  refine pick_ok (by omega) hd fun n0 H1 _ _ k1 d1 => ?_
  have eM1 := k1 _ _ nM eM
  have eR1 := k1 _ _ nR eR
  walk_at "st"
  walk_at "sq"
  walk_at "st"
  refine lenA_lst (.of eM1) ?_
  rw [List.length_map, la]
  walk_at "st"
  refine pick_ok (by omega) d1 fun a0 H2 _ _ k2 d2 => ?_
  have k12 := k1.trans k2
  have eR2 := k2 _ _ nR eR1
  walk_at "st"
  walk_at "sq"
  walk_at "st"
  refine pick_ok (by decide) d2 fun c0 H3 c00 c01 k3 d3 => ?_
  have k13 := k12.trans k3
  have eR3 := k3 _ _ nR eR2
  walk_at "st"
  by_cases c : c0 = 1
  · refine rd_iteB (decide_eq_true c) ?_
    walk_at "st"
    refine pick_ok (by decide) d3 fun x H4 _ _ k4 d4 => ?_
    walk_at "st"
    refine lenA_lst (.of (k4 _ _ nR eR3)) ?_
    rw [List.length_map, lb]
    walk_at "st"
    refine pick_ok (by decide) d4 fun y H5 _ _ k5 d5 => ?_
    walk_at "st"
    intro p hp
    have np : p ≠ d := fun z => by
      obtain ⟨_, _, e⟩ := d5
      rw [z, e] at hp
      cases hp
    have d6 := d5.same (Same.new (o := .lst [.int (-1 - x), .int (rs.length + y)]) hp)
    walk_at "st"
    refine pick_ok (by decide) d6 fun i H7 i0 i1 k7 d7 => ?_
    have e7 := k7 _ _ np upd_same
    have k17 : Keep d H H7 := (k13.trans (k4.trans k5)).trans ((Keep.new hp).trans k7)
    have fin : ∀ v : Int, atI [V.int (-1 - x), V.int (rs.length + y)] i = some (V.int v) → rIx K (.ref p) (.int i) H7 fun v H8 => t_bsend K E { nx := fun _ H' => Q .non H', rt := Q } [some (.ref d), some (.ref M), some (.ref RL), some v, some (.int (a0 - 1))] H8 := fun v hv => by
      refine ixA_lst (.of e7) hv ?_
      unfold t_bsend
      walk_at "st"
      intro T hT
      exact h v (a0 - 1) T _ (k17.trans (Keep.new hT)) (d7.same (Same.new hT)) upd_same
    rcases (show i = 0 ∨ i = 1 by omega) with e | e
    · subst e
      exact fin _ rfl
    · subst e
      exact fin _ rfl
  · refine rd_iteC (decide_eq_false c) ?_
    walk_at "st"
    intro T hT
    exact h n0 (a0 - 1) T _ (k13.trans (Keep.new hT)) (d3.same (Same.new hT)) upd_same
/-! a sign that is no letter -/
theorem odd_all : ∀ c ∈ (Str.ofString " !\"#$&'()*+,-./0123456789:;<=>?@ABCDEFGHIJKLMNOPQRSTUVWXYZ[\\]^_`{|}~\n\t").cps.toList, c ∉ letters := by decide +kernel
theorem odd2_ok {d : Addr} {H : Hp} {Q : VK} {E : XK} (hd : DrL H d) (h : ∀ (c : Nat) H', c ∉ letters → Keep d H H' → DrL H' d → Q (.str (tx [c])) H') : sp_law_odd_sign K [.ref d] H Q E := by
  refine ⟨rfl, ?_⟩
  unfold t_law_odd_sign
  walk_at "go"
  refine lenA_str (small2 (by decide)) ?_
  walk_at "go"
  refine pick_ok (by decide) hd fun r H1 r0 r1 k1 d1 => ?_
  obtain ⟨n, rfl⟩ : ∃ n : Nat, r = n := ⟨r.toNat, by omega⟩
  have oa := odd_all
  generalize hz : (Str.ofString " !\"#$&'()*+,-./0123456789:;<=>?@ABCDEFGHIJKLMNOPQRSTUVWXYZ[\\]^_`{|}~\n\t") = z at r1 oa ⊢
  have hn : n < z.cps.toList.length := by
    have : z.cps.toList.length = z.length := by simp [Str.length]
    omega
  exact ixA_str (by rw [← hz]; exact small2 (by decide)) (atI_nat (List.getElem?_eq_getElem hn)) (h _ H1 (oa _ (List.getElem_mem hn)) k1 d1)
/-! a play made -/
theorem badH_rep (n : Nat) : badH (List.replicate n 0) = none := badH_none _ fun j x e => by
  have := List.mem_of_getElem? e
  have e2 := (List.mem_replicate.mp this).2
  rw [e2]; decide
theorem row_plain_ok {P : Program} {mg : Str → Option Value} (T : Txt P K mg) {l : List Nat} {H : Hp} {Q : VK} {E : XK} (hl : l.length ≤ 5000)
    (h : fo l = -1 → ∀ y D H', Same H H' → H y = none → H D = none → RowAt K H' y D (zeroP l) → Q (.ref y) H')
    (hE : 0 ≤ fo l → ∀ H' d, Same H H' → H' d = none → E (.ref (He.ga K "BadSign")) (some d) (upd H' d (.xd [("at", .int (fo l))]))) : MkG (He.ga K "Row") (sp_Row_init K) (List.drop 1 [.str "", .non]) [.str (tx l)] H Q E := by
  intro y dx hy hdx hne
  have s0 : Same H (upd (upd H dx (.own y)) y (.ins (He.ga K "Row") dx [])) := made_same hy hdx
  refine row_init_ok T (hs := List.replicate l.length 0) (by omega) (by rw [List.length_replicate]; omega) upd_same (.inr ⟨rfl, rfl⟩) ?_ ?_ ?_ ?_
  · intro e1 e2 ok D H1 k1 hD hy1 pr
    rw [zeroP_zip] at pr
    exact ⟨rfl, h e1 y D H1 (keep_same hy hdx k1) hy (s0.free hD) ⟨⟨dx, hy1⟩, pr⟩⟩
  · intro c H1 d s1 hd
    exact hE c H1 d (s0.trans s1) hd
  · intro _ c; exact absurd (by rw [List.length_replicate]) c
  · intro _ _ z c; rw [badH_rep] at c; cases c
theorem zi_list {M : Addr} {zs : List (Int × Int)} {H : Hp} {Q : VK} (hM : StI H M zs) (h : ∀ p H', Same H H' → H p = none → StI H' p zs → Q (.ref p) H') : rListA K [.ref M] H Q := by
  obtain ⟨as, eM, la, ha⟩ := hM
  refine ⟨M, _, rfl, .inl (.of eM), fun p hp => h p _ (Same.new hp) hp ⟨as, upd_same, la, fun j a q e1 e2 => ?_⟩⟩
  have key := ha j a q e1 e2
  rw [upd_ne (ne_of_none key hp)]
  exact key
theorem book_list_ok {P : Program} {mg : Str → Option Value} (T : Txt P K mg) {b L : Addr} {rs : List (List Nat × List Nat)} {σ : L2.St} {H : Hp} {Q : VK} {E : L2.St → XK} (hn : rs.length ≤ 6) (hb : BookAt K H b L rs)
    (h : ∀ q us H', Same H H' → H q = none → H' q = some (.lst (us.map V.ref)) → RulesAt K H' us rs → Q (.ref q) H') : rListO (He.ga K "Book") (sp_Book_iter K) (sp_Book_len K) E σ [.ref b] H Q := by
  obtain ⟨⟨dx, eb⟩, us, eL, hr⟩ := id hb
  refine ⟨b, dx, _, rfl, eb, fun q hq => book_iter_ok T (hb.same (Same.new hq)) fun it hit => ?_⟩
  have sq := Same.new (o := .lst []) hq
  have si := Same.new (o := ItO L it 0) hit
  have Lq : L ≠ q := fun e => by rw [e, hq] at eL; cases eL
  have qit : it ≠ q := fun e => by rw [e, upd_same] at hit; cases hit
  refine ⟨L, it, us.map V.ref, dx, _, rfl, si _ _ (sq _ _ eb), upd_same, book_len_ok T ((hb.same sq).same si) ⟨_, rfl, by omega, by omega, si _ _ (sq _ _ eL), upd_same, si _ _ upd_same, Lq, fun H4 same eq => ?_⟩⟩
  have s4 : Same H H4 := fun b o e => by
    rw [same b (fun z => by rw [z, hq] at e; cases e) (fun z => by have := sq _ _ e; rw [z, hit] at this; cases this)]
    exact si _ _ (sq _ _ e)
  exact h q us H4 s4 hq eq ⟨hr.1, fun i u r e1 e2 => (hr.2 i u r e1 e2).same s4⟩
def playF (bk tk : Addr) (l : List Nat) : List (Str × V) := [("book", .ref bk), ("text", .str (tx l)), ("taken", .ref tk)]
theorem playF_book (bk tk : Addr) (l : List Nat) : (playF bk tk l).lookup ("book" : Str) = some (.ref bk) := by simp [playF, List.lookup]
theorem playF_text (bk tk : Addr) (l : List Nat) : (playF bk tk l).lookup ("text" : Str) = some (.str (tx l)) := by
  have e : (("text" : Str) == ("book" : Str)) = false := by decide +kernel
  simp [playF, List.lookup, e]
theorem playF_taken (bk tk : Addr) (l : List Nat) : (playF bk tk l).lookup ("taken" : Str) = some (.ref tk) := by
  have e : (("taken" : Str) == ("book" : Str)) = false := by decide +kernel
  have e2 : (("taken" : Str) == ("text" : Str)) = false := by decide +kernel
  simp [playF, List.lookup, e, e2]
theorem playF_put1 (bk : Addr) : putF ("book" : Str) (V.ref bk) [] = [(("book" : Str), V.ref bk)] := rfl
theorem playF_put2 (bk : Addr) (l : List Nat) : putF ("text" : Str) (V.str (tx l)) [(("book" : Str), V.ref bk)] = [(("book" : Str), V.ref bk), (("text" : Str), V.str (tx l))] := by
  have e : ¬ (("book" : Str) = ("text" : Str)) := by decide +kernel
  show (if ("book" : Str) = "text" then _ else _ :: putF "text" _ []) = _
  rw [if_neg e]
  rfl
theorem playF_put3 (bk tk : Addr) (l : List Nat) : putF ("taken" : Str) (V.ref tk) [(("book" : Str), V.ref bk), (("text" : Str), V.str (tx l))] = playF bk tk l := by
  have e : ¬ (("book" : Str) = ("taken" : Str)) := by decide +kernel
  have e2 : ¬ (("text" : Str) = ("taken" : Str)) := by decide +kernel
  show (if ("book" : Str) = "taken" then _ else _ :: (if ("text" : Str) = "taken" then _ else _ :: putF "taken" _ [])) = _
  rw [if_neg e, if_neg e2]
  rfl
structure PlayAt (K : Frg) (H : Hp) (p bk Lb tk : Addr) (l : List Nat) (rs : List (List Nat × List Nat)) (zs : List (Int × Int)) : Prop where
  pl : ∃ dx, H p = some (.ins (He.ga K "Play") dx (playF bk tk l))
  bk : BookAt K H bk Lb rs
  st : StI H tk zs
theorem PlayAt.same {H H' : Hp} {p bk Lb tk : Addr} {l : List Nat} {rs : List (List Nat × List Nat)} {zs : List (Int × Int)} (h : PlayAt K H p bk Lb tk l rs zs) (s : Same H H') : PlayAt K H' p bk Lb tk l rs zs := let ⟨⟨dx, a⟩, b, c⟩ := h; ⟨⟨dx, s _ _ a⟩, b.same s, c.same s⟩
theorem PlayAt.keep {H H' : Hp} {p bk Lb tk e : Addr} {xs : List V} {l : List Nat} {rs : List (List Nat × List Nat)} {zs : List (Int × Int)} (h : PlayAt K H p bk Lb tk l rs zs) (k : Keep e H H') (n1 : Lb ≠ e) (n2 : tk ≠ e) (he : H e = some (.lst xs)) : PlayAt K H' p bk Lb tk l rs zs := by
  obtain ⟨⟨dx, a⟩, b, c⟩ := h
  exact ⟨⟨dx, k _ _ (fun z => by rw [z, he] at a; cases a) a⟩, b.keep k n1 he, c.keep k n2 he⟩
theorem look_takeB (v : V) : List.lookup ("take" : Str) [(("rules" : Str), v)] = none := by
  have e : (("take" : Str) == ("rules" : Str)) = false := by decide +kernel
  simp [List.lookup, e]
theorem noleft1 (v : V) : List.lookup ("left" : Str) [(("book" : Str), v)] = none := by
  have e : (("left" : Str) == ("book" : Str)) = false := by decide +kernel
  simp [List.lookup, e]
theorem noleft2 (v v2 : V) : List.lookup ("left" : Str) [(("book" : Str), v), (("text" : Str), v2)] = none := by
  have e : (("left" : Str) == ("book" : Str)) = false := by decide +kernel
  have e2 : (("left" : Str) == ("text" : Str)) = false := by decide +kernel
  simp [List.lookup, e, e2]
theorem BookAt.keepY {H H' : Hp} {b L y C dx : Addr} {fs : List (Str × V)} {rs : List (List Nat × List Nat)} (h : BookAt K H b L rs) (k : Keep y H H') (hy : H y = some (.ins C dx fs)) (nb : b ≠ y) (hf : fs.lookup ("left" : Str) = none) : BookAt K H' b L rs := by
  obtain ⟨⟨db, eb⟩, us, eL, hl, hr⟩ := h
  refine ⟨⟨db, k _ _ nb eb⟩, us, k _ _ (fun z => by rw [z, hy] at eL; cases eL) eL, hl, fun i u r e1 e2 => ?_⟩
  obtain ⟨du, hu⟩ := hr i u r e1 e2
  refine ⟨du, k _ _ (fun z => ?_) hu⟩
  rw [z, hy] at hu
  cases hu
  rw [ruleF_left] at hf
  cases hf
theorem StI.keepY {H H' : Hp} {D y C dx : Addr} {fs : List (Str × V)} {zs : List (Int × Int)} (h : StI H D zs) (k : Keep y H H') (hy : H y = some (.ins C dx fs)) : StI H' D zs := by
  obtain ⟨as, a, b, c⟩ := h
  exact ⟨as, k _ _ (fun z => by rw [z, hy] at a; cases a) a, b, fun j x z e1 e2 => k _ _ (fun q => by have := c j x z e1 e2; rw [q, hy] at this; cases this) (c j x z e1 e2)⟩
/-- the step can be taken -/
def goI (rs : List (List Nat × List Nat)) (ps : List (Nat × Int)) (z : Int × Int) : Prop := 0 ≤ z.1 ∧ z.1 < rs.length ∧ ∃ r, rs[z.1.toNat]? = some r ∧ fitsP ps r.1 z.2 ∧ (r.2 = [] ∨ wrote ps r.1 z.2 ≤ 9)
theorem play_init_ok {P : Program} {mg : Str → Option Value} (T : Txt P K mg) {b0 L0 st y dx : Addr} {l : List Nat} {rs : List (List Nat × List Nat)} {qs : List (Nat × Nat)} {ex : List (Int × Int)} {H : Hp} {Q : VK} {E : XK}
    (hl : l.length ≤ 100) (okr : OkRs rs) (hr : rs.length ≤ 6) (hq : qs.length ≤ 100) (hex2 : ex.length ≤ 100) (hok : fo l = -1 → okRun rs (zeroP l) qs) (hex : fo l = -1 → ex = [] ∨ ∃ z t, ex = z :: t ∧ ¬ goI rs (runP rs (zeroP l) qs) z)
    (hy : H y = some (.ins (He.ga K "Play") dx [])) (hb : BookAt K H b0 L0 rs) (hs : StI H st (qs.map ci ++ ex))
    (h : ex = [] → fo l = -1 → ∀ bk Lb tk H', Keep y H H' → H Lb = none → H tk = none → PlayAt K H' y bk Lb tk l rs (qs.map ci) → Q .non H')
    (hS : 0 ≤ fo l → ∀ H' d, Keep y H H' → H' d = none → E (.ref (He.ga K "BadSign")) (some d) (upd H' d (.xd [("at", .int (fo l))])))
    (hB : fo l = -1 → ex ≠ [] → ∀ H' d, Keep y H H' → H' d = none → E (.ref (He.ga K "BadPlay")) (some d) (upd H' d (.xd [("step", .int qs.length)]))) :
    sp_Play_init K [.ref y, .ref b0, .str (tx l), .ref st] H Q E := by
  refine ⟨rfl, ?_⟩
  unfold t_Play_init
  walk_at "sq"
  walk_at "st"
  refine book_list_ok T hr hb fun q us H1 s1 fq eQ hru => ?_
  walk_at "st"
  walk_at "sq"
  walk_at "st"
  refine ⟨rfl, ?_⟩
  walk_at "st"
  refine ⟨q, _, rfl, .inr (.of eQ), book_make_ok T hru hr fun bk Lb H2 s2 fb fL bb => ?_⟩
  walk_at "st"
  have s12 := s1.trans s2
  refine ⟨y, _, dx, _, rfl, s12 _ _ hy, T.c_Play, T.n_Play_book, by show 0 < 1000; decide, ?_⟩
  rw [playF_put1]
  have y3 : upd H2 y (.ins (He.ga K "Play") dx [(("book" : Str), V.ref bk)]) y = _ := upd_same
  have k23 : Keep y H2 (upd H2 y (.ins (He.ga K "Play") dx [(("book" : Str), V.ref bk)])) := Keep.at_
  generalize upd H2 y (.ins (He.ga K "Play") dx [(("book" : Str), V.ref bk)]) = H3 at y3 k23
  have nbk : bk ≠ y := fun z => by rw [z, s1 _ _ hy] at fb; cases fb
  have b3 := bb.keepY k23 (s12 _ _ hy) nbk rfl
  have t3 := (hs.same s12).keepY k23 (s12 _ _ hy)
  have k3 : Keep y H H3 := (Keep.same s12).trans k23
  walk_at "st"
  walk_at "sq"
  walk_at "st"
  refine ⟨y, _, dx, _, rfl, y3, T.c_Play, T.n_Play_text, by show 1 < 1000; decide, ?_⟩
  rw [playF_put2]
  have y4 : upd H3 y (.ins (He.ga K "Play") dx [(("book" : Str), V.ref bk), (("text" : Str), V.str (tx l))]) y = _ := upd_same
  have k34 : Keep y H3 (upd H3 y (.ins (He.ga K "Play") dx [(("book" : Str), V.ref bk), (("text" : Str), V.str (tx l))])) := Keep.at_
  generalize upd H3 y (.ins (He.ga K "Play") dx [(("book" : Str), V.ref bk), (("text" : Str), V.str (tx l))]) = H4 at y4 k34
  have b4 := b3.keepY k34 y3 nbk (noleft1 _)
  have t4 := t3.keepY k34 y3
  have k4 := k3.trans k34
  walk_at "st"
  walk_at "sq"
  walk_at "st"
  refine zi_list t4 fun tk H5 s5 ft t5 => ?_
  walk_at "st"
  refine ⟨y, _, dx, _, rfl, s5 _ _ y4, T.c_Play, T.n_Play_taken, by show 2 < 1000; decide, ?_⟩
  rw [playF_put3]
  have y6 : upd H5 y (.ins (He.ga K "Play") dx (playF bk tk l)) y = _ := upd_same
  have k56 : Keep y H5 (upd H5 y (.ins (He.ga K "Play") dx (playF bk tk l))) := Keep.at_
  generalize upd H5 y (.ins (He.ga K "Play") dx (playF bk tk l)) = H6 at y6 k56
  have b6 := (b4.same s5).keepY k56 (s5 _ _ y4) nbk (noleft2 _ _)
  have t6 := t5.keepY k56 (s5 _ _ y4)
  have k46 : Keep y H4 H6 := (Keep.same s5).trans k56
  have k6 := k4.trans k46
  have fL0 : H Lb = none := s1.free fL
  have tky : tk ≠ y := fun z => by rw [z, y4] at ft; cases ft
  have ft0 : H tk = none := k4.free tky ft
  walk_at "st"
  walk_at "sq"
  walk_at "st"
  refine row_plain_ok T (by omega) (fun e1 yr Dr H7 s7 _ _ r7 => ?_) (fun c H7 d s7 hd => hS c H7 d (k6.trans (Keep.same s7)) hd)
  walk_at "st"
  refine ⟨y, _, dx, _, _, rfl, s7 _ _ y6, T.c_Play, T.n_Play_taken, playF_taken _ _ _, ?_⟩
  walk_at "st"
  obtain ⟨at_, eT, laT, haT⟩ := id (t6.same s7)
  refine ⟨tk, _, rfl, .of eT, ?_⟩
  refine for_it (walk_enum (K := K) (a := tk) (xs := at_.map V.ref)) (fun i σ H8 => (∃ v5 v6 v7 Dr, σ = [some (.ref y), some (.ref b0), some (.str (tx l)), some (.ref st), some (.ref q), some (.ref v5), v6, v7, none] ∧ RowAt K H8 v5 Dr (runP rs (zeroP l) (qs.take i))) ∧ Same H7 H8 ∧ i ≤ qs.length)
    ⟨⟨yr, none, none, Dr, rfl, by rw [List.take_zero]; exact r7⟩, fun _ _ e => e, Nat.zero_le _⟩ (fun i σ H8 _ q => .of (q.2.1 _ _ eT)) ?_ ?_
  · rintro i x σ H8 H9 hi ⟨⟨v5, v6, v7, Dr8, rfl, r8⟩, s8, hle⟩ ⟨Tp, x1, x2, rfl, hT, rfl, e1', e2'⟩
    cases e1'
    rw [List.length_map] at hi
    have e2' : (at_.map V.ref)[i]? = some x2 := e2'
    rw [List.getElem?_map, List.getElem?_eq_getElem hi] at e2'
    cases e2'
    have hz : i < (qs.map ci ++ ex).length := by omega
    have eZ := haT i _ _ (List.getElem?_eq_getElem hi) (List.getElem?_eq_getElem hz)
    generalize ez : (qs.map ci ++ ex)[i] = z at eZ
    generalize at_[i] = Tz at eZ hT ⊢
    have sT := Same.new (o := .tup [.int (i : Nat), .ref Tz]) hT
    have okz : Okp (zeroP l) := zeroP_ok (fo_all l e1)
    have okr0 := hok e1
    obtain ⟨oki, lei⟩ := run_take okr okz okr0 i
    rw [zeroP_len] at lei
    refine rd_gtup upd_same rfl ?_
    generalize upd H8 Tp (.tup [.int (i : Nat), .ref Tz]) = H9 at sT
    have s79 : Same H7 H9 := s8.trans sT
    have s69 := s7.trans s79
    walk_at "st"
    refine ⟨y, _, dx, _, _, rfl, s69 _ _ y6, T.c_Play, T.n_Play_book, playF_book _ _ _, ?_⟩
    walk_at "st"
    obtain ⟨db, eb⟩ := (b6.same s69).1
    refine ⟨bk, db, _, rfl, eb, look_takeB _, ?_⟩
    walk_at "st"
    refine ixA_tup (SqT.of (s79 _ _ eZ)) (v := .int z.1) rfl ?_
    walk_at "st"
    refine ixA_tup (SqT.of (s79 _ _ eZ)) (v := .int z.2) rfl ?_
    walk_at "st"
    have out : ¬ goI rs (runP rs (zeroP l) (qs.take i)) z → i = qs.length ∧ ex ≠ [] := fun ng => by
      by_cases c : i < qs.length
      · exfalso
        have cz : z = ci qs[i] := by
          rw [← ez, List.getElem_append_left (by rw [List.length_map]; exact c), List.getElem_map]
        obtain ⟨a1, a2⟩ := okRun_at okr0 (List.getElem?_eq_getElem c)
        have gd : rs.getD qs[i].1 ([], []) = rs[qs[i].1] := by simp [List.getD, List.getElem?_eq_getElem a1]
        rw [gd] at a2
        obtain ⟨f, w⟩ := (op_iff oki (okr.get a1)).mp a2
        refine ng ⟨by rw [cz]; exact Int.natCast_nonneg _, by rw [cz]; exact Int.ofNat_lt.mpr a1, rs[qs[i].1], ?_, ?_, ?_⟩
        · rw [cz]
          exact List.getElem?_eq_getElem a1
        · rw [cz]; exact f
        · rw [cz]; exact w
      · refine ⟨by omega, fun q => ?_⟩
        rw [q, List.append_nil, List.length_map] at hz
        omega
    have raised : i = qs.length ∧ ex ≠ [] → ∀ H10 d, Same H9 H10 → H10 d = none → E (.ref (He.ga K "BadPlay")) (some d) (upd H10 d (.xd [("step", .int (i : Nat))])) := fun g H10 d s10 hd => by
      have k10 : Keep y H H10 := k6.trans (Keep.same (s69.trans s10))
      rw [g.1]
      exact hB e1 g.2 H10 d k10 hd
    refine book_take_ok T (by omega) okr (by omega) oki (b6.same s69) (r8.same sT) ?_ ?_ ?_ ?_ ?_
    · intro c
      exact absurd ⟨by decide, by decide⟩ c
    · intro _ _ c H10 d s10 hd
      have g := out fun q => c ⟨q.1, q.2.1⟩
      refine ⟨true, T.e_NoRule_RiseError, fun _ => ⟨T.x_NoRule.c.exC, fun ax hax => ?_⟩, fun c => by cases c⟩
      walk_at "st"
      exact ⟨_, rfl, fun d2 hd2 => raised g _ d2 (s10.trans (Same.new hd)) hd2⟩
    · intro _ _ _ r er nf H10 d s10 hd
      have g := out fun q => by
        obtain ⟨_, _, r', er', f, _⟩ := q
        rw [er] at er'
        cases er'
        exact nf f
      refine ⟨true, T.e_Mismatch_RiseError, fun _ => ⟨T.x_Mismatch.c.exC, fun ax hax => ?_⟩, fun c => by cases c⟩
      walk_at "st"
      exact ⟨_, rfl, fun d2 hd2 => raised g _ d2 (s10.trans (Same.new hd)) hd2⟩
    · intro _ _ _ r er f ne lt H10 d s10 hd
      have g := out fun q => by
        obtain ⟨_, _, r', er', f, w⟩ := q
        rw [er] at er'
        cases er'
        rcases w with w | w
        · exact ne w
        · omega
      refine ⟨true, T.e_Beyond_RiseError, fun _ => ⟨T.x_Beyond.c.exC, fun ax hax => ?_⟩, fun c => by cases c⟩
      walk_at "st"
      exact ⟨_, rfl, fun d2 hd2 => raised g _ d2 (s10.trans (Same.new hd)) hd2⟩
    · intro _ _ n0 r er f w zr Fz H10 s10 _ _ r10
      have c : i < qs.length := by
        by_cases c : i < qs.length
        · exact c
        · exfalso
          have ie : i = qs.length := by omega
          rcases hex e1 with e | ⟨z', t', e, ng⟩
          · rw [e, List.append_nil, List.length_map] at hz
            omega
          · have cz : z = z' := by
              subst e
              rw [← ez, List.getElem_append_right (by rw [List.length_map]; omega)]
              simp [ie]
            rw [ie, List.take_length] at f w
            have l1 : z.1 < rs.length := by
              have := (List.getElem?_eq_some_iff.mp er).1
              omega
            exact ng (cz ▸ ⟨n0, l1, r, er, f, w⟩)
      have cz : z = ci qs[i] := by
        rw [← ez, List.getElem_append_left (by rw [List.length_map]; exact c), List.getElem_map]
      walk_at "st"
      refine ⟨⟨zr, _, _, Fz, rfl, ?_⟩, s8.trans (sT.trans s10), c⟩
      have er2 : rs[qs[i].1]? = some r := by
        rw [cz] at er
        exact er
      have gd : rs.getD qs[i].1 ([], []) = r := by simp [List.getD, er2]
      rw [run_at (List.getElem?_eq_getElem c), gd]
      rw [cz] at r10
      exact r10
  · rintro σ H8 ⟨⟨v5, v6, v7, Dr8, rfl, r8⟩, s8, hle⟩
    rw [List.length_map, laT, List.length_append, List.length_map] at hle
    have ee : ex = [] := List.length_eq_zero_iff.mp (by omega)
    subst ee
    rw [List.append_nil] at t6
    have s68 := s7.trans s8
    exact h rfl e1 bk Lb tk H8 (k6.trans (Keep.same s68)) fL0 ft0 ⟨⟨dx, s68 _ _ y6⟩, b6.same s68, t6.same s68⟩
theorem stepl (v : V) : List.lookup ("step" : Str) [(("step" : Str), v)] = some v := by simp [List.lookup]
theorem play_try_ok {P : Program} {mg : Str → Option Value} (T : Txt P K mg) {b0 L0 st : Addr} {l : List Nat} {rs : List (List Nat × List Nat)} {qs : List (Nat × Nat)} {ex : List (Int × Int)} {H : Hp} {Q : VK} {E : XK}
    (hl : l.length ≤ 100) (okr : OkRs rs) (hr : rs.length ≤ 6) (hq : qs.length ≤ 100) (hex2 : ex.length ≤ 100) (hok : fo l = -1 → okRun rs (zeroP l) qs) (hex : fo l = -1 → ex = [] ∨ ∃ z t, ex = z :: t ∧ ¬ goI rs (runP rs (zeroP l) qs) z)
    (hb : BookAt K H b0 L0 rs) (hs : StI H st (qs.map ci ++ ex))
    (h1 : ex = [] → fo l = -1 → ∀ p y bk Lb tk H', Same H H' → H Lb = none → H tk = none → H' p = some (.tup [.str "play", .ref y]) → PlayAt K H' y bk Lb tk l rs (qs.map ci) → Q (.ref p) H')
    (h2 : 0 ≤ fo l → ∀ p H', Same H H' → H' p = some (.tup [.str "sign", .int (fo l)]) → Q (.ref p) H')
    (h3 : fo l = -1 → ex ≠ [] → ∀ p H', Same H H' → H' p = some (.tup [.str "step", .int qs.length]) → Q (.ref p) H') : sp_law_try_make K [.ref b0, .str (tx l), .ref st] H Q E := by
  refine ⟨rfl, ?_⟩
  unfold t_law_try_make
  walk_at "st"
  intro y dx hy hdx hne
  have s0 : Same H (upd (upd H dx (.own y)) y (.ins (He.ga K "Play") dx [])) := made_same hy hdx
  refine play_init_ok T hl okr hr hq hex2 hok hex upd_same (hb.same s0) (hs.same s0) ?_ ?_ ?_
  · intro ee e1 bk Lb tk H1 k1 f1 f2 p1
    refine ⟨rfl, ?_⟩
    walk_at "st"
    have sH := keep_same hy hdx k1
    intro p hp
    exact h1 ee e1 p y bk Lb tk _ (sH.trans (Same.new hp)) (s0.free f1) (s0.free f2) upd_same (p1.same (Same.new hp))
  · intro e1 H1 d k1 hd
    have sH := keep_same hy hdx k1
    refine mix_hit T.e_BadSign_BadSign fun a ha => ?_
    walk_at "st"
    refine ⟨rfl, rfl, d, _, _, rfl, upd_same, atl _, ?_⟩
    walk_at "st"
    intro p hp
    exact h2 e1 p _ ((sH.trans (Same.new hd)).trans (Same.new hp)) upd_same
  · intro e1 ne H1 d k1 hd
    have sH := keep_same hy hdx k1
    refine mix_miss T.e_BadPlay_BadSign (mix_hit T.e_BadPlay_BadPlay fun a ha => ?_)
    walk_at "st"
    refine ⟨rfl, rfl, d, _, _, rfl, upd_same, stepl _, ?_⟩
    walk_at "st"
    intro p hp
    exact h3 e1 ne p _ ((sH.trans (Same.new hd)).trans (Same.new hp)) upd_same
/-! a play walked -/
theorem take_go {P : Program} {mg : Str → Option Value} (T : Txt P K mg) {bk Lb yr Dr : Addr} {l : List Nat} {rs : List (List Nat × List Nat)} {qs : List (Nat × Nat)} {i : Nat} {q : Nat × Nat} {H : Hp} {Q : VK} {E : XK} (hl : l.length ≤ 100) (okr : OkRs rs) (hr : rs.length ≤ 6) (hq : qs.length ≤ 100) (e1 : fo l = -1) (ok0 : okRun rs (zeroP l) qs)
    (hb : BookAt K H bk Lb rs) (hy : RowAt K H yr Dr (runP rs (zeroP l) (qs.take i))) (eq : qs[i]? = some q)
    (h : ∀ z F H', Same H H' → H z = none → H F = none → RowAt K H' z F (runP rs (zeroP l) (qs.take (i + 1))) → Q (.ref z) H') : sp_Book_take K [.ref bk, .ref yr, .int q.1, .int q.2, .int 9] H Q E := by
  have okz : Okp (zeroP l) := zeroP_ok (fo_all l e1)
  obtain ⟨oki, lei⟩ := run_take okr okz ok0 i
  rw [zeroP_len] at lei
  obtain ⟨a1, a2⟩ := okRun_at ok0 eq
  have gd : rs.getD q.1 ([], []) = rs[q.1] := by simp [List.getD, List.getElem?_eq_getElem a1]
  have er0 : rs[(q.1 : Int).toNat]? = some rs[q.1] := by rw [Int.toNat_natCast]; exact List.getElem?_eq_getElem a1
  rw [gd] at a2
  obtain ⟨f, w⟩ := (op_iff oki (okr.get a1)).mp a2
  refine book_take_ok T (by omega) okr (by omega) oki hb hy ?_ ?_ ?_ ?_ ?_
  · intro c
    exact absurd ⟨by decide, by decide⟩ c
  · intro _ _ c
    exact absurd ⟨Int.natCast_nonneg _, Int.ofNat_lt.mpr a1⟩ c
  · intro _ _ _ r er nf
    rw [er0] at er
    cases er
    exact absurd f nf
  · intro _ _ _ r er _ ne lt
    rw [er0] at er
    cases er
    rcases w with w | w
    · exact absurd w ne
    · omega
  · intro _ _ _ r er _ _ z F H' s f1 f2 r1
    rw [er0] at er
    cases er
    refine h z F H' s f1 f2 ?_
    rw [run_at eq, gd]
    exact r1
theorem look_rowsP (bk tk : Addr) (l : List Nat) : (playF bk tk l).lookup ("rows" : Str) = none := by
  have e : (("rows" : Str) == ("book" : Str)) = false := by decide +kernel
  have e2 : (("rows" : Str) == ("text" : Str)) = false := by decide +kernel
  have e3 : (("rows" : Str) == ("taken" : Str)) = false := by decide +kernel
  simp [playF, List.lookup, e, e2, e3]
theorem look_endP (bk tk : Addr) (l : List Nat) : (playF bk tk l).lookup ("end" : Str) = none := by
  have e : (("end" : Str) == ("book" : Str)) = false := by decide +kernel
  have e2 : (("end" : Str) == ("text" : Str)) = false := by decide +kernel
  have e3 : (("end" : Str) == ("taken" : Str)) = false := by decide +kernel
  simp [playF, List.lookup, e, e2, e3]
/-- the i-th step -/
theorem zi_get {qs : List (Nat × Nat)} {as : List Addr} {H : Hp} {i : Nat} {x : V} (la : as.length = (qs.map ci).length) (ha : ∀ (j : Nat) (a : Addr) (z : Int × Int), as[j]? = some a → (qs.map ci)[j]? = some z → H a = some (.tup [.int z.1, .int z.2])) (hx : (as.map V.ref)[i]? = some x) :
    ∃ (a : Addr) (q : Nat × Nat), x = .ref a ∧ qs[i]? = some q ∧ H a = some (.tup [.int q.1, .int q.2]) := by
  rw [List.getElem?_map] at hx
  cases ea : as[i]? with
  | none => rw [ea] at hx; cases hx
  | some a =>
    rw [ea] at hx
    cases hx
    have hi := (List.getElem?_eq_some_iff.mp ea).1
    rw [List.length_map] at la
    have eq : qs[i]? = some qs[i] := List.getElem?_eq_getElem (by omega)
    exact ⟨a, qs[i], rfl, eq, ha i a (ci qs[i]) ea (by rw [List.getElem?_map, eq]; rfl)⟩
theorem play_end_ok {P : Program} {mg : Str → Option Value} (T : Txt P K mg) {p bk Lb tk : Addr} {l : List Nat} {rs : List (List Nat × List Nat)} {qs : List (Nat × Nat)} {H : Hp} {Q : VK} {E : XK} (hl : l.length ≤ 100) (okr : OkRs rs) (hr : rs.length ≤ 6) (hq : qs.length ≤ 100) (e1 : fo l = -1) (ok0 : okRun rs (zeroP l) qs)
    (hp : PlayAt K H p bk Lb tk l rs (qs.map ci)) (h : ∀ z D H', Same H H' → H z = none → H D = none → RowAt K H' z D (runP rs (zeroP l) qs) → Q (.ref z) H') : sp_Play_end K [.ref p] H Q E := by
  refine ⟨rfl, ?_⟩
  unfold t_Play_end
  walk_at "sq"
  walk_at "st"
  obtain ⟨dx, ep⟩ := id hp.pl
  refine ⟨p, _, dx, _, _, rfl, ep, T.c_Play, T.n_Play_text, playF_text _ _ _, ?_⟩
  walk_at "st"
  refine row_plain_ok T (by omega) (fun _ yr Dr H1 s1 f1 f2 r1 => ?_) (fun c => by omega)
  walk_at "st"
  walk_at "sq"
  walk_at "st"
  refine ⟨p, _, dx, _, _, rfl, s1 _ _ ep, T.c_Play, T.n_Play_taken, playF_taken _ _ _, ?_⟩
  walk_at "st"
  obtain ⟨as, eT, la, ha⟩ := id (hp.same s1).st
  refine ⟨tk, rfl, ⟨_, .of eT⟩, ?_⟩
  refine for_list (K := K) (a := tk) (xs := as.map V.ref) (fun i σ H8 => (∃ yr v2 v3 Dr, σ = [some (.ref p), some (.ref yr), v2, v3] ∧ H yr = none ∧ H Dr = none ∧ RowAt K H8 yr Dr (runP rs (zeroP l) (qs.take i))) ∧ Same H1 H8)
    ⟨⟨yr, none, none, Dr, rfl, f1, f2, by rw [List.take_zero]; exact r1⟩, fun _ _ e => e⟩ (fun i σ H8 _ q => .of (q.2 _ _ eT)) ?_ ?_
  · rintro i x σ H8 hx ⟨⟨yr8, v2, v3, Dr8, rfl, f3, f4, r8⟩, s8⟩
    obtain ⟨a, q, rfl, eq, eq2⟩ := zi_get la ha hx
    have s18 := s1.trans s8
    refine rd_gtup (s8 _ _ eq2) rfl ?_
    walk_at "st"
    refine ⟨p, _, dx, _, _, rfl, s18 _ _ ep, T.c_Play, T.n_Play_book, playF_book _ _ _, ?_⟩
    walk_at "st"
    obtain ⟨db, eb⟩ := (hp.bk.same s18).1
    refine ⟨bk, db, _, rfl, eb, look_takeB _, ?_⟩
    walk_at "st"
    refine take_go T hl okr hr hq e1 ok0 (hp.bk.same s18) r8 eq fun z F H9 s9 f5 f6 r9 => ?_
    walk_at "st"
    exact ⟨⟨z, _, _, F, rfl, s18.free f5, s18.free f6, r9⟩, s8.trans s9⟩
  · rintro σ H8 ⟨⟨yr8, v2, v3, Dr8, rfl, f3, f4, r8⟩, s8⟩
    rw [List.length_map, la, List.length_map, List.take_length] at r8
    walk_at "st"
    exact h yr8 Dr8 H8 (s1.trans s8) f3 f4 r8
theorem empty_ok {P : Program} {mg : Str → Option Value} (T : Txt P K mg) {H : Hp} {Q : VK} {E : XK} (h : ∀ y D H', Same H H' → RowAt K H' y D [] → Q (.ref y) H') : MkG (He.ga K "Row") (sp_Row_init K) (List.drop 0 [.str "", .non]) [] H Q E := by
  have se : (Str.ofString "") = tx [] := by decide +kernel
  intro y dx hy hdx hne
  have s0 : Same H (upd (upd H dx (.own y)) y (.ins (He.ga K "Row") dx [])) := made_same hy hdx
  show sp_Row_init K [.ref y, .str (Str.ofString ""), .non] _ _ _
  rw [se]
  refine row_init_ok T (l := []) (hs := []) (by decide) (by decide) upd_same (.inr ⟨rfl, rfl⟩) (fun _ _ _ D H1 k1 hD e1 p1 => ?_) (fun c => absurd c (by decide)) (fun _ c => absurd rfl c) (fun _ _ z c => by simp [badH] at c)
  exact ⟨rfl, h y D H1 (keep_same hy hdx k1) ⟨⟨dx, e1⟩, p1⟩⟩
theorem rows_walk {P : Program} {mg : Str → Option Value} (T : Txt P K mg) {p bk Lb tk : Addr} {l : List Nat} {rs : List (List Nat × List Nat)} {qs : List (Nat × Nat)} {Y : WY} {R : L2.St → Hp → Prop} {cs : L2.St} {H : Hp} (hl : l.length ≤ 100) (okr : OkRs rs) (hr : rs.length ≤ 6) (hq : qs.length ≤ 100) (e1 : fo l = -1) (ok0 : okRun rs (zeroP l) qs)
    (I : Nat → L2.St → Hp → Prop) (hp : ∀ j c H, I j c H → PlayAt K H p bk Lb tk l rs (qs.map ci)) (hsm : ∀ j c H H', I j c H → Same H H' → I j c H')
    (hY : ∀ j z Dz c H0 H k, j ≤ qs.length → I j c H0 → Same H0 H → H0 Dz = none → RowAt K H z Dz (runP rs (zeroP l) (qs.take j)) → (∀ c' H', Keep Dz H H' → I (j + 1) c' H' → k c' H') → Y c (.ref z) H k)
    (hR : ∀ c H, I (qs.length + 1) c H → R c H) (h0 : I 0 cs H) : spW (tw_Play_rows K) N_Play_rows [.ref p] Y R cs H := by
  show tw_Play_rows K Y _ cs 0 [some (.ref p), none, none, none] H
  unfold tw_Play_rows
  walk_at "st"
  obtain ⟨dx, ep⟩ := (hp _ _ _ h0).pl
  refine ⟨p, _, dx, _, _, rfl, ep, T.c_Play, T.n_Play_text, playF_text _ _ _, ?_⟩
  walk_at "st"
  refine row_plain_ok T (by omega) (fun _ yr Dr H1 s1 f1 f2 r1 => ?_) (fun c => by omega)
  walk_at "st"
  refine ⟨by rw [sizeLine_eq]; omega, ?_⟩
  walk_at "st"
  refine ⟨p, _, dx, _, _, rfl, s1 _ _ ep, T.c_Play, T.n_Play_text, playF_text _ _ _, ?_⟩
  walk_at "st"
  refine row_plain_ok T (by omega) (fun _ y2 D2 H2 s2 f3 f4 r2 => ?_) (fun c => by omega)
  refine hY 0 y2 D2 cs H1 H2 _ (Nat.zero_le _) (hsm _ _ _ _ h0 s1) s2 f4 (by rw [List.take_zero]; exact r2) fun c' H3 k3 i3 => ?_
  have n12 : Dr ≠ D2 := ne_of_none r1.2.choose_spec.1 f4
  have r3 : RowAt K H3 yr Dr (runP rs (zeroP l) (qs.take 0)) := by
    rw [List.take_zero]
    exact (r1.same s2).keep k3 n12 r2.2.choose_spec.1
  walk_at "st"
  obtain ⟨d3, ep3⟩ := (hp _ _ _ i3).pl
  refine ⟨p, _, d3, _, _, rfl, ep3, T.c_Play, T.n_Play_taken, playF_taken _ _ _, ?_⟩
  obtain ⟨as, eT, la, ha⟩ := id (hp _ _ _ i3).st
  refine ⟨tk, rfl, ⟨_, .of eT⟩, ?_⟩
  have lq : (as.map V.ref).length = qs.length := by rw [List.length_map, la, List.length_map]
  refine wfor_it (walk_list (K := K) (a := tk) (xs := as.map V.ref)) (fun i c k σ H8 => (∃ yr v2 v3 Dr, σ = [some (.ref p), some (.ref yr), v2, v3] ∧ RowAt K H8 yr Dr (runP rs (zeroP l) (qs.take i))) ∧ k = i + 1 ∧ I (i + 1) c H8 ∧ H8 tk = some (.lst (as.map V.ref)) ∧ ∀ (j : Nat) (a : Addr) (z : Int × Int), as[j]? = some a → (qs.map ci)[j]? = some z → H8 a = some (.tup [.int z.1, .int z.2]))
    ⟨⟨yr, none, none, Dr, rfl, r3⟩, rfl, i3, eT, ha⟩ (fun i c k σ H8 _ q => .of q.2.2.2.1) ?_ ?_
  · rintro i x c k σ H8 H9 hi ⟨⟨yr8, v2, v3, Dr8, rfl, r8⟩, rfl, i8, eT8, ha8⟩ ⟨rfl, hx⟩
    rw [lq] at hi
    obtain ⟨a, q, rfl, eq, eq2⟩ := zi_get la ha8 hx
    refine rd_gtup eq2 rfl ?_
    walk_at "st"
    have p9 := hp _ _ _ i8
    obtain ⟨d9, ep9⟩ := id p9.pl
    refine ⟨p, _, d9, _, _, rfl, ep9, T.c_Play, T.n_Play_book, playF_book _ _ _, ?_⟩
    walk_at "st"
    obtain ⟨db, eb⟩ := id p9.bk.1
    refine ⟨bk, db, _, rfl, eb, look_takeB _, ?_⟩
    walk_at "st"
    refine take_go T hl okr hr hq e1 ok0 p9.bk r8 eq fun z F H10 s10 f5 f6 r10 => ?_
    have okz : Okp (zeroP l) := zeroP_ok (fo_all l e1)
    obtain ⟨oki, lei⟩ := run_take okr okz ok0 (i + 1)
    rw [zeroP_len] at lei
    walk_at "st"
    refine ⟨by rw [sizeLine_eq]; omega, ?_⟩
    walk_at "st"
    refine empty_ok T fun y2 D2 H11 s11 r2e => ?_
    obtain ⟨dz, ez⟩ := (r10.same s11).1
    obtain ⟨d2, ez2⟩ := r2e.1
    refine ⟨z, dz, _, rfl, ez, ⟨y2, d2, _, rfl, ez2⟩, row_add_ok T (by rw [List.length_nil]; omega) (r10.same s11) r2e oki (fun p hp => by cases hp) fun y3 D3 H12 s12 fy3 fD3 r12 => ?_⟩
    rw [List.append_nil] at r12
    have s9b : Same H9 H11 := s10.trans s11
    refine hY (i + 1) y3 D3 c H11 H12 _ (by omega) (hsm _ _ _ _ i8 s9b) s12 fD3 r12 fun c' H13 k13 i13 => ?_
    walk_at "st"
    have r11 := r10.same s11
    have nF : F ≠ D3 := ne_of_none r11.2.choose_spec.1 fD3
    refine ⟨⟨z, _, _, F, rfl, ((r11.same s12).keep k13 nF r12.2.choose_spec.1)⟩, rfl, i13, ?_, fun j a z e1 e2 => ?_⟩
    · have e := s9b _ _ eT8
      exact k13 _ _ (ne_of_none e fD3) (s12 _ _ e)
    · have e := s9b _ _ (ha8 j a z e1 e2)
      exact k13 _ _ (ne_of_none e fD3) (s12 _ _ e)
  · rintro c k σ H8 ⟨⟨yr8, v2, v3, Dr8, rfl, r8⟩, rfl, i8, eT8, ha8⟩
    rw [lq] at i8
    walk_at "st"
    exact hR _ _ i8
/-! a play looked at -/
theorem fresh_same {D : Addr} {H0 H H' : Hp} (hD : H0 D = none) (s : Same H0 H) (k : Keep D H H') : Same H0 H' := fun b o e => k _ _ (ne_of_none e hD) (s _ _ e)
/-- the told rows -/
def RwsA (H : Hp) (W : Addr) (as : List Addr) (pss : List (List (Nat × Int))) : Prop := H W = some (.lst (as.map V.ref)) ∧ as.length = pss.length ∧ ∀ (j : Nat) (a : Addr) (ps : List (Nat × Int)), as[j]? = some a → pss[j]? = some ps → Prs H a ps
theorem RwsA.same {H H' : Hp} {W : Addr} {as : List Addr} {pss : List (List (Nat × Int))} (h : RwsA H W as pss) (s : Same H H') : RwsA H' W as pss := ⟨s _ _ h.1, h.2.1, fun j a ps e1 e2 => (h.2.2 j a ps e1 e2).same s⟩
theorem RwsA.get {H : Hp} {W : Addr} {as : List Addr} {pss : List (List (Nat × Int))} (h : RwsA H W as pss) {i : Nat} (hi : i < pss.length) : ∃ a, (as.map V.ref)[i]? = some (.ref a) ∧ Prs H a pss[i] := by
  have hl : i < as.length := by rw [h.2.1]; exact hi
  exact ⟨as[i], by rw [List.getElem?_map, List.getElem?_eq_getElem hl]; rfl, h.2.2 i _ _ (List.getElem?_eq_getElem hl) (List.getElem?_eq_getElem hi)⟩
def rowsP (rs : List (List Nat × List Nat)) (l : List Nat) (qs : List (Nat × Nat)) : List (List (Nat × Int)) := (List.range (qs.length + 1)).map fun j => runP rs (zeroP l) (qs.take j)
theorem rowsP_len (rs : List (List Nat × List Nat)) (l : List Nat) (qs : List (Nat × Nat)) : (rowsP rs l qs).length = qs.length + 1 := by simp [rowsP]
theorem rowsP_get {rs : List (List Nat × List Nat)} {l : List Nat} {qs : List (Nat × Nat)} {j : Nat} (h : j < (rowsP rs l qs).length) : (rowsP rs l qs)[j] = runP rs (zeroP l) (qs.take j) := by simp [rowsP]
theorem p_is : (Str.ofString "p") = tx [112] := by decide +kernel
theorem put_p_ok {P : Program} {mg : Str → Option Value} (T : Txt P K mg) {y D Tp : Addr} {ps : List (Nat × Int)} {H : Hp} {Q : VK} {E : XK} (hn : ps.length ≤ 10000) (h0 : 0 < ps.length) (h1 : RowAt K H y D ps) (hT : H Tp = some (.tup [.str (tx [112]), .int 8]))
    (h : ∀ H', Keep D H H' → Q .non H') : sp_Row_setitem K [.ref y, .int 0, .ref Tp] H Q E :=
  row_put_gen T hn (by decide) h1 hT (fun c => absurd ⟨by decide, by omega⟩ c) (fun _ _ c => absurd (by decide +kernel) c) (fun _ _ _ c => absurd (by decide) c) fun i c _ _ _ _ _ _ H' k _ => h H' k
theorem play_len_ok {P : Program} {mg : Str → Option Value} (T : Txt P K mg) {p bk Lb tk : Addr} {l : List Nat} {rs : List (List Nat × List Nat)} {zs : List (Int × Int)} {H : Hp} {Q : VK} {E : XK} (hp : PlayAt K H p bk Lb tk l rs zs) (h : Q (.int zs.length) H) : sp_Play_len K [.ref p] H Q E := by
  refine ⟨rfl, ?_⟩
  unfold t_Play_len
  walk_at "st"
  obtain ⟨dx, ep⟩ := hp.pl
  obtain ⟨as, eT, la, _⟩ := hp.st
  refine ⟨p, _, dx, _, _, rfl, ep, T.c_Play, T.n_Play_taken, playF_taken _ _ _, ?_⟩
  walk_at "st"
  refine lenA_lst (.of eT) ?_
  rw [List.length_map, la]
  exact h
theorem play_iter_ok {P : Program} {mg : Str → Option Value} (T : Txt P K mg) {p bk Lb tk : Addr} {l : List Nat} {rs : List (List Nat × List Nat)} {zs : List (Int × Int)} {H : Hp} {Q : VK} {E : XK} (hp : PlayAt K H p bk Lb tk l rs zs) (h : ∀ it, H it = none → Q (.ref it) (upd H it (ItO tk it 0))) : sp_Play_iter K [.ref p] H Q E := by
  refine ⟨rfl, ?_⟩
  unfold t_Play_iter
  walk_at "st"
  obtain ⟨dx, ep⟩ := hp.pl
  obtain ⟨as, eT, la, _⟩ := hp.st
  refine ⟨p, _, dx, _, _, rfl, ep, T.c_Play, T.n_Play_taken, playF_taken _ _ _, ?_⟩
  walk_at "st"
  exact ⟨tk, _, rfl, .of eT, h⟩
theorem play_list_ok {P : Program} {mg : Str → Option Value} (T : Txt P K mg) {p bk Lb tk : Addr} {l : List Nat} {rs : List (List Nat × List Nat)} {zs : List (Int × Int)} {σ : L2.St} {H : Hp} {Q : VK} {E : L2.St → XK} (hn : zs.length ≤ 1000) (hp : PlayAt K H p bk Lb tk l rs zs)
    (h : ∀ q H', Same H H' → H q = none → StI H' q zs → Q (.ref q) H') : rListO (He.ga K "Play") (sp_Play_iter K) (sp_Play_len K) E σ [.ref p] H Q := by
  obtain ⟨dx, ep⟩ := id hp.pl
  obtain ⟨as, eT, la, ha⟩ := id hp.st
  refine ⟨p, dx, _, rfl, ep, fun q hq => play_iter_ok T (hp.same (Same.new hq)) fun it hit => ?_⟩
  have sq := Same.new (o := .lst []) hq
  have si := Same.new (o := ItO tk it 0) hit
  have Lq : tk ≠ q := fun e => by rw [e, hq] at eT; cases eT
  have qit : it ≠ q := fun e => by rw [e, upd_same] at hit; cases hit
  refine ⟨tk, it, as.map V.ref, dx, _, rfl, si _ _ (sq _ _ ep), upd_same, play_len_ok T ((hp.same sq).same si) ⟨_, rfl, by omega, by omega, si _ _ (sq _ _ eT), upd_same, si _ _ upd_same, Lq, fun H4 same eq => ?_⟩⟩
  have s4 : Same H H4 := fun b o e => by
    rw [same b (fun z => by rw [z, hq] at e; cases e) (fun z => by have := sq _ _ e; rw [z, hit] at this; cases this)]
    exact si _ _ (sq _ _ e)
  exact h q H4 s4 hq ⟨as, eq, la, fun j a z e1 e2 => s4 _ _ (ha j a z e1 e2)⟩
theorem atI_end {xs : List V} {v : V} {n : Nat} (hl : xs.length = n + 1) (h : xs[n]? = some v) : atI xs (-1) = some v := by
  obtain ⟨hn, e⟩ := List.getElem?_eq_some_iff.mp h
  have q := List.take_succ_eq_append_getElem hn
  rw [List.take_of_length_le (by omega), e] at q
  rw [q]
  exact atI_last _ _
theorem play_fine_ok {P : Program} {mg : Str → Option Value} (T : Txt P K mg) {p bk Lb tk st W : Addr} {as : List Addr} {l : List Nat} {rs : List (List Nat × List Nat)} {qs : List (Nat × Nat)} {H : Hp} {Q : VK} {E : XK} (hl : l.length ≤ 100) (okr : OkRs rs) (hr : rs.length ≤ 6) (hq : qs.length ≤ 100) (e1 : fo l = -1) (ok0 : okRun rs (zeroP l) qs)
    (hp : PlayAt K H p bk Lb tk l rs (qs.map ci)) (hs : StI H st (qs.map ci)) (hw : RwsA H W as (rowsP rs l qs)) (h : ∀ H', Same H H' → Q (.bl true) H') : sp_law_fine K [.ref p, .str (tx l), .ref st, .ref W] H Q E := by
  refine ⟨rfl, ?_⟩
  unfold t_law_fine
  have okz : Okp (zeroP l) := zeroP_ok (fo_all l e1)
  have okj := fun j => run_take okr okz ok0 j
  obtain ⟨dx, ep⟩ := id hp.pl
  obtain ⟨bs, eS, lb, hbs⟩ := id hs
  walk_at "sq"
  walk_at "st"
  refine ⟨p, _, dx, _, _, rfl, ep, T.c_Play, T.n_Play_text, playF_text _ _ _, ?_⟩
  walk_at "st"
  refine isi_go (.ty _) (.base (.str _)) (kit_ty (r := true) (by decide +kernel)) ?_
  walk_at "st"
  refine ⟨p, _, dx, _, _, rfl, ep, T.c_Play, T.n_Play_text, playF_text _ _ _, ?_⟩
  walk_at "st"
  rw [decide_eq_true (rfl : tx l = tx l)]
  walk_at "st"
  refine ⟨p, dx, _, rfl, ep, play_len_ok T hp ⟨_, rfl, by omega, by rw [List.length_map]; omega, ?_⟩⟩
  walk_at "st"
  refine lenA_lst (.of eS) ?_
  rw [List.length_map, List.length_map, lb, List.length_map]
  walk_at "st"
  walk_at "sq"
  walk_at "st"
  refine play_list_ok T (by rw [List.length_map]; omega) hp fun g H1 s1 fg g1 => ?_
  walk_at "st"
  walk_at "sq"
  walk_at "st"
  refine ne_zi g1 (hs.same s1) ?_
  rw [decide_eq_true (rfl : qs.map ci = qs.map ci)]
  walk_at "st"
  walk_at "sq"
  walk_at "st"
  obtain ⟨gs, eG, lg, hgs⟩ := id g1
  refine ⟨g, rfl, ⟨_, .of eG⟩, ?_⟩
  refine for_list (K := K) (a := g) (xs := gs.map V.ref) (fun i σ H2 => (∃ v5, σ = [some (.ref p), some (.str (tx l)), some (.ref st), some (.ref W), some (.ref g), v5, none, none, none]) ∧ Same H1 H2) ⟨⟨none, rfl⟩, fun _ _ e => e⟩ (fun i σ H2 _ q => .of (q.2 _ _ eG)) ?_ ?_
  · rintro i x σ H2 hx ⟨⟨v5, rfl⟩, s2⟩
    obtain ⟨a, q, rfl, eq, eq2⟩ := zi_get lg hgs hx
    have e2 := s2 _ _ eq2
    walk_at "st"
    refine isi_go (.ty _) (.base (.tup e2)) (kit_ty (r := true) (by decide +kernel)) ?_
    walk_at "st"
    refine ixA_tup (SqT.of e2) (v := .int q.1) rfl ?_
    walk_at "st"
    refine is_int_ok ?_
    walk_at "st"
    refine ixA_tup (SqT.of e2) (v := .int q.2) rfl ?_
    walk_at "st"
    refine is_int_ok ?_
    walk_at "st"
    exact ⟨⟨_, rfl⟩, s2⟩
  · rintro σ H2 ⟨⟨v5, rfl⟩, s2⟩
    have s02 := s1.trans s2
    walk_at "st"
    walk_at "sq"
    walk_at "st"
    walk_at "sq"
    walk_at "st"
    refine ⟨p, dx, _, rfl, s02 _ _ ep, look_rowsP _ _ _, ?_⟩
    walk_at "st"
    refine ⟨rfl, ?_⟩
    refine rows_walk T hl okr hr hq e1 ok0 (fun j c H3 => (∃ v7, c = [some (.ref p), some (.str (tx l)), some (.ref st), some (.ref W), some (.ref g), v5, some (.int (j : Nat)), v7, none]) ∧ Same H2 H3) (fun j c H3 q => hp.same (s02.trans q.2)) (fun j c H3 H4 q s => ⟨q.1, q.2.trans s⟩) ?_ ?_ ⟨⟨_, rfl⟩, fun _ _ e => e⟩
    · rintro j z Dz c H0 H3 k hj ⟨⟨v7, rfl⟩, s20⟩ s3 fD rz hk
      have sA : Same H H3 := s02.trans (s20.trans s3)
      have w3 := hw.same sA
      have lj : j < (rowsP rs l qs).length := by rw [rowsP_len]; omega
      obtain ⟨a, ea, pa⟩ := w3.get lj
      rw [rowsP_get] at pa
      obtain ⟨oj, ljj⟩ := okj j
      rw [zeroP_len] at ljj
      walk_at "st"
      walk_at "sq"
      walk_at "st"
      refine lenA_lst (.of w3.1) ?_
      rw [List.length_map, w3.2.1, rowsP_len]
      walk_at "auto"
      refine ixA_lst (.of w3.1) (atI_nat ea) ?_
      walk_at "st"
      refine shows_ok T (by omega) oj.let rz pa fun H4 s4 => ?_
      walk_at "st"
      walk_at "sq"
      walk_at "st"
      have rz4 := rz.same s4
      obtain ⟨dz, ez⟩ := id rz4.1
      refine ⟨z, dz, _, rfl, ez, row_len_ok T rz4 ⟨_, rfl, by omega, by omega, ?_⟩⟩
      walk_at "st"
      have done : ∀ H5, Keep Dz H3 H5 → ∀ v, k [some (.ref p), some (.str (tx l)), some (.ref st), some (.ref W), some (.ref g), v5, some (.int ((j : Int) + 1)), v, none] H5 := fun H5 k5 v => by
        refine hk _ _ k5 ⟨⟨v, ?_⟩, s20.trans (fresh_same fD s3 k5)⟩
        rw [show (j : Int) + 1 = ((j + 1 : Nat) : Int) by omega]
      by_cases c : 0 < (runP rs (zeroP l) (qs.take j)).length
      · walk_at "auto"
        intro Tp hT
        have sT := Same.new (o := .tup [.str (Str.ofString "p"), .int 8]) hT
        have eT : upd H4 Tp (.tup [.str (Str.ofString "p"), .int 8]) Tp = some (.tup [.str (tx [112]), .int 8]) := by rw [upd_same, p_is]
        generalize upd H4 Tp (.tup [.str (Str.ofString "p"), .int 8]) = H5 at sT eT
        walk_at "st"
        refine ⟨z, dz, _, rfl, sT _ _ ez, put_p_ok T (by omega) c (rz4.same sT) eT fun H6 k6 => ?_⟩
        walk_at "st"
        exact done H6 ((Keep.same (s4.trans sT)).trans k6) _
      · walk_at "auto"
        exact done H4 (Keep.same s4) _
    · rintro c H3 ⟨⟨v7, rfl⟩, s23⟩
      have sA : Same H H3 := s02.trans s23
      walk_at "st"
      walk_at "sq"
      walk_at "st"
      have p3 := hp.same sA
      obtain ⟨d3, ep3⟩ := id p3.pl
      refine ⟨p, d3, _, rfl, ep3, look_endP _ _ _, ?_⟩
      walk_at "st"
      refine play_end_ok T hl okr hr hq e1 ok0 p3 fun y Dy H4 s4 _ fDy r4 => ?_
      have s04 := sA.trans s4
      have w4 := hw.same s04
      walk_at "st"
      walk_at "sq"
      walk_at "st"
      refine lenA_lst (.of w4.1) ?_
      rw [List.length_map, w4.2.1, rowsP_len]
      walk_at "st"
      have wl : qs.length < (rowsP rs l qs).length := by rw [rowsP_len]; omega
      obtain ⟨a, ea, pa⟩ := w4.get wl
      rw [rowsP_get, List.take_length] at pa
      have al := atI_end (n := qs.length) (by rw [List.length_map, w4.2.1, rowsP_len]) ea
      obtain ⟨oq, lq⟩ := okj qs.length
      rw [zeroP_len, List.take_length] at lq
      rw [List.take_length] at oq
      refine ixA_lst (.of w4.1) al ?_
      walk_at "st"
      refine shows_ok T (by omega) oq.let r4 pa fun H5 s5 => ?_
      walk_at "st"
      walk_at "sq"
      walk_at "st"
      have r5 := r4.same s5
      obtain ⟨dz, ez⟩ := id r5.1
      refine ⟨y, dz, _, rfl, ez, row_len_ok T r5 ⟨_, rfl, by omega, by omega, ?_⟩⟩
      walk_at "st"
      by_cases c : 0 < (runP rs (zeroP l) qs).length
      · walk_at "auto"
        intro Tp hT
        have sT := Same.new (o := .tup [.str (Str.ofString "p"), .int 8]) hT
        have eT : upd H5 Tp (.tup [.str (Str.ofString "p"), .int 8]) Tp = some (.tup [.str (tx [112]), .int 8]) := by rw [upd_same, p_is]
        generalize upd H5 Tp (.tup [.str (Str.ofString "p"), .int 8]) = H6 at sT eT
        walk_at "st"
        refine ⟨y, dz, _, rfl, sT _ _ ez, put_p_ok T (by omega) c (r5.same sT) eT fun H7 k7 => ?_⟩
        walk_at "st"
        have s6 : Same H H7 := sA.trans (fresh_same fDy s4 ((Keep.same (s5.trans sT)).trans k7))
        obtain ⟨d6, ep6⟩ := (hp.same s6).pl
        refine ⟨p, d6, _, rfl, ep6, look_endP _ _ _, ?_⟩
        walk_at "st"
        refine play_end_ok T hl okr hr hq e1 ok0 (hp.same s6) fun y2 D2 Ha sa _ _ ra => ?_
        have wa := (hw.same s6).same sa
        walk_at "st"
        refine ixA_lst (.of wa.1) al ?_
        walk_at "st"
        obtain ⟨a7, ea7, pa7⟩ := wa.get wl
        rw [rowsP_get, List.take_length] at pa7
        rw [ea] at ea7
        cases ea7
        refine shows_ok T (by omega) oq.let ra pa7 fun H8 s8 => ?_
        exact h H8 (s6.trans (sa.trans s8))
      · walk_at "auto"
        have s6 : Same H H5 := s04.trans s5
        obtain ⟨d6, ep6⟩ := (hp.same s6).pl
        refine ⟨p, d6, _, rfl, ep6, look_endP _ _ _, ?_⟩
        walk_at "st"
        refine play_end_ok T hl okr hr hq e1 ok0 (hp.same s6) fun y2 D2 Ha sa _ _ ra => ?_
        have wa := (hw.same s6).same sa
        walk_at "st"
        refine ixA_lst (.of wa.1) al ?_
        walk_at "st"
        obtain ⟨a7, ea7, pa7⟩ := wa.get wl
        rw [rowsP_get, List.take_length] at pa7
        rw [ea] at ea7
        cases ea7
        refine shows_ok T (by omega) oq.let ra pa7 fun H8 s8 => ?_
        exact h H8 (s6.trans (sa.trans s8))
theorem insert_go {H : Hp} {l : Addr} {xs : List V} {y : V} {Q : VK} (h : H l = some (.lst xs)) (hz : xs.length ≤ 10000) (q : Q .non (upd H l (.lst (y :: xs)))) : rInsertA (.ref l) [.int 0, y] H Q :=
  ⟨l, xs, 0, y, rfl, rfl, h, small3 hz, by decide, by decide, q⟩
theorem ne_rl_nil {M N : Addr} {rs : List (List Nat × List Nat)} {H : Hp} {Q : VK} (ok : OkRs rs) (hM : RlsL H M rs) (hN : H N = some (.lst [])) (h : Q (.bl (!decide (rs = []))) H) : rNeA K (.ref M) (.ref N) H Q := by
  refine neA_data (d := .list (rs.map rdat)) (e := .list []) hM.data (.lst (SqL.of hN) .nil) (shaped_rl ok) (by simp [SeqAt.shaped, PyData.canLay0, PyData.canLayAll0, PyData.depth, PyData.depthAll]) (b := decide (rs = [])) ?_ h
  cases rs with
  | nil => simp [PyData.eqv, PyData.eqvAll]
  | cons r t => simp [PyData.eqv, PyData.eqvAll]
def t_pe1 (K : Frg) (E : XK) : TS :=
  (tSeq (tDrop (tBM K "list" rInsertA (tVar 11) (tCons (tC (.int 0)) (tCons (tTup (tCons (tC (.int 0)) (tCons (tC (.int 0)) tNil))) tNil)))) (tSeq (tIfS (tTest (tOp (rNeA K) (tVar 3) (tLst tNil))) (tDrop (tMethZ (He.ga K "Book") "drop" (sp_Book_drop K) [] (WE (W0 E)) (tVar 10) (tCons (tC (.int 0)) tNil))) tNext) (tRet (tAndV (tCallSD (sp_law_fine K) [] (WE (W0 E)) (tCons (tOp (rIx K) (tVar 12) (tC (.int 1))) (tCons (tVar 4) (tCons (tVar 7) (tCons (tVar 6) tNil))))) (tCallSD (sp_law_fine K) [] (WE (W0 E)) (tCons (tOp (rIx K) (tVar 12) (tC (.int 1))) (tCons (tVar 4) (tCons (tVar 7) (tCons (tVar 6) tNil)))))))))
def t_pe2 (K : Frg) (E : XK) : TS :=
  (tSeq (tIfS (tOr (tTest (tOp (rNeA K) (tOp (rIx K) (tVar 12) (tC (.int 0))) (tOp (rIx K) (tVar 9) (tC (.int 0))))) (tOr (tTest (tOp (rNeA K) (tVar 11) (tVar 7))) (tTest (tOp (rNeA K) (tMethZ (He.ga K "Book") "written" (sp_Book_written K) [] (WE (W0 E)) (tVar 10) tNil) (tCallSD (sp_law_lines_of K) [] (WE (W0 E)) (tCons (tVar 3) tNil)))))) (tRet (tC (.bl false))) tNext) (tSeq (tIfS (tTest (tOp (rNeA K) (tOp (rIx K) (tVar 9) (tC (.int 0))) (tC (.str "play")))) (tRet (tAndV (tCallSD (sp_law_is_int K) [] (WE (W0 E)) (tCons (tOp (rIx K) (tVar 12) (tC (.int 1))) tNil)) (tOp (rEqA K) (tOp (rIx K) (tVar 12) (tC (.int 1))) (tOp (rIx K) (tVar 9) (tC (.int 1)))))) tNext) (tSeq (tDrop (tBM K "list" rInsertA (tVar 11) (tCons (tC (.int 0)) (tCons (tTup (tCons (tC (.int 0)) (tCons (tC (.int 0)) tNil))) tNil)))) (tSeq (tIfS (tTest (tOp (rNeA K) (tVar 3) (tLst tNil))) (tDrop (tMethZ (He.ga K "Book") "drop" (sp_Book_drop K) [] (WE (W0 E)) (tVar 10) (tCons (tC (.int 0)) tNil))) tNext) (tRet (tAndV (tCallSD (sp_law_fine K) [] (WE (W0 E)) (tCons (tOp (rIx K) (tVar 12) (tC (.int 1))) (tCons (tVar 4) (tCons (tVar 7) (tCons (tVar 6) tNil))))) (tCallSD (sp_law_fine K) [] (WE (W0 E)) (tCons (tOp (rIx K) (tVar 12) (tC (.int 1))) (tCons (tVar 4) (tCons (tVar 7) (tCons (tVar 6) tNil)))))))))))
def t_pe3 (K : Frg) (E : XK) : TS :=
  (tSeq (tAsg (tCMS (He.ga K "Book") (sp_Book_read K) (WE (W0 E)) (tC (.ref (He.ga K "Book"))) (tCons (tCallSD (sp_law_lines_of K) [] (WE (W0 E)) (tCons (tVar 3) tNil)) tNil)) (gName 10)) (tSeq (tAsg (tCB (rListA K) (tCons (tVar 7) tNil)) (gName 11)) (tSeq (tAsg (tCallSD (sp_law_try_make K) [] (WE (W0 E)) (tCons (tVar 10) (tCons (tVar 4) (tCons (tVar 11) tNil)))) (gName 12)) (tSeq (tIfS (tOr (tTest (tOp (rNeA K) (tOp (rIx K) (tVar 12) (tC (.int 0))) (tOp (rIx K) (tVar 9) (tC (.int 0))))) (tOr (tTest (tOp (rNeA K) (tVar 11) (tVar 7))) (tTest (tOp (rNeA K) (tMethZ (He.ga K "Book") "written" (sp_Book_written K) [] (WE (W0 E)) (tVar 10) tNil) (tCallSD (sp_law_lines_of K) [] (WE (W0 E)) (tCons (tVar 3) tNil)))))) (tRet (tC (.bl false))) tNext) (tSeq (tIfS (tTest (tOp (rNeA K) (tOp (rIx K) (tVar 9) (tC (.int 0))) (tC (.str "play")))) (tRet (tAndV (tCallSD (sp_law_is_int K) [] (WE (W0 E)) (tCons (tOp (rIx K) (tVar 12) (tC (.int 1))) tNil)) (tOp (rEqA K) (tOp (rIx K) (tVar 12) (tC (.int 1))) (tOp (rIx K) (tVar 9) (tC (.int 1)))))) tNext) (tSeq (tDrop (tBM K "list" rInsertA (tVar 11) (tCons (tC (.int 0)) (tCons (tTup (tCons (tC (.int 0)) (tCons (tC (.int 0)) tNil))) tNil)))) (tSeq (tIfS (tTest (tOp (rNeA K) (tVar 3) (tLst tNil))) (tDrop (tMethZ (He.ga K "Book") "drop" (sp_Book_drop K) [] (WE (W0 E)) (tVar 10) (tCons (tC (.int 0)) tNil))) tNext) (tRet (tAndV (tCallSD (sp_law_fine K) [] (WE (W0 E)) (tCons (tOp (rIx K) (tVar 12) (tC (.int 1))) (tCons (tVar 4) (tCons (tVar 7) (tCons (tVar 6) tNil))))) (tCallSD (sp_law_fine K) [] (WE (W0 E)) (tCons (tOp (rIx K) (tVar 12) (tC (.int 1))) (tCons (tVar 4) (tCons (tVar 7) (tCons (tVar 6) tNil))))))))))))))
/-- a play was made -/
theorem pe1_ok {P : Program} {mg : Str → Option Value} (T : Txt P K mg) {v0 v2 v5 v8 v13 v14 v15 v16 v17 : Option V} {wt d RL W st b L G gp p bk Lb tk : Addr} {as : List Addr} {l : List Nat} {rs : List (List Nat × List Nat)} {qs : List (Nat × Nat)} {H0 H : Hp} {D : Ends} {E : XK}
    (hl : l.length ≤ 100) (okr : OkRs rs) (hr : rs.length ≤ 6) (hq : qs.length ≤ 100) (e1 : fo l = -1) (ok0 : okRun rs (zeroP l) qs) (s0 : Same H0 H) (fG : H0 G = none) (fL : H0 L = none)
    (hR : RlsL H0 RL rs) (hw : RwsA H0 W as (rowsP rs l qs)) (hs : StI H0 st (qs.map ci)) (hb : BookAt K H b L rs) (hG : StI H G (qs.map ci)) (eg : H gp = some (.tup [.str (Str.ofString "play"), .ref p])) (hp : PlayAt K H p bk Lb tk l rs (qs.map ci)) (n1 : Lb ≠ G) (n2 : tk ≠ G) (n3 : Lb ≠ L) (n4 : tk ≠ L) (nGL : L ≠ G)
    (h : ∀ H', D.rt (.bl true) H') :
    t_pe1 K E D [v0, some (.ref d), v2, some (.ref RL), some (.str (tx l)), v5, some (.ref W), some (.ref st), v8, some (.ref wt), some (.ref b), some (.ref G), some (.ref gp), v13, v14, v15, v16, v17] H := by
  unfold t_pe1
  walk_at "sq"
  walk_at "st"
  obtain ⟨gs, eG, lg, hgs⟩ := id hG
  refine ⟨tyL eG, ?_⟩
  walk_at "st"
  intro Tz hTz
  have sT := Same.new (o := .tup [.int 0, .int 0]) hTz
  generalize upd H Tz (.tup [.int 0, .int 0]) = H1 at sT ⊢
  walk_at "st"
  refine insert_go (sT _ _ eG) (by rw [List.length_map, lg, List.length_map]; omega) ?_
  have k12 : Keep G H1 (upd H1 G (.lst (.ref Tz :: gs.map V.ref))) := Keep.at_
  have p2 := (hp.same sT).keep k12 n1 n2 (sT _ _ eG)
  have b2 := (hb.same sT).keep k12 nGL (sT _ _ eG)
  have g2 : upd H1 G (.lst (.ref Tz :: gs.map V.ref)) gp = some (.tup [.str (Str.ofString "play"), .ref p]) := k12 _ _ (fun z => by rw [z, eG] at eg; cases eg) (sT _ _ eg)
  have s2 := fresh_same fG (s0.trans sT) k12
  generalize upd H1 G (.lst (.ref Tz :: gs.map V.ref)) = H2 at k12 p2 b2 g2 s2 ⊢
  walk_at "st"
  walk_at "sq"
  walk_at "st"
  intro Z hZ
  have sZ := Same.new (o := .lst []) hZ
  have eZ : upd H2 Z (.lst []) Z = some (.lst []) := upd_same
  generalize upd H2 Z (.lst []) = H3 at sZ eZ ⊢
  refine ne_rl_nil okr ((hR.same s2).same sZ) eZ ?_
  walk_at "st"
  by_cases c : rs = []
  · refine rd_iteC (by rw [decide_eq_true c]; rfl) ?_
    have g4 := sZ _ _ g2
    have p4 := p2.same sZ
    have s4 := s2.trans sZ
    walk_at "st"
    refine ixA_tup (SqT.of g4) (v := .ref p) rfl ?_
    walk_at "st"
    refine play_fine_ok T hl okr hr hq e1 ok0 p4 (hs.same s4) (hw.same s4) fun H5 s5 => ?_
    walk_at "st"
    refine ixA_tup (SqT.of (s5 _ _ g4)) (v := .ref p) rfl ?_
    walk_at "st"
    refine play_fine_ok T hl okr hr hq e1 ok0 (p4.same s5) ((hs.same s4).same s5) ((hw.same s4).same s5) fun H6 s6 => ?_
    exact h H6
  · refine rd_iteB (by rw [decide_eq_false c]; rfl) ?_
    walk_at "st"
    have b3 := b2.same sZ
    obtain ⟨⟨dx, eb⟩, us, eL, _⟩ := id b3
    refine ⟨b, dx, _, rfl, eb, look_drop _, ?_⟩
    walk_at "st"
    have lp : 0 < rs.length := List.length_pos_iff.mpr c
    refine drop_ok T b3 hr (fun j hj u H4 ej k4 _ bk4 => ?_) (fun c => absurd ⟨by omega, by omega⟩ c)
    have g4 := k4 _ _ (fun z => by have q := sZ _ _ g2; rw [z, eL] at q; cases q) (sZ _ _ g2)
    have p4 := (p2.same sZ).keep k4 n3 n4 eL
    have s4 := fresh_same fL (s2.trans sZ) k4
    walk_at "st"
    refine ixA_tup (SqT.of g4) (v := .ref p) rfl ?_
    walk_at "st"
    refine play_fine_ok T hl okr hr hq e1 ok0 p4 (hs.same s4) (hw.same s4) fun H5 s5 => ?_
    walk_at "st"
    refine ixA_tup (SqT.of (s5 _ _ g4)) (v := .ref p) rfl ?_
    walk_at "st"
    refine play_fine_ok T hl okr hr hq e1 ok0 (p4.same s5) ((hs.same s4).same s5) ((hw.same s4).same s5) fun H6 s6 => ?_
    exact h H6
theorem pe2_ok {P : Program} {mg : Str → Option Value} (T : Txt P K mg) {v0 v2 v5 v8 v13 v14 v15 v16 v17 : Option V} {gv : V} {wn : Int} {s : Str} {wt d RL W st b L G gp : Addr} {l : List Nat} {rs : List (List Nat × List Nat)} {zs : List (Int × Int)} {H : Hp} {D : Ends} {E : XK}
    (okr : OkRs rs) (hr : rs.length ≤ 6) (hR : RlsL H RL rs) (hs : StI H st zs) (hb : BookAt K H b L rs) (hG : StI H G zs) (eg : H gp = some (.tup [.str s, gv])) (ew : H wt = some (.tup [.str s, .int wn]))
    (h1 : s = Str.ofString "play" → ∀ H', Same H H' → t_pe1 K E D [v0, some (.ref d), v2, some (.ref RL), some (.str (tx l)), v5, some (.ref W), some (.ref st), v8, some (.ref wt), some (.ref b), some (.ref G), some (.ref gp), v13, v14, v15, v16, v17] H')
    (h2 : s ≠ Str.ofString "play" → gv = .int wn) (h : ∀ H', D.rt (.bl true) H') :
    t_pe2 K E D [v0, some (.ref d), v2, some (.ref RL), some (.str (tx l)), v5, some (.ref W), some (.ref st), v8, some (.ref wt), some (.ref b), some (.ref G), some (.ref gp), v13, v14, v15, v16, v17] H := by
  unfold t_pe2
  walk_at "sq"
  walk_at "st"
  refine ixA_tup (SqT.of eg) (v := .str s) rfl ?_
  walk_at "st"
  refine ixA_tup (SqT.of ew) (v := .str s) rfl ?_
  walk_at "st"
  refine rd_iteC (by rw [decide_eq_true (rfl : s = s)]; rfl) ?_
  walk_at "st"
  refine ne_zi hG hs ?_
  rw [decide_eq_true (rfl : zs = zs)]
  walk_at "st"
  obtain ⟨dx, eb⟩ := id hb.1
  refine ⟨b, dx, _, rfl, eb, look_wform _, ?_⟩
  walk_at "st"
  refine written_form_ok T okr (by omega) hb fun H1 s1 => ?_
  walk_at "st"
  refine lines_of_ok okr (by omega) (hR.same s1) fun H2 s2 => ?_
  have s12 := s1.trans s2
  walk_at "st"
  refine rd_iteC (by rw [decide_eq_true (rfl : tx (writeL rs) = tx (writeL rs))]; rfl) ?_
  walk_at "st"
  walk_at "sq"
  walk_at "st"
  refine ixA_tup (SqT.of (s12 _ _ ew)) (v := .str s) rfl ?_
  walk_at "st"
  by_cases c : s = Str.ofString "play"
  · refine rd_iteC (by rw [decide_eq_true c]; rfl) ?_
    walk_at "st"
    exact h1 c H2 s12
  · refine rd_iteB (by rw [decide_eq_false c]; rfl) ?_
    have eq := h2 c
    subst eq
    walk_at "st"
    refine ixA_tup (SqT.of (s12 _ _ eg)) (v := .int wn) rfl ?_
    walk_at "st"
    refine is_int_ok ?_
    walk_at "st"
    refine ixA_tup (SqT.of (s12 _ _ eg)) (v := .int wn) rfl ?_
    walk_at "st"
    refine ixA_tup (SqT.of (s12 _ _ ew)) (v := .int wn) rfl ?_
    walk_at "st"
    rw [decide_eq_true (rfl : wn = wn)]
    exact h H2
/-- what is wanted of the play -/
def Wnt (l : List Nat) (rs : List (List Nat × List Nat)) (qs : List (Nat × Nat)) (ex : List (Int × Int)) (s : Str) (n : Int) : Prop :=
  (fo l = -1 ∧ ex = [] ∧ s = Str.ofString "play" ∧ n = 0) ∨ (0 ≤ fo l ∧ s = Str.ofString "sign" ∧ n = fo l) ∨ (fo l = -1 ∧ ex ≠ [] ∧ s = Str.ofString "step" ∧ n = qs.length)
theorem play_ne_sign : Str.ofString "sign" ≠ Str.ofString "play" := by decide +kernel
theorem play_ne_step : Str.ofString "step" ≠ Str.ofString "play" := by decide +kernel
theorem pe3_ok {P : Program} {mg : Str → Option Value} (T : Txt P K mg) {v0 v2 v5 v8 v13 v14 v15 v16 v17 : Option V} {wn : Int} {s : Str} {wt d RL W st : Addr} {as : List Addr} {l : List Nat} {rs : List (List Nat × List Nat)} {qs : List (Nat × Nat)} {ex : List (Int × Int)} {H : Hp} {D : Ends} {E : XK}
    (hl : l.length ≤ 100) (okr : OkRs rs) (hr : rs.length ≤ 6) (hq : qs.length ≤ 100) (hex2 : ex.length ≤ 100) (hok : fo l = -1 → okRun rs (zeroP l) qs) (hex : fo l = -1 → ex = [] ∨ ∃ z t, ex = z :: t ∧ ¬ goI rs (runP rs (zeroP l) qs) z)
    (hR : RlsL H RL rs) (hw : fo l = -1 → RwsA H W as (rowsP rs l qs)) (hs : StI H st (qs.map ci ++ ex)) (ew : H wt = some (.tup [.str s, .int wn])) (wnt : Wnt l rs qs ex s wn) (h : ∀ H', D.rt (.bl true) H') :
    t_pe3 K E D [v0, some (.ref d), v2, some (.ref RL), some (.str (tx l)), v5, some (.ref W), some (.ref st), v8, some (.ref wt), none, none, none, v13, v14, v15, v16, v17] H := by
  unfold t_pe3
  walk_at "sq"
  walk_at "st"
  refine ⟨rfl, ?_⟩
  walk_at "st"
  refine lines_of_ok okr (by omega) hR fun H1 s1 => ?_
  walk_at "st"
  refine book_read_ok T okr hr fun b L H2 s2 fb fL hb => ?_
  have s02 := s1.trans s2
  have fL0 := s1.free fL
  walk_at "st"
  walk_at "sq"
  walk_at "st"
  refine zi_list (hs.same s02) fun G H3 s3 fG g3 => ?_
  have s03 := s02.trans s3
  have fG0 := s02.free fG
  have hb3 := hb.same s3
  have eL3 : ∃ o, H3 L = some o := ⟨_, hb3.2.choose_spec.1⟩
  have eL2 : ∃ o, H2 L = some o := ⟨_, hb.2.choose_spec.1⟩
  have nGL : L ≠ G := fun z => by
    obtain ⟨o, e⟩ := eL2
    rw [z, fG] at e
    cases e
  walk_at "st"
  walk_at "sq"
  walk_at "st"
  refine play_try_ok T hl okr hr hq hex2 hok hex hb3 g3 ?_ ?_ ?_
  · intro ee e1 gp p bk Lb tk H4 s4 f1 f2 eg pp
    have s04 := s03.trans s4
    have sp : s = Str.ofString "play" := by
      rcases wnt with ⟨_, _, c, _⟩ | ⟨c, _⟩ | ⟨_, c, _⟩
      · exact c
      · omega
      · exact absurd ee c
    subst sp
    subst ee
    rw [List.append_nil] at hs g3
    walk_at "st"
    refine pe2_ok T okr hr (hR.same s04) (hs.same s04) (hb3.same s4) (g3.same s4) eg (s04 _ _ ew) (fun _ H5 s5 => ?_) (fun c => absurd rfl c) h
    obtain ⟨o3, eL3⟩ := eL3
    have eG3 := g3.choose_spec.1
    exact pe1_ok T hl okr hr hq e1 (hok e1) (s04.trans s5) fG0 fL0 hR (hw e1) hs ((hb3.same s4).same s5) ((g3.same s4).same s5) (s5 _ _ eg) (pp.same s5) (Ne.symm (ne_of_none eG3 f1)) (Ne.symm (ne_of_none eG3 f2)) (Ne.symm (ne_of_none eL3 f1)) (Ne.symm (ne_of_none eL3 f2)) nGL h
  · intro e1 gp H4 s4 eg
    have s04 := s03.trans s4
    obtain ⟨c1, c2⟩ : s = Str.ofString "sign" ∧ wn = fo l := by
      rcases wnt with ⟨c, _⟩ | ⟨_, c, c2⟩ | ⟨c, _⟩
      · omega
      · exact ⟨c, c2⟩
      · omega
    subst c1 c2
    walk_at "st"
    exact pe2_ok T okr hr (hR.same s04) (hs.same s04) (hb3.same s4) (g3.same s4) eg (s04 _ _ ew) (fun c => absurd c play_ne_sign) (fun _ => rfl) h
  · intro e1 ne gp H4 s4 eg
    have s04 := s03.trans s4
    obtain ⟨c1, c2⟩ : s = Str.ofString "step" ∧ wn = qs.length := by
      rcases wnt with ⟨_, c, _⟩ | ⟨c, _⟩ | ⟨_, _, c, c2⟩
      · exact absurd c ne
      · omega
      · exact ⟨c, c2⟩
    subst c1 c2
    walk_at "st"
    exact pe2_ok T okr hr (hR.same s04) (hs.same s04) (hb3.same s4) (g3.same s4) eg (s04 _ _ ew) (fun c => absurd c play_ne_step) (fun _ => rfl) h
theorem RwsA.keep {H H' : Hp} {W e : Addr} {xs : List V} {as : List Addr} {pss : List (List (Nat × Int))} (h : RwsA H W as pss) (k : Keep e H H') (n : W ≠ e) (na : ∀ a ∈ as, a ≠ e) (he : H e = some (.lst xs)) : RwsA H' W as pss :=
  ⟨k _ _ n h.1, h.2.1, fun j a ps e1 e2 => (h.2.2 j a ps e1 e2).keep k (na a (List.mem_of_getElem? e1)) he⟩
/-- the law's things -/
structure Pd (H : Hp) (d RL W st : Addr) (as : List Addr) (l : List Nat) (rs : List (List Nat × List Nat)) (qs : List (Nat × Nat)) (zs : List (Int × Int)) : Prop where
  dr : DrL H d
  rl : RlsL H RL rs
  rw_ : RwsA H W as (rowsP rs l qs)
  stp : StI H st zs
  nR : RL ≠ d
  nW : W ≠ d
  nS : st ≠ d
  nA : ∀ a ∈ as, a ≠ d
theorem Pd.same {H H' : Hp} {d RL W st : Addr} {as : List Addr} {l : List Nat} {rs : List (List Nat × List Nat)} {qs : List (Nat × Nat)} {zs : List (Int × Int)} (h : Pd H d RL W st as l rs qs zs) (s : Same H H') : Pd H' d RL W st as l rs qs zs := ⟨h.dr.same s, h.rl.same s, h.rw_.same s, h.stp.same s, h.nR, h.nW, h.nS, h.nA⟩
theorem Pd.keep {H H' : Hp} {d RL W st : Addr} {as : List Addr} {l : List Nat} {rs : List (List Nat × List Nat)} {qs : List (Nat × Nat)} {zs : List (Int × Int)} (h : Pd H d RL W st as l rs qs zs) (k : Keep d H H') (e : DrL H' d) : Pd H' d RL W st as l rs qs zs := by
  obtain ⟨_, _, q⟩ := id h.dr
  exact ⟨e, h.rl.keep k h.nR q, h.rw_.keep k h.nW h.nA q, h.stp.keep k h.nS q, h.nR, h.nW, h.nS, h.nA⟩
theorem fo_cut {l : List Nat} {c a : Nat} (hl : ∀ x ∈ l, x ∈ letters) (hc : c ∉ letters) (ha : a ≤ l.length) : fo (l.take a ++ [c] ++ l.drop a) = a := by
  have la : (l.take a).length = a := by rw [List.length_take]; omega
  refine fo_at _ a c (fun j x hj e => ?_) ?_ hc
  · rw [List.append_assoc, List.getElem?_append_left (by omega)] at e
    exact hl x (List.mem_of_mem_take (List.mem_of_getElem? e))
  · rw [List.append_assoc, List.getElem?_append_right (by omega), la, Nat.sub_self]
    rfl
/-- what can be taken stands among the open steps -/
theorem goI_open {rs : List (List Nat × List Nat)} {ps : List (Nat × Int)} {z : Int × Int} (okr : OkRs rs) (ok : Okp ps) (g : goI rs ps z) : z ∈ (opTo ps rs ps.length).map ci := by
  obtain ⟨n, k⟩ := z
  obtain ⟨h0, h1, r, er, f, w⟩ := g
  have h0 : 0 ≤ n := h0
  have h1 : n < rs.length := h1
  obtain ⟨i, rfl⟩ : ∃ i : Nat, n = i := ⟨n.toNat, by omega⟩
  have f0 : 0 ≤ k := f.1
  obtain ⟨j, rfl⟩ : ∃ j : Nat, k = j := ⟨k.toNat, by omega⟩
  have er : rs[i]? = some r := er
  have hi := (List.getElem?_eq_some_iff.mp er).1
  have okr1 : okR r := okr r (List.mem_of_getElem? er)
  have gd : rs.getD i ([], []) = r := by simp [List.getD, er]
  have lt : j < ps.length := by
    have e := congrArg List.length f.2
    have l1 := okr1.1.1
    unfold win at e
    rw [List.length_map, List.length_take, List.length_drop] at e
    have e : min r.1.length (ps.length - (j : Int).toNat) = r.1.length := e
    rw [Int.toNat_natCast] at e
    omega
  exact List.mem_map.mpr ⟨(i, j), opTo_mem.mpr ⟨lt, hi, by rw [gd]; exact (op_iff ok okr1).mpr ⟨f, w⟩⟩, rfl⟩
def t_pe4 (K : Frg) (E : XK) : TS :=
  (tSeq (tIfS (tTest (tOp (rEqA K) (tCallSD (sp_law_pick K) [] (WE (W0 E)) (tCons (tVar 1) (tCons (tC (.int 8)) tNil))) (tC (.int 3)))) (tSeq (tAsg (tCallSD (sp_law_pick K) [] (WE (W0 E)) (tCons (tVar 1) (tCons (tOp rAddA (tCB (rLenA K) (tCons (tVar 4) tNil)) (tC (.int 1))) tNil))) (gName 16)) (tSeq (tAsg (tOp rAddA (tOp rAddA (tSl (rSlA K) (tVar 4) tNoPart (tPart (tVar 16))) (tCallSD (sp_law_odd_sign K) [] (WE (W0 E)) (tCons (tVar 1) tNil))) (tSl (rSlA K) (tVar 4) (tPart (tVar 16)) tNoPart)) (gName 4)) (tAsg (tTup (tCons (tC (.str "sign")) (tCons (tVar 16) tNil))) (gName 9)))) tNext) (tSeq (tAsg (tCMS (He.ga K "Book") (sp_Book_read K) (WE (W0 E)) (tC (.ref (He.ga K "Book"))) (tCons (tCallSD (sp_law_lines_of K) [] (WE (W0 E)) (tCons (tVar 3) tNil)) tNil)) (gName 10)) (tSeq (tAsg (tCB (rListA K) (tCons (tVar 7) tNil)) (gName 11)) (tSeq (tAsg (tCallSD (sp_law_try_make K) [] (WE (W0 E)) (tCons (tVar 10) (tCons (tVar 4) (tCons (tVar 11) tNil)))) (gName 12)) (tSeq (tIfS (tOr (tTest (tOp (rNeA K) (tOp (rIx K) (tVar 12) (tC (.int 0))) (tOp (rIx K) (tVar 9) (tC (.int 0))))) (tOr (tTest (tOp (rNeA K) (tVar 11) (tVar 7))) (tTest (tOp (rNeA K) (tMethZ (He.ga K "Book") "written" (sp_Book_written K) [] (WE (W0 E)) (tVar 10) tNil) (tCallSD (sp_law_lines_of K) [] (WE (W0 E)) (tCons (tVar 3) tNil)))))) (tRet (tC (.bl false))) tNext) (tSeq (tIfS (tTest (tOp (rNeA K) (tOp (rIx K) (tVar 9) (tC (.int 0))) (tC (.str "play")))) (tRet (tAndV (tCallSD (sp_law_is_int K) [] (WE (W0 E)) (tCons (tOp (rIx K) (tVar 12) (tC (.int 1))) tNil)) (tOp (rEqA K) (tOp (rIx K) (tVar 12) (tC (.int 1))) (tOp (rIx K) (tVar 9) (tC (.int 1)))))) tNext) (tSeq (tDrop (tBM K "list" rInsertA (tVar 11) (tCons (tC (.int 0)) (tCons (tTup (tCons (tC (.int 0)) (tCons (tC (.int 0)) tNil))) tNil)))) (tSeq (tIfS (tTest (tOp (rNeA K) (tVar 3) (tLst tNil))) (tDrop (tMethZ (He.ga K "Book") "drop" (sp_Book_drop K) [] (WE (W0 E)) (tVar 10) (tCons (tC (.int 0)) tNil))) tNext) (tRet (tAndV (tCallSD (sp_law_fine K) [] (WE (W0 E)) (tCons (tOp (rIx K) (tVar 12) (tC (.int 1))) (tCons (tVar 4) (tCons (tVar 7) (tCons (tVar 6) tNil))))) (tCallSD (sp_law_fine K) [] (WE (W0 E)) (tCons (tOp (rIx K) (tVar 12) (tC (.int 1))) (tCons (tVar 4) (tCons (tVar 7) (tCons (tVar 6) tNil)))))))))))))))
theorem pe4_ok {P : Program} {mg : Str → Option Value} (T : Txt P K mg) {v0 v2 v5 v8 v13 v14 v15 v17 : Option V} {wn : Int} {s : Str} {wt d RL W st : Addr} {as : List Addr} {l : List Nat} {rs : List (List Nat × List Nat)} {qs : List (Nat × Nat)} {ex : List (Int × Int)} {H : Hp} {D : Ends} {E : XK}
    (hl : l.length ≤ 50) (okl : ∀ c ∈ l, c ∈ letters) (okr : OkRs rs) (hr : rs.length ≤ 6) (hq : qs.length ≤ 100) (hex2 : ex.length ≤ 100) (hok : okRun rs (zeroP l) qs) (hex : ex = [] ∨ ∃ z t, ex = z :: t ∧ ¬ goI rs (runP rs (zeroP l) qs) z)
    (w : Pd H d RL W st as l rs qs (qs.map ci ++ ex)) (ew : H wt = some (.tup [.str s, .int wn])) (wnt : Wnt l rs qs ex s wn) (h : ∀ H', D.rt (.bl true) H') :
    t_pe4 K E D [v0, some (.ref d), v2, some (.ref RL), some (.str (tx l)), v5, some (.ref W), some (.ref st), v8, some (.ref wt), none, none, none, v13, v14, v15, none, v17] H := by
  unfold t_pe4
  walk_at "sq"
  walk_at "st"
  refine pick_ok (by decide) w.dr fun q1 H1 _ _ k1 d1 => ?_
  have w1 := w.keep k1 d1
  obtain ⟨ds, _, ed⟩ := id w.dr
  have ew1 := k1 _ _ (fun z => by rw [z, ed] at ew; cases ew) ew
  walk_at "st"
  by_cases c : q1 = 3
  · refine rd_iteB (decide_eq_true c) ?_
    walk_at "sq"
    walk_at "st"
    refine lenA_str (by rw [tx_len]; exact small2 (by omega)) ?_
    rw [tx_len]
    walk_at "st"
    refine pick_ok (by omega) d1 fun a0 H2 a00 a01 k2 d2 => ?_
    obtain ⟨a, rfl⟩ : ∃ a : Nat, a0 = a := ⟨a0.toNat, by omega⟩
    have w2 := w1.keep k2 d2
    walk_at "st"
    walk_at "sq"
    walk_at "st"
    refine slA_str (by rw [tx_len]; exact small2 (by omega)) ?_
    rw [cut_to l a (by omega)]
    walk_at "st"
    refine odd2_ok d2 fun cc H3 hcc k3 d3 => ?_
    have w3 := w2.keep k3 d3
    walk_at "st"
    refine addA_str (by rw [tx_len, tx_len, List.length_take]; exact small2 (by simp; omega)) ?_
    rw [tx_app]
    walk_at "st"
    refine slA_str (by rw [tx_len]; exact small2 (by omega)) ?_
    rw [cut_from l a (by omega)]
    walk_at "st"
    refine addA_str (by rw [tx_len, tx_len, List.length_append, List.length_take, List.length_drop]; exact small2 (by simp; omega)) ?_
    rw [tx_app]
    walk_at "st"
    intro Tw hTw
    have sT := Same.new (o := .tup [.str (Str.ofString "sign"), .int (a : Nat)]) hTw
    have w4 := w3.same sT
    have fa := fo_cut (a := a) okl hcc (by omega)
    have ll : (l.take a ++ [cc] ++ l.drop a).length ≤ 100 := by simp; omega
    exact pe3_ok T (as := as) ll okr hr hq hex2 (fun c => by omega) (fun c => by omega) w4.rl (fun c => by omega) w4.stp upd_same (.inr (.inl ⟨by omega, rfl, fa.symm⟩)) h
  · refine rd_iteC (decide_eq_false c) ?_
    walk_at "st"
    exact pe3_ok T (by omega) okr hr hq hex2 (fun _ => hok) (fun _ => hex) w1.rl (fun _ => w1.rw_) w1.stp ew1 wnt h
def t_pe5 (K : Frg) (E : XK) : TS :=
  (tSeq (tAsg (tTup (tCons (tC (.str "play")) (tCons (tC (.int 0)) tNil))) (gName 9)) (tSeq (tIfS (tTest (tOp (rEqA K) (tCallSD (sp_law_pick K) [] (WE (W0 E)) (tCons (tVar 1) (tCons (tC (.int 3)) tNil))) (tC (.int 1)))) (tSeq (tAsg (tCallSD (sp_law_bad_step K) [] (WE (W0 E)) (tCons (tVar 1) (tCons (tVar 5) (tCons (tVar 3) tNil)))) (gName 15)) (tIfS (tTest (tOp (rNotInD K) (tVar 15) (tCallSD (sp_law_open_steps K) [] (WE (W0 E)) (tCons (tVar 5) (tCons (tVar 3) tNil))))) (tSeq (tAsg (tTup (tCons (tC (.str "step")) (tCons (tCB (rLenA K) (tCons (tVar 7) tNil)) tNil))) (gName 9)) (tAsg (tOp rAddA (tVar 7) (tLst (tCons (tVar 15) (tCons (tTup (tCons (tC (.int 0)) (tCons (tC (.int 0)) tNil))) tNil)))) (gName 7))) tNext)) tNext) (tSeq (tIfS (tTest (tOp (rEqA K) (tCallSD (sp_law_pick K) [] (WE (W0 E)) (tCons (tVar 1) (tCons (tC (.int 8)) tNil))) (tC (.int 3)))) (tSeq (tAsg (tCallSD (sp_law_pick K) [] (WE (W0 E)) (tCons (tVar 1) (tCons (tOp rAddA (tCB (rLenA K) (tCons (tVar 4) tNil)) (tC (.int 1))) tNil))) (gName 16)) (tSeq (tAsg (tOp rAddA (tOp rAddA (tSl (rSlA K) (tVar 4) tNoPart (tPart (tVar 16))) (tCallSD (sp_law_odd_sign K) [] (WE (W0 E)) (tCons (tVar 1) tNil))) (tSl (rSlA K) (tVar 4) (tPart (tVar 16)) tNoPart)) (gName 4)) (tAsg (tTup (tCons (tC (.str "sign")) (tCons (tVar 16) tNil))) (gName 9)))) tNext) (tSeq (tAsg (tCMS (He.ga K "Book") (sp_Book_read K) (WE (W0 E)) (tC (.ref (He.ga K "Book"))) (tCons (tCallSD (sp_law_lines_of K) [] (WE (W0 E)) (tCons (tVar 3) tNil)) tNil)) (gName 10)) (tSeq (tAsg (tCB (rListA K) (tCons (tVar 7) tNil)) (gName 11)) (tSeq (tAsg (tCallSD (sp_law_try_make K) [] (WE (W0 E)) (tCons (tVar 10) (tCons (tVar 4) (tCons (tVar 11) tNil)))) (gName 12)) (tSeq (tIfS (tOr (tTest (tOp (rNeA K) (tOp (rIx K) (tVar 12) (tC (.int 0))) (tOp (rIx K) (tVar 9) (tC (.int 0))))) (tOr (tTest (tOp (rNeA K) (tVar 11) (tVar 7))) (tTest (tOp (rNeA K) (tMethZ (He.ga K "Book") "written" (sp_Book_written K) [] (WE (W0 E)) (tVar 10) tNil) (tCallSD (sp_law_lines_of K) [] (WE (W0 E)) (tCons (tVar 3) tNil)))))) (tRet (tC (.bl false))) tNext) (tSeq (tIfS (tTest (tOp (rNeA K) (tOp (rIx K) (tVar 9) (tC (.int 0))) (tC (.str "play")))) (tRet (tAndV (tCallSD (sp_law_is_int K) [] (WE (W0 E)) (tCons (tOp (rIx K) (tVar 12) (tC (.int 1))) tNil)) (tOp (rEqA K) (tOp (rIx K) (tVar 12) (tC (.int 1))) (tOp (rIx K) (tVar 9) (tC (.int 1)))))) tNext) (tSeq (tDrop (tBM K "list" rInsertA (tVar 11) (tCons (tC (.int 0)) (tCons (tTup (tCons (tC (.int 0)) (tCons (tC (.int 0)) tNil))) tNil)))) (tSeq (tIfS (tTest (tOp (rNeA K) (tVar 3) (tLst tNil))) (tDrop (tMethZ (He.ga K "Book") "drop" (sp_Book_drop K) [] (WE (W0 E)) (tVar 10) (tCons (tC (.int 0)) tNil))) tNext) (tRet (tAndV (tCallSD (sp_law_fine K) [] (WE (W0 E)) (tCons (tOp (rIx K) (tVar 12) (tC (.int 1))) (tCons (tVar 4) (tCons (tVar 7) (tCons (tVar 6) tNil))))) (tCallSD (sp_law_fine K) [] (WE (W0 E)) (tCons (tOp (rIx K) (tVar 12) (tC (.int 1))) (tCons (tVar 4) (tCons (tVar 7) (tCons (tVar 6) tNil)))))))))))))))))
theorem pe5_ok {P : Program} {mg : Str → Option Value} (T : Txt P K mg) {v0 v2 v8 v13 v14 v17 : Option V} {d RL W st M : Addr} {as : List Addr} {l : List Nat} {rs : List (List Nat × List Nat)} {qs : List (Nat × Nat)} {H : Hp} {D : Ends} {E : XK}
    (hl : l.length ≤ 50) (okl : ∀ c ∈ l, c ∈ letters) (okr : OkRs rs) (hr : rs.length ≤ 6) (hq : qs.length ≤ 50) (hok : okRun rs (zeroP l) qs)
    (w : Pd H d RL W st as l rs qs (qs.map ci)) (hM : Prs H M (runP rs (zeroP l) qs)) (nM : M ≠ d) (h : ∀ H', D.rt (.bl true) H') :
    t_pe5 K E D [v0, some (.ref d), v2, some (.ref RL), some (.str (tx l)), some (.ref M), some (.ref W), some (.ref st), v8, none, none, none, none, v13, v14, none, none, v17] H := by
  unfold t_pe5
  have okz : Okp (zeroP l) := zeroP_ok okl
  obtain ⟨okq, lq⟩ := run_ok okr okz hok
  rw [zeroP_len] at lq
  have e1 : fo l = -1 := fo_ok okl
  walk_at "sq"
  walk_at "st"
  intro Tw hTw
  have sT := Same.new (o := .tup [.str (Str.ofString "play"), .int 0]) hTw
  have eT : upd H Tw (.tup [.str (Str.ofString "play"), .int 0]) Tw = _ := upd_same
  generalize upd H Tw (.tup [.str (Str.ofString "play"), .int 0]) = H1 at sT eT ⊢
  have w1 := w.same sT
  walk_at "st"
  walk_at "sq"
  walk_at "st"
  refine pick_ok (by decide) w1.dr fun q1 H2 _ _ k2 d2 => ?_
  have w2 := w1.keep k2 d2
  obtain ⟨ds1, _, ed1⟩ := id w1.dr
  have eT2 := k2 _ _ (fun z => by rw [z, ed1] at eT; cases eT) eT
  have m2 := (hM.same sT).keepD k2 nM w1.dr
  walk_at "st"
  by_cases c : q1 = 1
  · refine rd_iteB (decide_eq_true c) ?_
    walk_at "sq"
    walk_at "st"
    refine bad_step_ok (by omega) hr nM w2.nR d2 m2 w2.rl fun n k Tb H3 k3 d3 eb => ?_
    have w3 := w2.keep k3 d3
    have m3 := m2.keepD k3 nM d2
    obtain ⟨ds2, _, ed2⟩ := id d2
    have eT3 := k3 _ _ (fun z => by rw [z, ed2] at eT2; cases eT2) eT2
    walk_at "st"
    refine open_steps_ok (by omega) okr hr m3 w3.rl fun O H4 s4 _ hO => ?_
    have w4 := w3.same s4
    have eb4 := s4 _ _ eb
    refine notInZ eb4 hO.toI ?_
    walk_at "st"
    by_cases c2 : (n, k) ∈ (opTo (runP rs (zeroP l) qs) rs (runP rs (zeroP l) qs).length).map ci
    · refine rd_iteC (by rw [decide_eq_true c2]; rfl) ?_
      walk_at "st"
      exact pe4_ok T hl okl okr hr (by omega) (ex := []) (by simp) hok (.inl rfl) (by rw [List.append_nil]; exact w4) (s4 _ _ eT3) (.inl ⟨e1, rfl, rfl, rfl⟩) h
    · refine rd_iteB (by rw [decide_eq_false c2]; rfl) ?_
      walk_at "sq"
      walk_at "st"
      obtain ⟨bs, eS, lb, hbs⟩ := id w4.stp
      refine lenA_lst (.of eS) ?_
      rw [List.length_map, lb, List.length_map]
      walk_at "st"
      intro Tw2 hT2
      have s5 := Same.new (o := .tup [.str (Str.ofString "step"), .int (qs.length : Nat)]) hT2
      have e5 : upd H4 Tw2 (.tup [.str (Str.ofString "step"), .int (qs.length : Nat)]) Tw2 = _ := upd_same
      generalize upd H4 Tw2 (.tup [.str (Str.ofString "step"), .int (qs.length : Nat)]) = H5 at s5 e5 ⊢
      walk_at "st"
      intro T0 hT0
      have s6 := Same.new (o := .tup [.int 0, .int 0]) hT0
      have e6 : upd H5 T0 (.tup [.int 0, .int 0]) T0 = _ := upd_same
      generalize upd H5 T0 (.tup [.int 0, .int 0]) = H6 at s6 e6 ⊢
      walk_at "st"
      intro Lx hLx
      have s7 := Same.new (o := .lst [.ref Tb, .ref T0]) hLx
      have e7 : upd H6 Lx (.lst [.ref Tb, .ref T0]) Lx = some (.lst ([Tb, T0].map V.ref)) := upd_same
      generalize upd H6 Lx (.lst [.ref Tb, .ref T0]) = H7 at s7 e7 ⊢
      have s47 := s5.trans (s6.trans s7)
      refine addA_lst (s47 _ _ eS) e7 (by rw [List.length_map, lb, List.length_map, List.length_map, sizeLine_eq]; simp; omega) fun st2 hst2 => ?_
      have s8 := Same.new (o := .lst (bs.map V.ref ++ [Tb, T0].map V.ref)) hst2
      have s48 := s47.trans s8
      have st8 : StI (upd H7 st2 (.lst (bs.map V.ref ++ [Tb, T0].map V.ref))) st2 (qs.map ci ++ [(n, k), (0, 0)]) := by
        refine StI.app upd_same lb rfl (fun j a z e1 e2 => s48 _ _ (hbs j a z e1 e2)) (fun j a z e1 e2 => ?_)
        rcases j with _ | _ | j
        · cases e1
          cases e2
          exact s48 _ _ eb4
        · cases e1
          cases e2
          exact s8 _ _ (s7 _ _ e6)
        · simp at e1
      generalize upd H7 st2 (.lst (bs.map V.ref ++ [Tb, T0].map V.ref)) = H8 at s8 s48 st8 ⊢
      have w8 := w4.same s48
      have nst : st2 ≠ d := (w4.same s47).dr.ne hst2
      walk_at "st"
      exact pe4_ok T hl okl okr hr (by omega) (ex := [(n, k), (0, 0)]) (by simp) hok (.inr ⟨_, _, rfl, fun g => c2 (goI_open okr okq g)⟩) ⟨w8.dr, w8.rl, w8.rw_, st8, w8.nR, w8.nW, nst, w8.nA⟩ ((s6.trans (s7.trans s8)) _ _ e5) (.inr (.inr ⟨e1, by simp, rfl, rfl⟩)) h
  · refine rd_iteC (decide_eq_false c) ?_
    walk_at "st"
    exact pe4_ok T hl okl okr hr (by omega) (ex := []) (by simp) hok (.inl rfl) (by rw [List.append_nil]; exact w2) eT2 (.inl ⟨e1, rfl, rfl, rfl⟩) h
/-- the law's loop -/
structure Lp (H : Hp) (d RL W st M : Addr) (as : List Addr) (l : List Nat) (rs : List (List Nat × List Nat)) (qs : List (Nat × Nat)) : Prop where
  w : Pd H d RL W st as l rs qs (qs.map ci)
  pm : Prs H M (runP rs (zeroP l) qs)
  ok : okRun rs (zeroP l) qs
  nMd : M ≠ d
  nMW : M ≠ W
  nMS : M ≠ st
  nWS : W ≠ st
  nRW : RL ≠ W
  nRS : RL ≠ st
  nAW : ∀ a ∈ as, a ≠ W
  nAS : ∀ a ∈ as, a ≠ st
theorem Lp.same {H H' : Hp} {d RL W st M : Addr} {as : List Addr} {l : List Nat} {rs : List (List Nat × List Nat)} {qs : List (Nat × Nat)} (h : Lp H d RL W st M as l rs qs) (s : Same H H') : Lp H' d RL W st M as l rs qs := ⟨h.w.same s, h.pm.same s, h.ok, h.nMd, h.nMW, h.nMS, h.nWS, h.nRW, h.nRS, h.nAW, h.nAS⟩
theorem Lp.keep {H H' : Hp} {d RL W st M : Addr} {as : List Addr} {l : List Nat} {rs : List (List Nat × List Nat)} {qs : List (Nat × Nat)} (h : Lp H d RL W st M as l rs qs) (k : Keep d H H') (e : DrL H' d) : Lp H' d RL W st M as l rs qs := ⟨h.w.keep k e, h.pm.keepD k h.nMd h.w.dr, h.ok, h.nMd, h.nMW, h.nMS, h.nWS, h.nRW, h.nRS, h.nAW, h.nAS⟩
theorem rowsP_snoc {rs : List (List Nat × List Nat)} {l : List Nat} {qs : List (Nat × Nat)} {q : Nat × Nat} : rowsP rs l (qs ++ [q]) = rowsP rs l qs ++ [runP rs (zeroP l) (qs ++ [q])] := by
  unfold rowsP
  rw [List.length_append, List.length_singleton, List.range_succ, List.map_append]
  congr 1
  · apply List.map_congr_left
    intro j hj
    have := List.mem_range.mp hj
    rw [List.take_append_of_le_length (by omega)]
  · rw [List.map_singleton, List.take_of_length_le (by rw [List.length_append, List.length_singleton]; omega)]
theorem DrL.keepL {H H' : Hp} {d e : Addr} (h : DrL H d) (k : Keep e H H') (n : d ≠ e) : DrL H' d := let ⟨ds, a, b⟩ := h; ⟨ds, a, k _ _ n b⟩
/-- one more step -/
theorem Lp.step {H H1 H2 H3 : Hp} {d RL W st M M2 a : Addr} {as bs : List Addr} {l : List Nat} {rs : List (List Nat × List Nat)} {qs : List (Nat × Nat)} {q : Nat × Nat} (h : Lp H d RL W st M as l rs qs) (hq : q.1 < rs.length ∧ opP (runP rs (zeroP l) qs) (rs.getD q.1 ([], [])) q.2) (ea : H a = some (.tup [.int q.1, .int q.2]))
    (eS : H st = some (.lst (bs.map V.ref))) (lb : bs.length = (qs.map ci).length) (hbs : ∀ (j : Nat) (a : Addr) (z : Int × Int), bs[j]? = some a → (qs.map ci)[j]? = some z → H a = some (.tup [.int z.1, .int z.2]))
    (e1 : H1 = upd H st (.lst (bs.map V.ref ++ [.ref a]))) (s2 : Same H1 H2) (f2 : H1 M2 = none) (m2 : Prs H2 M2 (runP rs (zeroP l) (qs ++ [q]))) (e3 : H3 = upd H2 W (.lst (as.map V.ref ++ [.ref M2]))) :
    Lp H3 d RL W st M2 (as ++ [M2]) l rs (qs ++ [q]) := by
  obtain ⟨w, pm, ok, nMd, nMW, nMS, nWS, nRW, nRS, nAW, nAS⟩ := h
  have k1 : Keep st H H1 := by rw [e1]; exact Keep.at_
  have k3 : Keep W H2 H3 := by rw [e3]; exact Keep.at_
  have live : ∀ {b : Addr} {o : HO}, b ≠ st → H b = some o → b ≠ M2 := fun {b o} n e z => by
    have := k1 _ _ n e
    rw [z, f2] at this
    cases this
  have dr1 := w.dr.keepL k1 (Ne.symm w.nS)
  have rl1 := w.rl.keep k1 nRS eS
  have rw1 := w.rw_.keep k1 nWS nAS eS
  have eW2 := s2 _ _ rw1.1
  have eSt2 : H2 st = some (.lst (bs.map V.ref ++ [.ref a])) := s2 _ _ (by rw [e1, upd_same])
  have nM2W : M2 ≠ W := Ne.symm (live nWS w.rw_.1)
  have nM2d : M2 ≠ d := Ne.symm (by
    obtain ⟨_, _, e⟩ := w.dr
    exact live (Ne.symm w.nS) e)
  have nM2S : M2 ≠ st := fun z => by rw [z, e1, upd_same] at f2; cases f2
  have tup : ∀ {b : Addr} {vs : List V}, H b = some (.tup vs) → H3 b = some (.tup vs) := fun {b vs} e => by
    have a1 := k1 _ _ (fun z => by rw [z, eS] at e; cases e) e
    have a2 := s2 _ _ a1
    exact k3 _ _ (fun z => by rw [z, eW2] at a2; cases a2) a2
  refine ⟨⟨(dr1.same s2).keepL k3 (Ne.symm w.nW), (rl1.same s2).keep k3 nRW eW2, ?_, ?_, w.nR, w.nW, w.nS, ?_⟩, m2.keep k3 nM2W eW2, okRun_snoc.mpr ⟨ok, hq⟩, nM2d, nM2W, nM2S, nWS, nRW, nRS, ?_, ?_⟩
  · refine ⟨by rw [e3, upd_same, List.map_append]; rfl, by rw [rowsP_snoc, List.length_append, List.length_append, rw1.2.1]; rfl, fun j b ps e1 e2 => ?_⟩
    rw [rowsP_snoc] at e2
    by_cases hj : j < as.length
    · rw [List.getElem?_append_left hj] at e1
      rw [List.getElem?_append_left (by rw [← rw1.2.1]; exact hj)] at e2
      exact ((rw1.2.2 j b ps e1 e2).same s2).keep k3 (nAW b (List.mem_of_getElem? e1)) eW2
    · have hj2 : j = as.length := by
        have := (List.getElem?_eq_some_iff.mp e1).1
        rw [List.length_append, List.length_singleton] at this
        omega
      subst hj2
      rw [List.getElem?_append_right (Nat.le_refl _), Nat.sub_self] at e1
      rw [List.getElem?_append_right (by rw [rw1.2.1]; exact Nat.le_refl _), rw1.2.1, Nat.sub_self] at e2
      cases e1
      cases e2
      exact m2.keep k3 nM2W eW2
  · have st3 : H3 st = some (.lst (bs.map V.ref ++ [a].map V.ref)) := k3 _ _ (Ne.symm nWS) eSt2
    rw [List.map_append]
    refine StI.app st3 lb rfl (fun j a z e1 e2 => tup (hbs j a z e1 e2)) (fun j b z e1 e2 => ?_)
    rcases j with _ | j
    · cases e1
      cases e2
      exact tup ea
    · simp at e1
  · intro b hb
    rcases List.mem_append.mp hb with z | z
    · exact w.nA b z
    · rw [List.mem_singleton.mp z]; exact nM2d
  · intro b hb
    rcases List.mem_append.mp hb with z | z
    · exact nAW b z
    · rw [List.mem_singleton.mp z]; exact nM2W
  · intro b hb
    rcases List.mem_append.mp hb with z | z
    · exact nAS b z
    · rw [List.mem_singleton.mp z]; exact nM2S
theorem eq_st_nil {O Z : Addr} {qs : List (Nat × Nat)} {H : Hp} {Q : VK} (hO : StA H O qs) (hZ : H Z = some (.lst [])) (h : Q (.bl (decide (qs = []))) H) : rEqA K (.ref O) (.ref Z) H Q := eq_st hO (StA.nil hZ) h
def t_pe6 (K : Frg) (E : XK) : TS :=
  (tSeq (tFor (iRng1 (tCons (tCallSD (sp_law_pick K) [] (WE (W0 E)) (tCons (tVar 1) (tCons (tC (.int 13)) tNil))) tNil)) (gName 8) (tSeq (tAsg (tCallSD (sp_law_open_steps K) [] (WE (W0 E)) (tCons (tVar 5) (tCons (tVar 3) tNil))) (gName 13)) (tSeq (tIfS (tTest (tOp (rEqA K) (tVar 13) (tLst tNil))) tBreak tNext) (tSeq (tAsg (tOp (rIx K) (tVar 13) (tCallSD (sp_law_pick K) [] (WE (W0 E)) (tCons (tVar 1) (tCons (tCB (rLenA K) (tCons (tVar 13) tNil)) tNil)))) (gName 14)) (tSeq (tDrop (tBM K "list" rAppend (tVar 7) (tCons (tVar 14) tNil))) (tSeq (tAsg (tCallSD (sp_law_take K) [] (WE (W0 E)) (tCons (tVar 5) (tCons (tOp (rIx K) (tVar 3) (tOp (rIx K) (tVar 14) (tC (.int 0)))) (tCons (tOp (rIx K) (tVar 14) (tC (.int 1))) tNil)))) (gName 5)) (tDrop (tBM K "list" rAppend (tVar 6) (tCons (tVar 5) tNil))))))))) (tSeq (tAsg (tTup (tCons (tC (.str "play")) (tCons (tC (.int 0)) tNil))) (gName 9)) (tSeq (tIfS (tTest (tOp (rEqA K) (tCallSD (sp_law_pick K) [] (WE (W0 E)) (tCons (tVar 1) (tCons (tC (.int 3)) tNil))) (tC (.int 1)))) (tSeq (tAsg (tCallSD (sp_law_bad_step K) [] (WE (W0 E)) (tCons (tVar 1) (tCons (tVar 5) (tCons (tVar 3) tNil)))) (gName 15)) (tIfS (tTest (tOp (rNotInD K) (tVar 15) (tCallSD (sp_law_open_steps K) [] (WE (W0 E)) (tCons (tVar 5) (tCons (tVar 3) tNil))))) (tSeq (tAsg (tTup (tCons (tC (.str "step")) (tCons (tCB (rLenA K) (tCons (tVar 7) tNil)) tNil))) (gName 9)) (tAsg (tOp rAddA (tVar 7) (tLst (tCons (tVar 15) (tCons (tTup (tCons (tC (.int 0)) (tCons (tC (.int 0)) tNil))) tNil)))) (gName 7))) tNext)) tNext) (tSeq (tIfS (tTest (tOp (rEqA K) (tCallSD (sp_law_pick K) [] (WE (W0 E)) (tCons (tVar 1) (tCons (tC (.int 8)) tNil))) (tC (.int 3)))) (tSeq (tAsg (tCallSD (sp_law_pick K) [] (WE (W0 E)) (tCons (tVar 1) (tCons (tOp rAddA (tCB (rLenA K) (tCons (tVar 4) tNil)) (tC (.int 1))) tNil))) (gName 16)) (tSeq (tAsg (tOp rAddA (tOp rAddA (tSl (rSlA K) (tVar 4) tNoPart (tPart (tVar 16))) (tCallSD (sp_law_odd_sign K) [] (WE (W0 E)) (tCons (tVar 1) tNil))) (tSl (rSlA K) (tVar 4) (tPart (tVar 16)) tNoPart)) (gName 4)) (tAsg (tTup (tCons (tC (.str "sign")) (tCons (tVar 16) tNil))) (gName 9)))) tNext) (tSeq (tAsg (tCMS (He.ga K "Book") (sp_Book_read K) (WE (W0 E)) (tC (.ref (He.ga K "Book"))) (tCons (tCallSD (sp_law_lines_of K) [] (WE (W0 E)) (tCons (tVar 3) tNil)) tNil)) (gName 10)) (tSeq (tAsg (tCB (rListA K) (tCons (tVar 7) tNil)) (gName 11)) (tSeq (tAsg (tCallSD (sp_law_try_make K) [] (WE (W0 E)) (tCons (tVar 10) (tCons (tVar 4) (tCons (tVar 11) tNil)))) (gName 12)) (tSeq (tIfS (tOr (tTest (tOp (rNeA K) (tOp (rIx K) (tVar 12) (tC (.int 0))) (tOp (rIx K) (tVar 9) (tC (.int 0))))) (tOr (tTest (tOp (rNeA K) (tVar 11) (tVar 7))) (tTest (tOp (rNeA K) (tMethZ (He.ga K "Book") "written" (sp_Book_written K) [] (WE (W0 E)) (tVar 10) tNil) (tCallSD (sp_law_lines_of K) [] (WE (W0 E)) (tCons (tVar 3) tNil)))))) (tRet (tC (.bl false))) tNext) (tSeq (tIfS (tTest (tOp (rNeA K) (tOp (rIx K) (tVar 9) (tC (.int 0))) (tC (.str "play")))) (tRet (tAndV (tCallSD (sp_law_is_int K) [] (WE (W0 E)) (tCons (tOp (rIx K) (tVar 12) (tC (.int 1))) tNil)) (tOp (rEqA K) (tOp (rIx K) (tVar 12) (tC (.int 1))) (tOp (rIx K) (tVar 9) (tC (.int 1)))))) tNext) (tSeq (tDrop (tBM K "list" rInsertA (tVar 11) (tCons (tC (.int 0)) (tCons (tTup (tCons (tC (.int 0)) (tCons (tC (.int 0)) tNil))) tNil)))) (tSeq (tIfS (tTest (tOp (rNeA K) (tVar 3) (tLst tNil))) (tDrop (tMethZ (He.ga K "Book") "drop" (sp_Book_drop K) [] (WE (W0 E)) (tVar 10) (tCons (tC (.int 0)) tNil))) tNext) (tRet (tAndV (tCallSD (sp_law_fine K) [] (WE (W0 E)) (tCons (tOp (rIx K) (tVar 12) (tC (.int 1))) (tCons (tVar 4) (tCons (tVar 7) (tCons (tVar 6) tNil))))) (tCallSD (sp_law_fine K) [] (WE (W0 E)) (tCons (tOp (rIx K) (tVar 12) (tC (.int 1))) (tCons (tVar 4) (tCons (tVar 7) (tCons (tVar 6) tNil))))))))))))))))))
theorem pe6_ok {P : Program} {mg : Str → Option Value} (T : Txt P K mg) {v0 v2 v17 : Option V} {d RL W st M : Addr} {as : List Addr} {l : List Nat} {rs : List (List Nat × List Nat)} {H : Hp} {D : Ends} {E : XK}
    (hl : l.length ≤ 50) (okl : ∀ c ∈ l, c ∈ letters) (okr : OkRs rs) (hr : rs.length ≤ 6) (w : Lp H d RL W st M as l rs []) (h : ∀ H', D.rt (.bl true) H') :
    t_pe6 K E D [v0, some (.ref d), v2, some (.ref RL), some (.str (tx l)), some (.ref M), some (.ref W), some (.ref st), none, none, none, none, none, none, none, none, none, v17] H := by
  unfold t_pe6
  have okz : Okp (zeroP l) := zeroP_ok okl
  walk_at "sq"
  walk_at "st"
  refine pick_ok (by decide) w.w.dr fun n H1 n0 n1 k1 d1 => ?_
  have w1 := w.keep k1 d1
  walk_at "st"
  refine ⟨n, rfl, by omega, by omega, ?_⟩
  have fin : ∀ {v8 v13 v14 : Option V} {M : Addr} {as : List Addr} {qs : List (Nat × Nat)} {H2 : Hp}, qs.length ≤ 50 → Lp H2 d RL W st M as l rs qs →
      t_pe5 K E D [v0, some (.ref d), v2, some (.ref RL), some (.str (tx l)), some (.ref M), some (.ref W), some (.ref st), v8, none, none, none, none, v13, v14, none, none, v17] H2 := fun hq w => pe5_ok T hl okl okr hr hq w.ok w.w w.pm w.nMd h
  refine forR (n := n) (fun i σ H2 => ∃ (v8 v13 v14 : Option V) (M : Addr) (as : List Addr) (qs : List (Nat × Nat)), σ = [v0, some (.ref d), v2, some (.ref RL), some (.str (tx l)), some (.ref M), some (.ref W), some (.ref st), v8, none, none, none, none, v13, v14, none, none, v17] ∧ qs.length ≤ i ∧ Lp H2 d RL W st M as l rs qs)
    ⟨none, none, none, M, as, [], rfl, Nat.zero_le _, w1⟩ ?_ ?_
  · rintro i σ H2 hi ⟨v8, v13, v14, M, as, qs, rfl, hq, w2⟩
    obtain ⟨okq, lq⟩ := run_ok okr okz w2.ok
    rw [zeroP_len] at lq
    walk_at "st"
    walk_at "sq"
    walk_at "st"
    refine open_steps_ok (by omega) okr hr w2.pm w2.w.rl fun O H3 s3 fO hO => ?_
    have w3 := w2.same s3
    walk_at "st"
    walk_at "sq"
    walk_at "st"
    intro Z hZ
    have sZ := Same.new (o := .lst []) hZ
    have eZ : upd H3 Z (.lst []) Z = some (.lst []) := upd_same
    generalize upd H3 Z (.lst []) = H4 at sZ eZ ⊢
    have w4 := w3.same sZ
    have hO4 := hO.same sZ
    refine eq_st_nil hO4 eZ ?_
    walk_at "st"
    by_cases c : opTo (runP rs (zeroP l) qs) rs (runP rs (zeroP l) qs).length = []
    · refine rd_iteB (decide_eq_true c) ?_
      walk_at "st"
      exact fin (by omega) w4
    · refine rd_iteC (decide_eq_false c) ?_
      walk_at "st"
      walk_at "sq"
      walk_at "st"
      obtain ⟨ys, eO, os, rfl, lo, ho⟩ := id hO4
      refine lenA_lst (.of eO) ?_
      rw [List.length_map, lo]
      have lp : 0 < (opTo (runP rs (zeroP l) qs) rs (runP rs (zeroP l) qs).length).length := List.length_pos_iff.mpr c
      walk_at "st"
      refine pick_ok (by omega) w4.w.dr fun j0 H5 j00 j01 k5 d5 => ?_
      obtain ⟨j, rfl⟩ : ∃ j : Nat, j0 = j := ⟨j0.toNat, by omega⟩
      have w5 := w4.keep k5 d5
      have nOd : O ≠ d := w2.w.dr.ne fO
      have hO5 := hO4.keepD k5 nOd w4.w.dr
      have hj : j < (opTo (runP rs (zeroP l) qs) rs (runP rs (zeroP l) qs).length).length := by omega
      obtain ⟨ys5, a, eO5, _, eat, ea⟩ := hO5.get hj
      generalize eq0 : (opTo (runP rs (zeroP l) qs) rs (runP rs (zeroP l) qs).length)[j] = q at ea
      have mq := opTo_mem.mp (eq0 ▸ List.getElem_mem hj)
      walk_at "st"
      refine ixA_lst (.of eO5) eat ?_
      walk_at "st"
      walk_at "sq"
      walk_at "st"
      obtain ⟨bs, eS, lb, hbs⟩ := id w5.w.stp
      refine ⟨tyL eS, ?_⟩
      walk_at "st"
      refine append_go eS (by rw [List.length_map, lb, List.length_map]; omega) ?_
      have k6 : Keep st H5 (upd H5 st (.lst (bs.map V.ref ++ [.ref a]))) := Keep.at_
      have rl6 := w5.w.rl.keep k6 w5.nRS eS
      have pm6 := w5.pm.keep k6 w5.nMS eS
      have ea6 := k6 _ _ (fun z => by rw [z, eS] at ea; cases ea) ea
      have rw6 := w5.w.rw_.keep k6 w5.nWS w5.nAS eS
      generalize e6 : upd H5 st (.lst (bs.map V.ref ++ [.ref a])) = H6 at k6 rl6 pm6 ea6 rw6 ⊢
      walk_at "st"
      walk_at "sq"
      walk_at "st"
      refine ixA_tup (SqT.of ea6) (v := .int q.1) rfl ?_
      walk_at "st"
      obtain ⟨rsA, ra, eR, _, rat, era⟩ := rl6.at_ mq.2.1
      refine ixA_lst (.of eR) rat ?_
      walk_at "st"
      refine ixA_tup (SqT.of ea6) (v := .int q.2) rfl ?_
      walk_at "st"
      have okq1 := okr.get mq.2.1
      have gd : rs.getD q.1 ([], []) = rs[q.1] := by simp [List.getD, List.getElem?_eq_getElem mq.2.1]
      have op := mq.2.2
      rw [gd] at op
      refine take_ok (by omega) okq1.1.1 okq1.1.2.1 okq1.1.2.2 pm6 era (fun nf => absurd op.1 nf) fun _ M2 H7 s7 f7 p7 => ?_
      walk_at "st"
      refine ⟨tyL (s7 _ _ rw6.1), ?_⟩
      walk_at "st"
      refine append_go (s7 _ _ rw6.1) (by rw [List.length_map, rw6.2.1, rowsP_len]; omega) ?_
      walk_at "st"
      refine ⟨_, _, _, M2, as ++ [M2], qs ++ [q], rfl, by rw [List.length_append, List.length_singleton]; omega, ?_⟩
      exact w5.step ⟨mq.2.1, mq.2.2⟩ ea eS lb hbs e6.symm s7 f7 (by rw [runP_snoc, gd]; exact p7) rfl
  · rintro σ H2 ⟨v8, v13, v14, M, as, qs, rfl, hq, w2⟩
    walk_at "st"
    exact fin (by omega) w2
theorem law_ok {P : Program} {mg : Str → Option Value} (T : Txt P K mg) {a : Addr} {ns : List Int} {H : Hp} {Q : VK} {E : XK} (hS : SqL K H a (ns.map V.int)) (hn : ns.length ≤ 63) (h : ∀ H', Q (.bl true) H') : sp_law K [.ref a] H Q E := by
  refine ⟨rfl, ?_⟩
  unfold t_law
  walk_at "sq"
  walk_at "st"
  refine pool_ok hS hn fun d H1 _ _ d1 => ?_
  walk_at "st"
  walk_at "sq"
  walk_at "st"
  refine alphabet_ok (by decide) (by decide) d1 fun sg H2 sl sok _ _ d2 => ?_
  have sl : sg.length = 3 := sl
  walk_at "st"
  walk_at "sq"
  walk_at "st"
  refine book_of_ok sl sok d2 fun rs RL H3 okr hl _ nR hR _ d3 => ?_
  walk_at "st"
  walk_at "sq"
  walk_at "st"
  have scs : (tx sg).cps.toList = sg := by simp [tx]
  refine word_ok (by rw [tx_len]; omega) (by rw [tx_len]; omega) (by decide) (by decide) (by decide) d3 fun t H4 to _ t6 k4 d4 => ?_
  rw [scs] at to
  have tok : ∀ c ∈ t, c ∈ letters := fun c hc => sok c (to c hc)
  have hR4 := hR.keepD k4 nR d3
  walk_at "st"
  walk_at "sq"
  walk_at "st"
  refine ⟨_, rfl, ?_⟩
  intro N hN
  refine lc_it (walk_str (z := tx t)) (fun i H5 => Same H4 H5 ∧ Prs H5 N (zeroP (t.take i))) ⟨Same.new hN, [], upd_same, rfl, fun j a q e => by simp at e⟩ (fun _ _ _ _ => trivial) ?_ ?_
  · rintro i x H5 H6 hi ⟨s5, hP⟩ ⟨rfl, c2, hc, rfl⟩
    rw [tx_get] at hc
    obtain ⟨hi2, ec⟩ := List.getElem?_eq_some_iff.mp hc
    walk_at "go"
    refine ⟨rfl, ?_⟩
    walk_at "go"
    intro Tp hT
    have sT := Same.new (o := .tup [.str (tx [c2]), .int 0]) hT
    obtain ⟨as, eN, la, ha⟩ := hP.same sT
    refine ⟨as.map V.ref, eN, by rw [List.length_map, sizeLine_eq, la, zeroP_len, List.length_take]; omega, fun b o e => ?_, ?_⟩
    · rw [upd_ne (ne_of_none e hN)]
      exact sT _ _ (s5 _ _ e)
    · rw [List.take_succ_eq_append_getElem hi2, ec, show zeroP (t.take i ++ [c2]) = zeroP (t.take i) ++ [(c2, 0)] from List.map_append]
      exact Prs.push eN la ha upd_same
  · rintro H5 ⟨s5, hP⟩
    have ez : (tx t).cps.size = t.length := tx_len t
    rw [ez, List.take_length] at hP
    have nNd := d4.ne hN
    walk_at "st"
    walk_at "sq"
    walk_at "st"
    intro W hW
    have sW := Same.new (o := .lst [.ref N]) hW
    have eW : upd H5 W (.lst [.ref N]) W = some (.lst ([N].map V.ref)) := upd_same
    generalize upd H5 W (.lst [.ref N]) = H6 at sW eW ⊢
    have nWN : N ≠ W := ne_of_none hP.choose_spec.1 hW
    walk_at "st"
    walk_at "sq"
    walk_at "st"
    intro st hst
    have sS := Same.new (o := .lst []) hst
    have eS : upd H6 st (.lst []) st = some (.lst []) := upd_same
    generalize upd H6 st (.lst []) = H7 at sS eS ⊢
    have s57 := sW.trans sS
    have s47 := s5.trans s57
    have d6 := (d4.same s5).same sW
    have rl7 := hR4.same s47
    have eR5 := (hR4.same s5).choose_spec.1
    walk_at "st"
    refine pe6_ok T (M := N) (as := [N]) (by omega) tok okr hl ⟨⟨d4.same s47, rl7, ⟨sS _ _ eW, rfl, fun j b ps e1 e2 => ?_⟩, StI.nil eS, nR, (d4.same s5).ne hW, d6.ne hst, fun b hb => ?_⟩, hP.same s57, trivial, nNd, nWN, ne_of_none (hP.same sW).choose_spec.1 hst, ne_of_none eW hst, ne_of_none eR5 hW, ne_of_none (sW _ _ eR5) hst, fun b hb => ?_, fun b hb => ?_⟩ h
    · rcases j with _ | j
      · cases e1
        cases e2
        exact hP.same s57
      · simp at e1
    · rw [List.mem_singleton.mp hb]; exact nNd
    · rw [List.mem_singleton.mp hb]; exact nWN
    · rw [List.mem_singleton.mp hb]; exact ne_of_none (hP.same sW).choose_spec.1 hst
end Lw
namespace Lw
open PySem PySem.Spec PyProof.Rows L2
theorem law_binds {K : Frg} {f : Addr} {fd : FuncData} (F : FunD K "law" "law" (defArgs s_law) (defBody s_law) (defScope s_law) [] [] f fd) (s : Shared) (v : Value) : BindsTo s fd ⟨[v], []⟩ [("_law_script", v)] :=
  FunD.bindsA (ps := ["_law_script"]) F (fun _ _ _ _ _ _ us hl => match us, hl with | [_], _ => rfl) s [v] rfl
theorem given (w : World) (mg : PySem.Str → Option Value) (f : Addr) (h : Heap) (Y : ∃ K : Frg, K.In h ∧ Rz.SaysR fa fn K) (G : h.Ns mainGlobals mg) (e : mg "law" = some (.ref f)) : Rz.Given PySem.Challenge.rw_risensigns_k18_play_walked 63 10 "_law_script" w mg f h := by
  obtain ⟨K, KX, c⟩ := Y
  have T : Txt PROG K mg := txt_of KX G c
  have e2 := e.symm.trans T.g_law
  cases e2
  obtain ⟨fd, _, F⟩ := ok_law (w := w) (base := h) T
  refine ⟨K, fd, sp_law K, KX, law_binds F, fun H a ns hl hS => law_ok T hS hl fun _ => rfl, fun base _ _ => ?_⟩
  obtain ⟨fd2, G2, F2⟩ := ok_law (w := w) (base := base) T
  cases Rz.fd_one F F2
  exact G2
end Lw
open PySem PySem.W PySem.Calls PyProof.Rows
theorem PySem.Challenge.cw_risensigns_k18_play_walked_holds : PySem.Challenge.rw_risensigns_k18_play_walked.Holds := by
  w_on; o_law
  refine HandSHeadRun.head_any (r := OpenLaw.row PySem.Challenge.rw_risensigns_k18_play_walked) (q := view (OpenLaw.row PySem.Challenge.rw_risensigns_k18_play_walked).prog [46]) (H := Lw.hk) (ob := Lw.ob) (M := 20000) (loose := Lw.loose) (d := HandSHeadRun.topDef (OpenLaw.row PySem.Challenge.rw_risensigns_k18_play_walked).prog 46) (kwd := []) Lw.ob_eq
    (by kernel_rfl) (fun s => by kernel_rfl) Lw.run (by kernel_rfl) (by kernel_rfl) (by kernel_rfl) (by rfl) (by first | assumption | decide +kernel) (by decide +kernel) ⟨rfl, rfl, rfl, rfl, rfl, by decide +kernel⟩ ?hw ?hc
  case hw => w_witness2
  case hc =>
    refine Rz.endX (l := PySem.Challenge.rw_risensigns_k18_play_walked) (n := 63) (k := 10) (x := "_law_script") rfl (by decide) (by kernel_rfl) ⟨rfl, by decide, by decide⟩ ?F
    intro w mg fa h Y G hmg0
    refine Lw.given w mg fa h Y G ?_
    have e : (HandSHeadRun.topDef (OpenLaw.row PySem.Challenge.rw_risensigns_k18_play_walked).prog 46).name = ("law" : PySem.Str) := by kernel_rfl
    rw [← e]
    exact hmg0
