import PyProof.Rows.All
import Wide.All
import OpenK.AllK
import Wide.FinOn
import KE.KStateDown
import KE.KExcSuper
import HandS.ForMost
import HandS.ForExc
import HandS.ExcInit
import HandS.ExcSuper
import KE.GoesEnum
import KE.GoesMore
import HandS.CallSlots
import HandS.Defaults
import HandS.IsInst
import HandS.Wide
import HandS.Walk
import HandS.Flow
import KE.KCallOwn
import HandS.Property
import HandS.ExcField
import HandS.HeadHook2
import HandS.Head0
import HandS.Head1
import HandS.Head2
import HandS.HeadEnd
import HandS.FStr
import KE.GoesZip
import KE.KDictZip
import KE.KItemsList
import HandS.ListItems
import KE.KOpsOwn
import KE.KOwnIter
import HandS.IterNext
import HandS.OwnEq
import HandS.Codes
import HandS.More
import KE.KIsAll
import HandS.Base
import HandS.Call
import HandS.Ends
import HandS.ExcCtx
import KE.KStar
import HandS.Star
import HandS.ClsMeth
import HandS.OwnIter
import HandS.Text
import PyProof.ToksMono
import HandS.List
import HandS.Replace
import HandS.ReplaceList
import PyProof.GenRules
import HandS.GenBody
import HandS.GenYield
import HandS.GenCall
import HandS.GenList
import HandS.Hot
import HandS.SuiteRaise
import HandS.RaiseFrom
import KE.KStrBytes
import KE.KBytesDec
import HandS.Bytes
import HandS.ReplaceLit
import PySem.Challenge.RW_risensigns_k10_book_read
set_option Elab.async false
set_option linter.all false
set_option maxRecDepth 100000
set_option maxHeartbeats 0
/-! Exceptions of the program: class X(..own.., ValueError) whose __init__ says super().__init__(text) and then stores at most one field. -/
namespace Rz
open PySem PySem.W PySem.Calls PyProof.Rows PySem.HandSPX

/-- the text of an __init__: super().__init__('..'); self.f = g -/
def exBody1 (msg f g : Str) (j : Nat) (p0 p1 p2 p3 p4 p5 q0 q1 q2 q3 : Pos) : List Stmt :=
  [.Expr (.Call (.Attribute (.Call (.Name "super" p0) [] [] p1) "__init__" p2) [.Constant (.str msg) j p3] [] p4) p5,
   .Assign [.Attribute (.Name "self" q0) f q1] (.Name g q2) q3]
def exBody0 (msg : Str) (j : Nat) (p0 p1 p2 p3 p4 p5 : Pos) : List Stmt :=
  [.Expr (.Call (.Attribute (.Call (.Name "super" p0) [] [] p1) "__init__" p2) [.Constant (.str msg) j p3] [] p4) p5]

/-- what the written part says of an exception class at C (whatever its __init__ is) -/
structure ExC (K : Frag) (C : Addr) : Prop where
  cls : ∃ nm q N bs bm sn sub ab col dd k0 k1 k2 k3 k5, K.lookup C = some (excClassObj nm q C N bs bm true sn sub ab col dd k0 k1 k2 k3 k5 "ValueError.__new__") ∧ refsVE bm = true
  sa : findIn K (.ref C) "__setattr__" = some (some (.builtin "object.__setattr__"))
  kC : keepIn K (.ref C) = true
  exC : subIn K (.ref C) (.type "BaseException") = some true
  veC : subIn K (.ref C) (.type "ValueError") = some true
  tyC : typeIn K (.ref C) = some (.type "type")
  op : nsIn K cStatics "thirdparty.any" = some none

/-- its own __init__ at fI, with the cell cc of __class__ and the code object cda -/
structure ExF (P : Program) (K : Frag) (C fI cc cda : Addr) (params : Arguments) (body : List Stmt) (scope : Scope) : Prop where
  iC : findIn K (.ref C) "__init__" = some (some (.ref fI))
  tI : typeIn K (.ref fI) = some (.type "function")
  fn : ∃ (oc : Value) (od : Option Addr) (name qual : Str) (kV doc pm ct : Value) (an : Option Addr) (osl : Array (Option Value)),
    K.lookup fI = some ⟨oc, od, .func (fnX name qual params body scope [("__class__", cc)] .none kV doc pm an (.ref cda) ct), osl⟩ ∧ codeIn K (.ref cda) qual = true
  code : ∃ (ccl : Value) (cdd : Option Addr) (vs : Array Value) (ccs : Array (Option Value)) (file : Str) (tf : Tok),
    K.lookup cda = some ⟨ccl, cdd, .fields vs, ccs⟩ ∧ vs[2]? = some (.str file tf) ∧ ((P.main.file : Str) == file) = true
  cell : ∃ (cl : Value) (cld : Option Addr) (csl : Array (Option Value)), K.lookup cc = some ⟨cl, cld, .cell (some (.ref C)), csl⟩
  sup : ks_superIn K C C "__init__" = some (some (.builtin "ValueError.__init__"))
  top : (P.main.scope.names.lookup ("super" : Str)).isSome = false

def SupOk (scope : Scope) (cc cda fI : Addr) (msg : Str) (j : Nat) (p0 p1 p2 p3 p4 p5 : Pos) : Prop := ∀ (qual : Str) (L : Addr), ∃ pl : Sem Bool,
  swapsWith (.Call (.Attribute (.Call (.Name "super" p0) [] [] p1) "__init__" p2) [.Constant (.str msg) j p3] [] p4) none p5.line (envX qual scope L fI (.ref cda) [("__class__", cc)]) = pure false ∧
  eval (.Call (.Attribute (.Call (.Name "super" p0) [] [] p1) "__init__" p2) [.Constant (.str msg) j p3] [] p4) (envX qual scope L fI (.ref cda) [("__class__", cc)]) = (do
      let ov ← attributeBase (.Call (.Name "super" p0) [] [] p1) "__init__" (envX qual scope L fI (.ref cda) [("__class__", cc)]) (eval (.Call (.Name "super" p0) [] [] p1) (envX qual scope L fI (.ref cda) [("__class__", cc)]))
      standAt p2.atName
      let (f, first) ← holding [ov] (getMethod ov "__init__" pl)
      callWith p4 f first (backTo p4 (starEach [.Constant (.str msg) j p3] (envX qual scope L fI (.ref cda) [("__class__", cc)]))) [])

theorem kept_but {K : Frag} {h h' : Heap} {x : Addr} (X : K.In h) (hx : K.lookup x = none) (k : ∀ b o, b ≠ x → h.get? b = some o → h'.get? b = some o) : K.In h' := fun a o e =>
  k a o (fun z => by rw [z, hx] at e; cases e) (X a o e)

section
variable {prog : Program} {w : World} {A : Around} {E : Value → Shared → Prop} {R : Result → Shared → Prop} {h : Heap} {g : Array GenState} {d : Drawn} {t : Nat} {os : OsState}
variable {nm q : Str} {C N : Addr} {bs bm : List Value} {hdct : Bool} {sn : List Str} {sub : List Value} {ab : Bool} {col : Option Bool} {dd : Option Addr} {k0 k1 k2 k3 k5 : Option Value}
/-- the bound ValueError.__init__ is called -/
theorem call_mw {u e t0 : Addr} {rest : List Value} {Q : Value → Shared → Prop}
    (hC : h.get? C = some (excClassObj nm q C N bs bm hdct sn sub ab col dd k0 k1 k2 k3 k5 "ValueError.__new__")) (he : h.get? e = some (excO C t0)) (hu : h.get? u = some (kxs_mw "ValueError.__init__" e)) (hrest : rest.length ≤ sizeLine)
    (hq : ∀ h' t1, (∀ b o, b ≠ e → h.get? b = some o → h'.get? b = some o) → h'.get? e = some (excO C t1) → Q .none ⟨h', g, d, t, os⟩) :
    wpAny (model prog w) A (call (.ref u) rest) Q E ⟨h, g, d, t, os⟩ := by
  refine wpAny_call (codeAny_of_tree ?_)
  show wpAny _ A.in1 (callAny (.ref u) ⟨rest, []⟩) _ _ _
  simp only [callAny]
  refine wpAny_bind (wpAny_load hu ?_)
  simp only [kxs_mw, show (Value.type "method-wrapper" == Value.type "method" || Value.type "method-wrapper" == Value.type "builtin_function_or_method" || Value.type "method-wrapper" == Value.type "method-wrapper") = true by decide, if_true]
  refine KFB.if_so (by decide) ?_
  refine wpAny_bind (check_bound_init F.excBase_ValueError.toExcCallFacts hC he rfl ?_)
  refine wpAny_bind (wpAny_pure (wpAny_pure ?_))
  refine ⟨plainId_quiet F.excBase_ValueError.init.plain _, codeAny_builtin F.excBase_ValueError.initEntry ?_⟩
  rw [Around.under_plainId F.excBase_ValueError.init.plain _]
  wp_walk
  refine hq _ h.objs.size (fun b o hb ho => ?_) ?_
  · rw [Heap.get?_update_other _ _ (Ne.symm hb)]
    exact Heap.get?_push_of_some _ ho
  · rw [Heap.get?_update_self _ (Heap.get?_push_of_some _ he) rfl]
    rfl
end

section
variable {prog : Program} {w : World} {A : Around} {E : Value → Shared → Prop} {R : Result → Shared → Prop} {s : Shared} {K : Frag} {mg : Str → Option Value} {C fI cc cda : Addr} {params : Arguments} {body : List Stmt} {scope : Scope}
/-- the statement super().__init__('..') -/
theorem sup_stmt {bodyT : List Stmt} {qual msg : Str} {j : Nat} {p0 p1 p2 p3 p4 p5 : Pos} {L x t0 : Addr} {m : Str → Option Value} {a0 : Arg} {Q : Flow → Shared → Prop} (T0 : ExC K C) (T : ExF prog K C fI cc cda params body scope)
    (X : K.In s.heap) (hg : s.heap.Ns mainGlobals mg) (hgs : mg "super" = none) (hb : ∃ mb, s.heap.Ns builtinsNs mb ∧ mb "super" = some (.type "super")) (hL : s.heap.Ns L m) (hself : m "self" = some (.ref x)) (hx : s.heap.get? x = some (excO C t0))
    (hk : scope.kind = .function) (hks : scope.names.lookup ("super" : Str) = some .globalImplicit) (hkc : scope.names.lookup ("__class__" : Str) = some .free) (hka : scope.names.lookup ("self" : Str) = some .local)
    (hp : (params.posonlyargs ++ params.args).head? = some a0) (ha0 : a0.arg = "self")
    (hev : SupOk scope cc cda fI msg j p0 p1 p2 p3 p4 p5)
    (hi : interactive (envX qual scope L fI (.ref cda) [("__class__", cc)]) = false)
    (hq : ∀ h' tk t1, (∀ b o, b ≠ x → s.heap.get? b = some o → h'.get? b = some o) → h'.get? x = some (excO C t1) → Q .next { s with heap := h', toks := tk }) :
    _root_.PySem.wpAt (model prog w) A (.func bodyT (envX qual scope L fI (.ref cda) [("__class__", cc)])) (exec (.Expr (.Call (.Attribute (.Call (.Name "super" p0) [] [] p1) "__init__" p2) [.Constant (.str msg) j p3] [] p4) p5) (envX qual scope L fI (.ref cda) [("__class__", cc)])) Q E s := by
  obtain ⟨oc, od, name, qu, kV, doc, pm, ct, an, osl, hf, hcd⟩ := T.fn
  obtain ⟨ccl, cdd, vs, ccs, file, tf, hcode, hvs, hfile⟩ := T.code
  obtain ⟨cl, cld, csl, hcell⟩ := T.cell
  obtain ⟨nm, q, N, bs, bm, sn, sub, ab, col, dd, k0, k1, k2, k3, k5, hC, hbm⟩ := T0.cls
  obtain ⟨mb, hmb, hmbs⟩ := hb
  obtain ⟨hh, g, d, t, os⟩ := s
  obtain ⟨pl, hsw, hev⟩ := hev qual L
  refine ks_wpAt_Expr_any ?_ hi hsw
  refine ks_wpAt_MethodCall (pl := pl) ?_ hev
  refine ks_wpAt_super_base (env := envX qual scope L fI (.ref cda) [("__class__", cc)]) hks hkc rfl rfl (X _ _ hf) rfl hp rfl (X _ _ hcode) rfl hvs hfile T.top ?_
  refine ks_loadName_global hk hks (loadGlobal_builtin (env := envX qual scope L fI (.ref cda) [("__class__", cc)]) hg hgs hmb hmbs ⟨rfl, ?_⟩)
  refine wpAny_loadName_free hk hkc rfl ⟨_, X _ _ hcell, rfl⟩ ?_
  rw [ha0]
  refine wpAny_loadName_local hk hka hL hself ?_
  have hC1 := X _ _ hC
  refine ks_wpAny_isType_cls hC1 rfl ⟨rfl, ?_⟩
  have hcl : clsIn K C = some { name := nm, bases := bs, mro := .ref C :: bm, ns := N, qualname := q, hasDict := true, slotNames := sn, subclasses := sub, abstract := ab, collection := col, hasDel := false } := by unfold clsIn; rw [hC] <;> rfl
  have hmro : mroIn K C (.ref C) = some true := by
    unfold mroIn
    rw [hcl]
    show (if List.isEmpty (Value.ref C :: bm) = true then none else some (List.contains (Value.ref C :: bm) (Value.ref C))) = some true
    rw [if_neg (by simp)]
    simp
  refine ks_wpAny_call_super (ox := excO C t0) hC1 rfl hx rfl (fun c e => by cases e) (looks_mroIn X hmro) (fun h' e k => ?_)
  -- the method
  have X' : K.In h' := X.keeps k
  have hx' := k _ _ hx
  have I' : InstAt h' x (excO C t0) C none := ⟨hx', rfl, rfl, trivial⟩
  have hI : Looks (model prog w) h' (isInstance (.ref x) (.type "ValueError")) true := I'.type.andThen (looks_subIn X' T0.veC)
  have hsup := T.sup
  unfold ks_superIn at hsup
  rw [hcl] at hsup
  refine kxs_getMethod kxs_ValueError e (looks_opaque X' T0.op) (l₀ := .ref C :: bm) (fun A Q E s k q => wpAny_bind ((looks_clsIn X' hcl) A _ E s k (wpAny_pure q))) rfl X' hsup hI (ks_ne X' I' hcl) (by decide) ?_
  have k2 : ∀ b o, hh.get? b = some o → (h'.push (kxs_mw "ValueError.__init__" x)).get? b = some o := fun b o z => Heap.get?_push_of_some _ (k b o z)
  have hst : starEach [.Constant (.str msg) j p3] (envX qual scope L fI (.ref cda) [("__class__", cc)]) = (false, eval (.Constant (.str msg) j p3) (envX qual scope L fI (.ref cda) [("__class__", cc)])) :: [] := rfl
  show wpAny _ _ (callWith p4 (.ref h'.objs.size) [] (backTo p4 (starEach [.Constant (.str msg) j p3] (envX qual scope L fI (.ref cda) [("__class__", cc)]))) []) _ _ _
  rw [hst]
  refine kxs_callWith (i := "ValueError.__init__") (x := x) (by rfl) ?_
  refine evalArgs_plain ?_
  show wpAny _ _ (spliced ((false, eval (.Constant (.str msg) j p3) _) :: [])) _ _ _
  refine Calls.spliced_cons (Calls.Constant_str (Calls.spliced_nil ⟨Heap.get?_push_at rfl rfl, ?_⟩))
  exact call_mw (k2 _ _ hC1) (k2 _ _ hx) (Heap.get?_push_at rfl rfl) (by show 1 ≤ sizeLine; rw [sizeLine_eq]; decide) (fun h2 t1 k3 hx2 => hq h2 _ t1 (fun b o hb z => k3 b o hb (k2 b o z)) hx2)
end

/-- what __init__ leaves of a fresh exception at x -/
structure InitEnd (h h' : Heap) (x C dx t1 : Addr) (f : Str) (v : Value) : Prop where
  keep : ∀ b o, b ≠ x → h.get? b = some o → h'.get? b = some o
  obj : h'.get? x = some { cls := .ref C, dict := some dx, data := .fields #[.ref t1, .none, .none, .none, .bool false, .none] }
  dbig : h.objs.size ≤ dx
  dne : dx ≠ x
  ns : h'.Ns1 dx (fun y => if y = f then some v else none)
structure InitEnd0 (h h' : Heap) (x C t1 : Addr) : Prop where
  keep : ∀ b o, b ≠ x → h.get? b = some o → h'.get? b = some o
  obj : h'.get? x = some { cls := .ref C, data := .fields #[.ref t1, .none, .none, .none, .bool false, .none] }
/-- the globals that an __init__ looks at -/
structure Gls (h : Heap) (mg : Str → Option Value) : Prop where
  g : h.Ns mainGlobals mg
  s : mg "super" = none
  b : ∃ mb, h.Ns builtinsNs mb ∧ mb "super" = some (.type "super")
theorem Gls.keeps {h h' : Heap} {mg : Str → Option Value} (G : Gls h mg) (k : ∀ b o, h.get? b = some o → h'.get? b = some o) : Gls h' mg := ⟨G.g.keeps k, G.s, let ⟨mb, a, b⟩ := G.b; ⟨mb, a.keeps k, b⟩⟩
/-- the scope's and parameters' facts -/
structure ScB (scope : Scope) (params : Arguments) : Prop where
  hk : scope.kind = .function
  hks : scope.names.lookup ("super" : Str) = some .globalImplicit
  hkc : scope.names.lookup ("__class__" : Str) = some .free
  hka : scope.names.lookup ("self" : Str) = some .local
  hp : ∃ a0, (params.posonlyargs ++ params.args).head? = some a0 ∧ a0.arg = "self"
  hcell : ∀ x ∈ scope.names, x.2 ≠ .cell
structure ScI (scope : Scope) (params : Arguments) (g : Str) : Prop extends ScB scope params where
  hkg : scope.names.lookup g = some .local
  hgs : ("self" : Str) ≠ g
  hgd : (g == ("__debug__" : Str)) = false
section
variable {prog : Program} {w : World} {A : Around} {E : Value → Shared → Prop} {R : Result → Shared → Prop} {s : Shared} {K : Frag} {mg : Str → Option Value} {C fI cc cda : Addr} {params : Arguments} {scope : Scope}
theorem ldX {M : Model} {env : Env} {m : Str → Option Value} {x : Str} {pos : Pos} {v : Value} {Q : Value → Shared → Prop} (hn : s.heap.Ns env.locals m) (hv : m x = some v) (h : Q v s)
    (hk : env.scope.kind = .function) (hl : env.kindOf x = some .local) (hd : (x == ("__debug__" : Str)) = false) : wpAny M A (eval (.Name x pos) env) Q E s := wpAny_Name (wpAny_loadName_local hk hl hn hv h) hd
theorem exc_init1 {msg f g : Str} {j : Nat} {p0 p1 p2 p3 p4 p5 q0 q1 q2 q3 : Pos} {x t0 : Addr} {v : Value} (T0 : ExC K C) (T : ExF prog K C fI cc cda params (exBody1 msg f g j p0 p1 p2 p3 p4 p5 q0 q1 q2 q3) scope) (S : ScI scope params g) (hev : SupOk scope cc cda fI msg j p0 p1 p2 p3 p4 p5)
    (hno : findIn K (.ref C) f = some none) (hgen : scope.isGenerator = false) (hco : scope.isCoroutine = false)
    (hbind : ∀ (name qual : Str) (body : List Stmt) (kV doc pm ct : Value) (an : Option Addr), bindArgs (fnX name qual params body scope [("__class__", cc)] .none kV doc pm an (.ref cda) ct) ⟨[.ref x, v], []⟩ = pure [(("self" : Str), Value.ref x), (g, v)])
    (X : K.In s.heap) (G : Gls s.heap mg) (hlim : s.heap.NoLimit) (hx : s.heap.get? x = some (excO C t0)) (hnx : K.lookup x = none) (hroom : A.depth < recursionLimit) 
    (hq : ∀ h' tk dx t1, InitEnd s.heap h' x C dx t1 f v → R (.ok (.ret .none)) { s with heap := h', toks := tk }) :
    codeAny (model prog w) A (.call (.ref fI) ⟨[.ref x, v], []⟩) R s := by
  obtain ⟨oc, od, name, qual, kV, doc, pm, ct, an, osl, hf, hcd⟩ := T.fn
  obtain ⟨nm, q, N, bs, bm, sn, sub, ab, col, dd, k0, k1, k2, k3, k5, hC, hbm⟩ := T0.cls
  obtain ⟨a0, hp, ha0⟩ := S.hp
  have hcl : clsIn K C = some { name := nm, bases := bs, mro := .ref C :: bm, ns := N, qualname := q, hasDict := true, slotNames := sn, subclasses := sub, abstract := ab, collection := col, hasDel := false } := by unfold clsIn; rw [hC] <;> rfl
  refine ks_codeAny_call_defAt hroom (X _ _ hf) rfl hlim (codeRec_of X hcd) rfl (.of_eq (hbind _ _ _ _ _ _ _ _)) S.hcell (fun y hy => ?_) (fun h0 hns k => ?_) hco hgen S.hk
  · simp only [List.mem_cons, List.not_mem_nil, or_false] at hy
    rcases hy with rfl | rfl
    · exact S.hka
    · exact S.hkg
  have m1 : (([("self", Value.ref x), (g, v)] : List (Str × Value)).reverse.lookup ("self" : Str)) = some (.ref x) := by
    show List.lookup ("self" : Str) [(g, v), ("self", Value.ref x)] = _
    have e : (("self" : Str) == g) = false := by simpa using S.hgs
    simp [List.lookup, e]
  have m2 : (([("self", Value.ref x), (g, v)] : List (Str × Value)).reverse.lookup g) = some v := by
    show List.lookup g [(g, v), ("self", Value.ref x)] = _
    simp [List.lookup]
  have hxL : s.heap.objs.size ≠ x := Nat.ne_of_gt (Heap.lt_size hx)
  refine ks_wpAt_execs_cons (sup_stmt T0 T (X.keeps k) (G.keeps k).g G.s (G.keeps k).b hns m1 (k _ _ hx) S.hk S.hks S.hkc S.hka hp ha0 hev (by show interactive _ = false; simp [interactive, S.hk]) (fun h1 tk t1 k1 hx1 => ?_))
  have X1 : K.In h1 := kept_but (X.keeps k) hnx k1
  have hns1 : h1.Ns s.heap.objs.size (fun y => (([("self", Value.ref x), (g, v)] : List (Str × Value)).reverse.lookup y)) := by
    obtain ⟨o, es, ep, ho, r⟩ := hns
    exact ⟨o, es, ep, k1 _ o hxL ho, r⟩
  refine _root_.PySem.wpAt_of_wpAny ?_
  refine wpAny_execs_cons (plainObj_wpAny_Assign_Attribute ?_ (by rfl))
  refine ldX (v := v) hns1 m2 (ldX (v := .ref x) hns1 m1 ?_ S.hk S.hka rfl) S.hk S.hkg S.hgd
  refine set_plain X1 (ox := excO C t1) (od := none) ⟨hx1, rfl, rfl, trivial⟩ T0.sa ?_
  refine exc_osa X1 hx1 hcl (show refsVE (.ref C :: bm) = true from hbm) rfl hno (fun h₃ tk₃ dx k₃ dn dne hx₃ hn₃ => ?_)
  refine wpAny_execs_nil (hq h₃ tk₃ dx t1 ⟨fun b o hb e => k₃ b o hb (k1 b o hb (k b o e)), hx₃, ?_, dne, hn₃⟩)
  obtain ⟨oL, _, _, hoL, _⟩ := hns1
  have z : s.heap.objs.size < h1.objs.size := Heap.lt_size hoL
  exact Nat.le_of_lt (Nat.lt_of_lt_of_le z dn)
theorem exc_init0 {msg : Str} {j : Nat} {p0 p1 p2 p3 p4 p5 : Pos} {x t0 : Addr} (T0 : ExC K C) (T : ExF prog K C fI cc cda params (exBody0 msg j p0 p1 p2 p3 p4 p5) scope) (S : ScB scope params) (hev : SupOk scope cc cda fI msg j p0 p1 p2 p3 p4 p5)
    (hgen : scope.isGenerator = false) (hco : scope.isCoroutine = false)
    (hbind : ∀ (name qual : Str) (body : List Stmt) (kV doc pm ct : Value) (an : Option Addr), bindArgs (fnX name qual params body scope [("__class__", cc)] .none kV doc pm an (.ref cda) ct) ⟨[.ref x], []⟩ = pure [(("self" : Str), Value.ref x)])
    (X : K.In s.heap) (G : Gls s.heap mg) (hlim : s.heap.NoLimit) (hx : s.heap.get? x = some (excO C t0)) (hnx : K.lookup x = none) (hroom : A.depth < recursionLimit)
    (hq : ∀ h' tk t1, InitEnd0 s.heap h' x C t1 → R (.ok (.ret .none)) { s with heap := h', toks := tk }) :
    codeAny (model prog w) A (.call (.ref fI) ⟨[.ref x], []⟩) R s := by
  obtain ⟨oc, od, name, qual, kV, doc, pm, ct, an, osl, hf, hcd⟩ := T.fn
  obtain ⟨a0, hp, ha0⟩ := S.hp
  refine ks_codeAny_call_defAt hroom (X _ _ hf) rfl hlim (codeRec_of X hcd) rfl (.of_eq (hbind _ _ _ _ _ _ _ _)) S.hcell (fun y hy => ?_) (fun h0 hns k => ?_) hco hgen S.hk
  · simp only [List.mem_cons, List.not_mem_nil, or_false] at hy
    subst hy
    exact S.hka
  have m1 : (([("self", Value.ref x)] : List (Str × Value)).reverse.lookup ("self" : Str)) = some (.ref x) := by
    show List.lookup ("self" : Str) [("self", Value.ref x)] = _
    simp [List.lookup]
  refine ks_wpAt_execs_cons (sup_stmt T0 T (X.keeps k) (G.keeps k).g G.s (G.keeps k).b hns m1 (k _ _ hx) S.hk S.hks S.hkc S.hka hp ha0 hev (by show interactive _ = false; simp [interactive, S.hk]) (fun h1 tk t1 k1 hx1 => ?_))
  refine _root_.PySem.wpAt_of_wpAny ?_
  exact wpAny_execs_nil (hq h1 _ t1 ⟨fun b o hb e => k1 b o hb (k b o e), hx1⟩)
end

/-- an exception class with one field f | with none -/
structure ExOne (P : Program) (K : Frag) (C : Addr) (f : Str) : Prop where
  c : ExC K C
  no : findIn K (.ref C) f = some none
  ex : ∃ (fI cc cda : Addr) (params : Arguments) (msg g : Str) (j : Nat) (p0 p1 p2 p3 p4 p5 q0 q1 q2 q3 : Pos) (scope : Scope), ExF P K C fI cc cda params (exBody1 msg f g j p0 p1 p2 p3 p4 p5 q0 q1 q2 q3) scope ∧ ScI scope params g ∧
    SupOk scope cc cda fI msg j p0 p1 p2 p3 p4 p5 ∧ scope.isGenerator = false ∧ scope.isCoroutine = false ∧
    ∀ (x : Addr) (v : Value) (name qual : Str) (body : List Stmt) (kV doc pm ct : Value) (an : Option Addr), bindArgs (fnX name qual params body scope [("__class__", cc)] .none kV doc pm an (.ref cda) ct) ⟨[.ref x, v], []⟩ = pure [(("self" : Str), Value.ref x), (g, v)]
structure ExZero (P : Program) (K : Frag) (C : Addr) : Prop where
  c : ExC K C
  ex : ∃ (fI cc cda : Addr) (params : Arguments) (msg : Str) (j : Nat) (p0 p1 p2 p3 p4 p5 : Pos) (scope : Scope), ExF P K C fI cc cda params (exBody0 msg j p0 p1 p2 p3 p4 p5) scope ∧ ScB scope params ∧
    SupOk scope cc cda fI msg j p0 p1 p2 p3 p4 p5 ∧ scope.isGenerator = false ∧ scope.isCoroutine = false ∧
    ∀ (x : Addr) (name qual : Str) (body : List Stmt) (kV doc pm ct : Value) (an : Option Addr), bindArgs (fnX name qual params body scope [("__class__", cc)] .none kV doc pm an (.ref cda) ct) ⟨[.ref x], []⟩ = pure [(("self" : Str), Value.ref x)]
/-- a made exception -/
structure OwnMade (h h' : Heap) (e C d : Addr) (f : Str) (v : Value) : Prop where
  keep : ∀ b o, h.get? b = some o → h'.get? b = some o
  new : h.objs.size ≤ e
  obj : ∃ oe vs, h'.get? e = some oe ∧ oe.cls = .ref C ∧ oe.dict = some d ∧ oe.data = .fields vs ∧ vs[1]? = some .none
  dbig : h.objs.size ≤ d
  dne : d ≠ e
  ns : h'.Ns1 d (fun y => if y = f then some v else none)
structure OwnMade0 (h h' : Heap) (e C : Addr) : Prop where
  keep : ∀ b o, h.get? b = some o → h'.get? b = some o
  new : h.objs.size ≤ e
  obj : ∃ oe vs, h'.get? e = some oe ∧ oe.cls = .ref C ∧ oe.dict = none ∧ oe.data = .fields vs ∧ vs[1]? = some .none
theorem one_size (v : Value) : [v].length ≤ sizeLine := by
  rw [sizeLine_eq]
  exact (by decide : 1 ≤ 16777216)
section
variable {prog : Program} {w : World} {A : Around} {E : Value → Shared → Prop} {R : Result → Shared → Prop} {s : Shared} {K : Frag} {mg : Str → Option Value} {C : Addr} {f : Str}
theorem exc_made1 (T : ExOne prog K C f) {v : Value} (X : K.In s.heap) (G : Gls s.heap mg) (hlim : s.heap.NoLimit) (hroom : A.depth + 1 < recursionLimit)
    (hq : ∀ h' tk e d, OwnMade s.heap h' e C d f v → R (.ok (.ret (.ref e))) { s with heap := h', toks := tk }) :
    codeAny (model prog w) A (.call (.ref C) ⟨[v], []⟩) R s := by
  obtain ⟨fI, cc, cda, params, msg, g, j, p0, p1, p2, p3, p4, p5, q0, q1, q2, q3, scope, TF, S, hev, hgen, hco, hbind⟩ := T.ex
  obtain ⟨nm, q, N, bs, bm, sn, sub, ab, col, dd, k0, k1, k2, k3, k5, hC, hbm⟩ := T.c.cls
  obtain ⟨hp, gg, dr, tk, os⟩ := s
  have k : ∀ b o, hp.get? b = some o → ((hp.push (kdv_tup [v])).push (excO C hp.objs.size)).get? b = some o := fun b o e => Heap.get?_push_of_some _ (Heap.get?_push_of_some _ e)
  have hget : ((hp.push (kdv_tup [v])).push (excO C hp.objs.size)).get? (hp.objs.size + 1) = some (excO C hp.objs.size) := by heap_get
  have hnx : K.lookup (hp.objs.size + 1) = none := by
    cases e : K.lookup (hp.objs.size + 1) with
    | none => rfl
    | some o =>
      have z : hp.get? (hp.objs.size + 1) = some o := X _ _ e
      exact absurd (Nat.lt_of_succ_lt (Heap.lt_size z)) (Nat.lt_irrefl _)
  refine call_own F.excBase_ValueError (fun X => refsVE_contains X bm hbm) (X _ _ hC) (looks_findIn X TF.iC) (fun self => bind_fn X self TF.tI) (one_size v) ?_
  refine exc_init1 (mg := mg) (s := ⟨(hp.push (kdv_tup [v])).push (excO C hp.objs.size), gg, dr, tk, os⟩) T.c TF S hev T.no hgen hco (fun name qual body kV doc pm ct an => hbind _ _ name qual body kV doc pm ct an) (X.keeps k) (G.keeps k) (hlim.keeps k) hget hnx ?_ fun h' tk' dx t1 ⟨k', hx, dn, dne, hns⟩ => ?_
  · show A.depth + 1 < recursionLimit
    exact hroom
  · have old : ∀ b o, hp.get? b = some o → h'.get? b = some o := fun b o e => k' b o (Nat.ne_of_lt (Nat.lt_succ_of_lt (Heap.lt_size e))) (k b o e)
    have z : hp.objs.size + 1 + 1 ≤ dx := by
      first
        | (simpa only [Heap.size_push] using dn)
        | exact dn
        | (have q := dn; rw [Heap.size_push, Heap.size_push] at q; exact q)
    exact ⟨rfl, hq h' tk' (hp.objs.size + 1) dx ⟨old, Nat.le_succ _, ⟨_, _, hx, rfl, rfl, rfl, rfl⟩, Nat.le_trans (Nat.le_trans (Nat.le_succ _) (Nat.le_succ _)) z, dne, hns⟩⟩
theorem exc_made0 (T : ExZero prog K C) (X : K.In s.heap) (G : Gls s.heap mg) (hlim : s.heap.NoLimit) (hroom : A.depth + 1 < recursionLimit)
    (hq : ∀ h' tk e, OwnMade0 s.heap h' e C → R (.ok (.ret (.ref e))) { s with heap := h', toks := tk }) :
    codeAny (model prog w) A (.call (.ref C) ⟨[], []⟩) R s := by
  obtain ⟨fI, cc, cda, params, msg, j, p0, p1, p2, p3, p4, p5, scope, TF, S, hev, hgen, hco, hbind⟩ := T.ex
  obtain ⟨nm, q, N, bs, bm, sn, sub, ab, col, dd, k0, k1, k2, k3, k5, hC, hbm⟩ := T.c.cls
  obtain ⟨hp, gg, dr, tk, os⟩ := s
  have k : ∀ b o, hp.get? b = some o → ((hp.push (kdv_tup [])).push (excO C hp.objs.size)).get? b = some o := fun b o e => Heap.get?_push_of_some _ (Heap.get?_push_of_some _ e)
  have hget : ((hp.push (kdv_tup [])).push (excO C hp.objs.size)).get? (hp.objs.size + 1) = some (excO C hp.objs.size) := by heap_get
  have hnx : K.lookup (hp.objs.size + 1) = none := by
    cases e : K.lookup (hp.objs.size + 1) with
    | none => rfl
    | some o =>
      have z : hp.get? (hp.objs.size + 1) = some o := X _ _ e
      exact absurd (Nat.lt_of_succ_lt (Heap.lt_size z)) (Nat.lt_irrefl _)
  refine call_own F.excBase_ValueError (fun X => refsVE_contains X bm hbm) (X _ _ hC) (looks_findIn X TF.iC) (fun self => bind_fn X self TF.tI) (by show 0 ≤ sizeLine; exact Nat.zero_le _) ?_
  refine exc_init0 (mg := mg) (s := ⟨(hp.push (kdv_tup [])).push (excO C hp.objs.size), gg, dr, tk, os⟩) T.c TF S hev hgen hco (fun name qual body kV doc pm ct an => hbind _ name qual body kV doc pm ct an) (X.keeps k) (G.keeps k) (hlim.keeps k) hget hnx ?_ fun h' tk' t1 ⟨k', hx⟩ => ?_
  · show A.depth + 1 < recursionLimit
    exact hroom
  · have old : ∀ b o, hp.get? b = some o → h'.get? b = some o := fun b o e => k' b o (Nat.ne_of_lt (Nat.lt_succ_of_lt (Heap.lt_size e))) (k b o e)
    exact ⟨rfl, hq h' tk' (hp.objs.size + 1) ⟨old, Nat.le_succ _, ⟨_, _, hx, rfl, rfl, rfl, rfl⟩⟩⟩
end
end Rz

namespace L2
open PySem PySem.Spec PyProof.Rows
theorem relO_one {v : V} {v' : Value} (r : RelV v v') (fl f : Str) : RelO (List.lookup f [(fl, v)]) (if f = fl then some v' else none) := by
  by_cases hw : f = fl
  · subst hw
    rw [if_pos rfl]
    have q : List.lookup f [(f, v)] = some v := by simp [List.lookup]
    rw [q]
    exact r
  · rw [if_neg hw]
    have qw : (f == fl) = false := by simpa using hw
    have q2 : List.lookup f [(fl, v)] = none := by simp [List.lookup, qw]
    rw [q2]
    trivial
section
variable {X : Cx} {C : Addr}
theorem Inv.gls {pins : List (Addr × Obj)} {σ : St} {H : Hp} {s : Shared} (I : Inv X pins σ H s) (hs : X.mg "super" = none) : Rz.Gls s.heap X.mg :=
  ⟨I.mod.glob.keeps I.bk, hs, let ⟨mb, h1, h2⟩ := I.mod.blt; ⟨mb, h1.keeps I.bk, (h2 "super" (by decide)).trans (by decide +kernel)⟩⟩
/-- C(e), an exception with one field -/
def tMkX (C : Addr) (f : Str) (ta : TA) : St → Hp → XK → Prop := fun σ H Q => ta σ H fun vs H1 => ∃ v, vs = [v] ∧ ∀ d, H1 d = none → Q (.ref C) (some d) (upd H1 d (.xd [(f, v)]))
theorem pmk_sup1 {x f : Str} {a : Expr} {ta : TA} {p pos : Pos} {k : Nat} (T : Rz.ExOne X.prog X.K C f) (hs : X.mg "super" = none) (hr : Room k X.A) (hg : Gl X x) (hm : X.mg x = some (.ref C)) (ha : PA X [a] ta)
    (hdb : (x == ("__debug__" : Str)) = false := by decide)
    (he : starEach (a :: []) X.env = (false, eval a X.env) :: starEach [] X.env := by rfl) (hpl : (backTo pos (starEach [] X.env)).any (·.1) = false := by rfl) :
    PMk X (.Call (.Name x p) [a] [] pos) (tMkX C f ta) := by
  intro pins s σ H Q I h
  refine wpAny_Call_Name_kw (ld_glob I hg hm ?_ hdb)
  refine PySem.W.callWith_K (h₀ := X.base) I.ok.mod.kin T.c.kC (thn (ha.run pos pins s σ H _ I h) fun us s1 hh => ?_) he hpl
  obtain ⟨vs, H1, I1, r1, v, ev, q1⟩ := hh
  subst ev
  refine ⟨I1.kIn, ?_⟩
  cases r1 with
  | cons rv rn =>
    rename_i v' us'
    cases rn
    show wpAny _ _ (call (.ref C) [v']) _ _ _
    have hlim := I1.nolimit
    have G := I1.gls hs
    obtain ⟨hp, g, dr, tk, os⟩ := s1
    refine wpAny_call (Rz.exc_made1 (mg := X.mg) T I1.kIn G hlim (by have := hr.dp; omega) fun h' tk' e d M => ?_)
    show MkP X pins σ Q (.ref e) ⟨h', g, dr, tk', os⟩
    obtain ⟨oe, fv, hoe, hc, hd, hdat, h1⟩ := M.obj
    have hns := M.ns
    obtain ⟨G', g1, g2⟩ := restrict h' fun b => decide (b ≠ e)
    have gk : ∀ b, b ≠ e → G'.get? b = h'.get? b := fun b hb => g1 b (decide_eq_true hb)
    have ge : G'.get? e = none := g2 e (by simp)
    have old : ∀ b o, hp.get? b = some o → G'.get? b = some o := fun b o q => (gk b (Nat.ne_of_lt (Nat.lt_of_lt_of_le (Heap.lt_size q) M.new))).trans (M.keep b o q)
    have hns' : G'.Ns1 d (fun y => if y = f then some v' else none) := by
      obtain ⟨o, es, ep, ho, r⟩ := hns
      exact ⟨o, es, ep, (gk d M.dne).trans ho, r⟩
    have J : Inv X pins σ (upd H1 d (.xd [(f, v)])) ⟨G', g, dr, tk', os⟩ := I1.laid (t' := tk') old M.dbig ⟨_, hns', relO_one rv f⟩
    refine ⟨e, oe, fv, ⟨G', g, dr, tk', os⟩, _, .ref C, some d, rfl, J, fun b o q => ?_, ge, hoe, ⟨hc, hd⟩, hdat, h1, ?_, rfl, J.bare, raises_own T.c.exC T.c.tyC, q1 d (I1.hok.fresh M.dbig)⟩
    · by_cases hb : b = e
      · have q' : G'.get? b = some o := q
        rw [hb, ge] at q'; cases q'
      · exact (gk b hb).symm.trans q
    · rw [upd_ne (Ne.symm M.dne)]
      exact I1.hok.fresh M.new
/-- C(), an exception without fields -/
def tMkX0 (C : Addr) : St → Hp → XK → Prop := fun _ H Q => Q (.ref C) none H
theorem pmk_sup0 {x : Str} {p pos : Pos} {k : Nat} (T : Rz.ExZero X.prog X.K C) (hs : X.mg "super" = none) (hr : Room k X.A) (hg : Gl X x) (hm : X.mg x = some (.ref C))
    (hdb : (x == ("__debug__" : Str)) = false := by decide) : PMk X (.Call (.Name x p) [] [] pos) (tMkX0 C) := by
  intro pins s σ H Q I h
  refine wpAny_Call_Name_kw (ld_glob I hg hm ?_ hdb)
  refine PySem.W.callWith_K0 I.kIn T.c.kC ?_
  have hlim := I.nolimit
  have G := I.gls hs
  obtain ⟨hp, g, dr, tk, os⟩ := s
  refine wpAny_call (Rz.exc_made0 (mg := X.mg) T I.kIn G hlim (by have := hr.dp; omega) fun h' tk' e M => ?_)
  show MkP X pins σ Q (.ref e) ⟨h', g, dr, tk', os⟩
  obtain ⟨oe, fv, hoe, hc, hd, hdat, h1⟩ := M.obj
  obtain ⟨G', g1, g2⟩ := restrict h' fun b => decide (b ≠ e)
  have gk : ∀ b, b ≠ e → G'.get? b = h'.get? b := fun b hb => g1 b (decide_eq_true hb)
  have ge : G'.get? e = none := g2 e (by simp)
  have old : ∀ b o, hp.get? b = some o → G'.get? b = some o := fun b o q => (gk b (Nat.ne_of_lt (Nat.lt_of_lt_of_le (Heap.lt_size q) M.new))).trans (M.keep b o q)
  have J : Inv X pins σ H ⟨G', g, dr, tk', os⟩ := I.kept (t' := tk') old
  refine ⟨e, oe, fv, ⟨G', g, dr, tk', os⟩, H, .ref C, none, rfl, J, fun b o q => ?_, ge, hoe, ⟨hc, hd⟩, hdat, h1, I.hok.fresh M.new, rfl, J.bare, raises_own T.c.exC T.c.tyC, h⟩
  by_cases hb : b = e
  · have q' : G'.get? b = some o := q
    rw [hb, ge] at q'; cases q'
  · exact (gk b hb).symm.trans q
end
end L2

/-! enumerate over a text. -/
namespace L2
open PySem PySem.Spec PyProof.Rows
/-- each sign of the text with its place, in new pairs -/
def Ites (x : Str) : It :=
  ⟨fun i _ => i < x.cps.size, fun i H v H' => ∃ T c, v = .ref T ∧ H T = none ∧ x.cps[i]? = some c ∧ H' = upd H T (.tup [.int (i : Nat), .str ⟨#[c]⟩]), fun i _ => i = x.cps.size⟩
theorem turn_enumS {P : Program} {w : World} {K : PySem.W.Frag} {elts : List Expr} {kk : Nat} {tpos : Pos} (x : Str) (t : Tok) (e it : Addr) :
    Turn P w K (.Tuple elts kk tpos) (Ites x) [e, it] e (fun i h => (∃ old, IsEnum h e it ((i : Nat) : Int) old) ∧ h.IsStrIter it (strIterType x) x t i ∧ e ≠ it) where
  mem := by simp
  obj := fun i h st b hb => by
    obtain ⟨⟨old, he⟩, ⟨o, ho, hc, hd⟩, _⟩ := st
    have e' : b = e ∨ b = it := by simpa using hb
    rcases e' with z | z
    · rw [z]; exact ⟨_, he, fun v q => nomatch q⟩
    · rw [z]; exact ⟨o, ho, fun v q => by rw [hd] at q; cases q⟩
  keep := fun i h h' st k => by
    obtain ⟨⟨old, he⟩, ⟨o, ho, r⟩, hne⟩ := st
    exact ⟨⟨old, k e (by simp) _ he⟩, ⟨o, k it (by simp) o ho, r⟩, hne⟩
  item := by
    intro X hP hw hK hc i pins s σ H E I hf st hg
    subst hP hw hK
    obtain ⟨⟨old, he⟩, hit, hne⟩ := st
    have hel : e < s.heap.objs.size := Heap.lt_size he
    have hil : it < s.heap.objs.size := by obtain ⟨_, q, _⟩ := hit; exact Heap.lt_size q
    have hh : X.A.in1.handled = none := I.ok.hd hc
    refine wpAny_pyNext_enum_itemD (Draws.text hh it x t) he hit hg hne (by simpa using hne) fun v h' tk hv ho hit' hT hsz hk => ?_
    obtain ⟨c, u, hcx, rfl⟩ := hv
    refine ⟨_, rfl, wpAny_letOwnedTupleGo_enum (s := { s with heap := h', toks := tk + 1 }) ho fun h'' he' sb => ?_⟩
    have hT2 : h''.get? s.heap.objs.size = some { cls := .type "tuple", data := .seq #[.int i tk, .str ⟨#[c]⟩ u] } := (sb.2 _ (Nat.ne_of_gt hel)).trans hT
    have new : ObjOk X.prog X.w (upd H s.heap.objs.size (.tup [.int (i : Nat), .str ⟨#[c]⟩])) h'' s.heap.objs.size (.tup [.int (i : Nat), .str ⟨#[c]⟩]) :=
      ⟨by show 2 ≤ sizeLine; decide, [.int i tk, .str ⟨#[c]⟩ u], .cons ⟨_, rfl⟩ (.cons ⟨_, rfl⟩ .nil), ⟨_, hT2, rfl, _, rfl⟩⟩
    have I1 : Inv X pins σ (upd H s.heap.objs.size (.tup [.int (i : Nat), .str ⟨#[c]⟩])) { s with heap := h'', toks := tk + 1 } :=
      I.turnedNew (ch := [e, it]) (fun b ob hb q => (sb.2 b (fun z => hb (by simp [z]))).trans (hk b ob (fun z => hb (by simp [z])) (fun z => hb (by simp [z])) q)) hf (Nat.le_refl _) new
    obtain ⟨oi, hoi, ri⟩ := hit'
    refine ⟨.ref s.heap.objs.size, _, I1, rfl, ⟨_, c, rfl, I.hok.fresh (Nat.le_refl _), hcx, rfl⟩, ⟨⟨.str ⟨#[c]⟩ u, ?_⟩, ⟨oi, (sb.2 it (Ne.symm hne)).trans hoi, ri⟩, hne⟩, fun b hb => ?_⟩
    · have e1 : ((i + 1 : Nat) : Int) = (i : Int) + 1 := by omega
      rw [e1]; exact he'
    · have hb' : b < s.heap.objs.size := by
        have e' : b = e ∨ b = it := by simpa using hb
        rcases e' with z | z
        · rw [z]; exact hel
        · rw [z]; exact hil
      rw [upd_ne (Nat.ne_of_lt hb')]
      exact (hf b hb).1
  done := by
    intro X hP hw hK hc i pins s σ H E I hf st hg
    subst hP hw hK
    obtain ⟨⟨old, he⟩, hit, hne⟩ := st
    have hg' : i = x.cps.size := hg
    subst hg'
    obtain ⟨f0, f1, f2, f3, f4, f5⟩ := hf it (by simp)
    have hh : X.A.in1.handled = none := I.ok.hd hc
    exact wpAny_pyNext_enum_endD (Draws.text hh it x t) he hit fun h' eb => ⟨rfl, I.turned (t' := s.toks) (fun b o hb q => eb b o hb q) f0 f1 f3 f4 f5⟩
  self := fun A i s Q E st h => let ⟨⟨_, he⟩, _⟩ := st; wpAny_pyIter_enum he h
def iEnumS (ta : TA) : TI := fun σ H R => ta σ H fun vs H1 => ∃ x, vs = [.str x] ∧ R (Ites x) H1
theorem pi_enumS {X : Cx} {e : Expr} {ta : TA} {p pos tpos : Pos} {elts : List Expr} {kk : Nat} (hg : Gl X "enumerate") (hm : X.mg "enumerate" = none) (ha : PA X [e] ta) (hs : starEach [e] X.env = [(false, eval e X.env)] := by rfl) :
    PI X (.Tuple elts kk tpos) (.Call (.Name "enumerate" p) [e] [] pos) (iEnumS ta) := by
  refine ⟨fun pins s σ H R I h => ?_⟩
  refine Call_ (ld_blt I hg hm boot_enumerate (PyProof.Rows.callWith_type1 (thn (ha.run pos pins s σ H _ I h) fun us s1 ⟨vs, H1, I1, r1, q1⟩ => ?_) hs rfl))
  obtain ⟨x, ex, q⟩ := q1
  subst ex
  cases r1 with
  | cons r rr =>
    cases rr
    obtain ⟨t, rfl⟩ := r
    refine call_enumerate_str fun h' he hit hsz hk => wpAny_pyIter_enum he ?_
    have I2 : Inv X pins σ H1 { s1 with heap := h' } := I1.kept (t' := s1.toks) hk
    refine ⟨s1.heap.objs.size + 1, [s1.heap.objs.size + 1, s1.heap.objs.size], _, _, H1, rfl, I2, turn_enumS x t (s1.heap.objs.size + 1) s1.heap.objs.size, ⟨⟨.none, he⟩, hit, Nat.succ_ne_self _⟩, fun b hb => ?_, q⟩
    have e' : b = s1.heap.objs.size + 1 ∨ b = s1.heap.objs.size := by simpa using hb
    have hle : s1.heap.objs.size ≤ b := by
      rcases e' with z | z
      · rw [z]; exact Nat.le_add_right _ _
      · rw [z]; exact Nat.le_refl _
    exact I1.fpOk hle (I1.hok.fresh hle)
end L2

/-! A try whose clauses may each have a name or none. An exception that has come to the frame is a package (Got); each way of a clause is a lemma over it. -/
namespace L2
open PySem PySem.Spec PyProof.Rows
abbrev TSu := Addr → Value → Option Addr → TS
/-- behind a clause with a name: its slot is empty again -/
def Ends.drop (D : Ends) (i : Nat) : Ends := { nx := fun σ H => D.nx (σ.set i none) H, rt := D.rt, bk := fun σ H => D.bk (σ.set i none) H, ct := fun σ H => D.ct (σ.set i none) H }
/-- one clause: the class it names, its slot, its suite -/
structure Clause where
  c : Value
  slot : Option Nat
  ts : TSu
def Clause.does (q : Clause) (cls : Value) (d : Option Addr) (D : Ends) (σ : St) (H : Hp) (a : Addr) : Prop :=
  match q.slot with
  | none => q.ts a cls d D σ H
  | some i => q.ts a cls d (D.drop i) (σ.set i (some (.ref a))) H
/-- what is wanted of an exception at these clauses -/
def wMix (K : PySem.W.Frag) (Wout : WX) (D : Ends) : List Clause → WX
  | [] => Wout
  | q :: r => fun cls d σ H => ∃ b, PySem.W.exmOne K cls q.c = some b ∧ (b = true → ∀ a, H a = none → q.does cls d D σ H a) ∧ (b = false → wMix K Wout D r cls d σ H)
/-- the suite of a clause keeps its reading, whatever exception is at hand -/
def SuiteOk (X : Cx) (suite : List Stmt) (ts : TSu) : Prop :=
  ∀ (a : Addr) (oe : Obj) (cls : Value) (d : Option Addr) (pn : List (Addr × Obj)), Zc cls d oe → (∃ vs, oe.data = .fields vs) → PSs (X.suite a ((a, oe) :: pn)) suite (ts a cls d)
inductive HdsMix (X : Cx) : List ExceptHandler → List Clause → Prop
  | nil : HdsMix X [] []
  | cons {x : Str} {c : Value} {ts : TSu} {b₀ : Stmt} {suite : List Stmt} {np p' : Pos} {hds : List ExceptHandler} {l : List Clause} (hc : Names X x c) (hsu : SuiteOk X (b₀ :: suite) ts) (r : HdsMix X hds l) :
      HdsMix X (.ExceptHandler (some (.Name x np)) none (b₀ :: suite) p' :: hds) (⟨c, none, ts⟩ :: l)
  | consA {x n : Str} {c : Value} {i : Nat} {ts : TSu} {b₀ : Stmt} {suite : List Stmt} {np p' : Pos} {hds : List ExceptHandler} {l : List Clause} (hi : X.N[i]? = some n) (hln : X.env.kindOf n = some .local) (hc : Names X x c) (hsu : SuiteOk X (b₀ :: suite) ts) (r : HdsMix X hds l) :
      HdsMix X (.ExceptHandler (some (.Name x np)) (some n) (b₀ :: suite) p' :: hds) (⟨c, some i, ts⟩ :: l)

/-- an exception at a has come to this frame, noted and with no flight: B the ground, sI the state without it -/
structure Got (X : Cx) (pins : List (Addr × Obj)) (σ : St) (H : Hp) (B : Heap) (sI s : Shared) (a : Addr) (cls : Value) (d : Option Addr) : Prop where
  inv : Inv X pins σ H sI
  nb : ∀ b o, sI.heap.get? b = some o → b ∉ frs X.stack → B.get? b = some o
  fl : HandSPX.FlyingZ B (X.env :: X.outer) a (Zc cls d) s.heap
  up : sI.heap.UpToSlots s.heap
  na : H a = none
  os : s.os = sI.os
  ag : AllBare s.gens
section
variable {X : Cx} {pins : List (Addr × Obj)} {σ : St} {H : Hp} {B : Heap} {sI s : Shared} {a : Addr} {cls : Value} {d : Option Addr}
theorem Got.here (g : Got X pins σ H B sI s a cls d) : Inv X pins σ H s := by
  obtain ⟨hh, gg, dd, tt, oo⟩ := s
  exact g.inv.landed g.nb g.fl.1 g.up g.os g.ag
/-- it is no frame of those that run -/
theorem Got.apart (g : Got X pins σ H B sI s a cls d) (hf : X.env.frame = some X.env.locals) : a ≠ X.env.locals ∧ a ∉ X.fs := by
  obtain ⟨oe, vs, he, _, hd⟩ := g.fl.there
  have no : a ∉ frs (X.env :: X.outer) := by
    intro hm
    obtain ⟨_, o', e', hnf⟩ := g.fl.2.2.1.mem hm
    rw [he] at e'
    cases e'
    exact hnf _ hd
  have eq : frs (X.env :: X.outer) = X.env.locals :: X.fs := by
    show List.filterMap _ _ = _
    rw [List.filterMap_cons, hf]
    rfl
  rw [eq] at no
  exact ⟨fun z => no (z ▸ List.mem_cons_self), fun z => no (List.mem_cons_of_mem _ z)⟩
/-- the state of a suite -/
theorem Got.suite (g : Got X pins σ H B sI s a cls d) (hf : X.env.frame = some X.env.locals) :
    ∃ oe, Zc cls d oe ∧ (∃ vs, oe.data = .fields vs) ∧ s.heap.get? a = some oe ∧ Inv (X.suite a ((a, oe) :: (X.pn ++ pins))) [] σ H s := by
  obtain ⟨oe, vs, he, hz, hd⟩ := g.fl.there
  exact ⟨oe, hz, ⟨vs, hd⟩, he, g.here.suite he hd g.na (g.apart hf).1 (g.apart hf).2⟩
/-- no clause took it -/
theorem Got.passes (g : Got X pins σ H B sI s a cls d) (hs : X.stack = X.env :: X.outer) (hf : X.env.frame = some X.env.locals) {W : WX} (tk : Takes X W) (hw : W cls d σ H) {Q : Flow → Shared → Prop} :
    wpAny (model X.prog X.w) X.A (handleBy (.ref a) X.env []) Q X.xe s := by
  refine wpAny_handleBy_nil ?_
  have on : wpAny (model X.prog X.w) X.A (setFlight (.ref a) X.env.frame) (fun _ s4 => wpAny (model X.prog X.w) X.A (throw (.ref a) : Sem Flow) Q X.xe s4) X.xe s := by
    rw [hf]
    refine HandSPX.setFlight_upZ g.fl fun h4 held up4 => wpAny_throw (tk _ _ ?_)
    refine ⟨a, B, sI, pins, σ, H, cls, d, rfl, g.inv, g.nb, g.up.trans up4, .inr (.inr ?_), g.na, g.os, g.ag, hw⟩
    rw [hs]
    exact held
  obtain ⟨_, _, _, oe, vs, T, _, _, he, _, hd, h1, _⟩ := g.fl
  unfold PySem.passOn
  refine wpAny_bind (wpAny_field he hd h1 ?_)
  rw [if_neg (by simp)]
  first
    | exact wpAny_bind (wpAny_pure (wpAny_bind on))
    | exact wpAny_bind on
/-- the clause's class is looked up and held against the exception's -/
theorem Got.asked (g : Got X pins σ H B sI s a cls d) (hf : X.env.frame = some X.env.locals) {x : Str} {c : Value} {np : Pos} {b : Bool} (hc : Names X x c) (hb : PySem.W.exmOne X.K cls c = some b) {Q : Bool → Shared → Prop} {E : Value → Shared → Prop} (hq : Q b s) :
    wpAny (model X.prog X.w) (X.A.mark (some (.ref a))) (eval (.Name x np) X.env) (fun v s1 => wpAny (model X.prog X.w) (X.A.mark (some (.ref a))) (excMatches (.ref a) v) Q E s1) E s := by
  obtain ⟨oe, hz, _, he, S⟩ := g.suite hf
  have L := PySem.W.exm_one (M := model X.prog X.w) g.here.kIn (fun A Q E s k q => wpAny_typeOf_ref (k _ _ he) (by rw [hz.1]; exact q)) hb
  obtain ⟨h1, h2, h3⟩ := hc
  rcases h3 with h3 | ⟨h3, h4, h5⟩
  · exact ld_glob (X := X.suite a ((a, oe) :: (X.pn ++ pins))) S h1 h3 (L.here hq) h2
  · exact ld_blt (X := X.suite a ((a, oe) :: (X.pn ++ pins))) S h1 h3 h4 (L.here hq) h5 h2
theorem Got.again (g : Got X pins σ H B sI s a cls d) {Q : Unit → Shared → Prop} {M : Model} {A : Around} {E : Value → Shared → Prop} (k : ∀ h', Got X pins σ H B sI { s with heap := h' } a cls d → Q () { s with heap := h' }) : wpAny M A (setFlight (.ref a) none) Q E s :=
  HandSPX.lands_againZ g.fl fun h4 fl4 up4 => k h4 ⟨g.inv, g.nb, fl4, g.up.trans up4, g.na, g.os, g.ag⟩
theorem SP.unsuite {pn : List (Addr × Obj)} {q : Addr × Obj} {D : Ends} {f : Flow} {s' : Shared} (ok : X.Ok) (h : SP (X.suite a (q :: (X.pn ++ pins))) pn D f s') : SP X pins D f s' := by
  cases f with
  | next => exact let ⟨σ', H', I, z⟩ := h; ⟨σ', H', I.unsuite ok, z⟩
  | brk => exact let ⟨σ', H', I, z⟩ := h; ⟨σ', H', I.unsuite ok, z⟩
  | cont => exact let ⟨σ', H', I, z⟩ := h; ⟨σ', H', I.unsuite ok, z⟩
  | ret u => exact let ⟨v, σ', H', I, r, z⟩ := h; ⟨v, σ', H', I.unsuite ok, r, z⟩
theorem SP.ofTry {pn : List (Addr × Obj)} {xe : Value → Shared → Prop} {D : Ends} {f : Flow} {s' : Shared} (ok : X.Ok) (h : SP (X.tr (X.pn ++ pins) xe) pn D f s') : SP X pins D f s' := by
  cases f with
  | next => exact let ⟨σ', H', I, z⟩ := h; ⟨σ', H', I.ofTry ok, z⟩
  | brk => exact let ⟨σ', H', I, z⟩ := h; ⟨σ', H', I.ofTry ok, z⟩
  | cont => exact let ⟨σ', H', I, z⟩ := h; ⟨σ', H', I.ofTry ok, z⟩
  | ret u => exact let ⟨v, σ', H', I, r, z⟩ := h; ⟨v, σ', H', I.ofTry ok, r, z⟩
/-- behind a suite with a name the name goes -/
theorem SP.unname {D : Ends} {i : Nat} {n : Str} {p' : Pos} {f : Flow} {s' : Shared} (hN : X.N.Nodup) (hi : X.N[i]? = some n) (hln : X.env.kindOf n = some .local) (h : SP X pins (D.drop i) f s') :
    wpAny (model X.prog X.w) X.A (do bindName X.env n .none; unbindBehindTheSuite X.env n p') (fun _ s7 => SP X pins D f s7) X.xe s' := by
  cases f with
  | next => exact let ⟨_, _, I, z⟩ := h; gone_ok I hN hi hln fun _ J => ⟨_, _, J, z⟩
  | brk => exact let ⟨_, _, I, z⟩ := h; gone_ok I hN hi hln fun _ J => ⟨_, _, J, z⟩
  | cont => exact let ⟨_, _, I, z⟩ := h; gone_ok I hN hi hln fun _ J => ⟨_, _, J, z⟩
  | ret u => exact let ⟨_, _, _, I, r, z⟩ := h; gone_ok I hN hi hln fun _ J => ⟨_, _, _, J, r, z⟩
/-- all clauses -/
theorem Got.clauses (hs : X.stack = X.env :: X.outer) (hf : X.env.frame = some X.env.locals) (hN : X.N.Nodup) {W : WX} (tk : Takes X W) {D : Ends} {hds : List ExceptHandler} {l : List Clause} (hk : HdsMix X hds l) :
    ∀ {s : Shared}, Got X pins σ H B sI s a cls d → wMix X.K W D l cls d σ H → wpAny (model X.prog X.w) X.A (handleBy (.ref a) X.env hds) (SP X pins D) X.xe s := by
  induction hk with
  | nil => exact fun g w => g.passes hs hf tk w
  | cons hc hsu _ ih =>
    intro s g w
    obtain ⟨b, hb, yes, no⟩ := w
    refine wpAny_handleBy_cons (codeAny_handlers_test (g.asked hf hc hb ?_)) (by intro q; cases q)
    cases b
    · exact ih g (no rfl)
    · refine codeAny_handlers_suite (g.again fun h4 g4 => ?_)
      obtain ⟨oe, hz, hd, he, S⟩ := g4.suite hf
      exact wpAny_mono ((hsu a oe cls d _ hz hd).run [] _ σ H D S (yes rfl a g.na)) (fun _ _ z => z.unsuite g.inv.ok) fun _ _ z => z.elim
  | consA hi hln hc hsu _ ih =>
    intro s g w
    obtain ⟨b, hb, yes, no⟩ := w
    refine wpAny_handleBy_cons (codeAny_handlers_test (g.asked hf hc hb ?_)) (by intro q; cases q)
    cases b
    · exact ih g (no rfl)
    · refine codeAny_handlers_suite_as (g.again fun h4 g4 => ?_)
      obtain ⟨oe, hz, hd, he, S⟩ := g4.suite hf
      refine store_ok (X := X.suite a ((a, oe) :: (X.pn ++ pins))) (v := .ref a) S hN hi (.inl hln) rfl (fun s5 S5 => ?_) (.inr hln)
      exact wpAny_mono ((hsu a oe cls d _ hz hd).run [] s5 _ H _ S5 (yes rfl a g.na)) (fun _ _ z => (z.unsuite g.inv.ok).unname hN hi hln) fun _ _ z => z.elim
/-- THE RULE -/
theorem ps_try_mix {body : List Stmt} {h₀ : ExceptHandler} {hds : List ExceptHandler} {l : List Clause} {pos : Pos} {tb : WX → TS} {Wout : WX} (hs : X.stack = X.env :: X.outer) (hf : X.env.frame = some X.env.locals) (hN : X.N.Nodup) (tk : Takes X Wout)
    (hb : ∀ (W : WX) (pn : List (Addr × Obj)) (xe : Value → Shared → Prop), Takes (X.tr pn xe) W → PassesOwn (model X.prog X.w) X.A X.env xe → PSs (X.tr pn xe) body (tb W)) (hh : HdsMix X (h₀ :: hds) l) :
    PS X (.Try body (h₀ :: hds) [] [] pos) (fun D σ H => tb (wMix X.K Wout D l) D σ H) := by
  constructor
  intro pins s σ H D I h
  refine wpAny_Try_except (wpAny_mono ((hb (wMix X.K Wout D l) (X.pn ++ pins) _ ?_ PassesOwn.looking).run [] s σ H D (I.toTry _) h) (fun f s1 z => ?_) fun _ _ z => z)
  · rintro u s' ⟨a, B, sI, pins', σ', H', cls, d, rfl, J', nb, up, sky, na, os, ag, w⟩
    have J : Inv X pins σ' H' sI := J'.ofTry I.ok
    have sky' : Sky B (X.env :: X.outer) a (Zc cls d) X.env.locals s'.heap := by
      rw [← hs]
      exact sky
    show wpAny (model X.prog X.w) X.A (noteFrame (.ref a) X.env) _ _ _
    refine Sky.land Zc.steady (by rw [I.ok.frames, hs]) hf sky' fun h3 fl3 up3 => ?_
    exact Got.clauses hs hf hN tk hh ⟨J, nb, fl3, up.trans up3, na, os, ag⟩ w
  · have z' := z.ofTry I.ok
    cases f with
    | next => exact wpAny_execs_nil z'
    | brk => exact z'
    | cont => exact z'
    | ret u => exact z'
end
end L2

/-! Calls of defs, methods and classes of the program; what they raise is wished for at the caller's slots. -/
namespace L2
open PySem PySem.Spec PyProof.Rows
section
variable {X : Cx} {CX : CXT} {k : Nat} {f C : Addr} {fd : FuncData} {ps : List Str} {sp : Sp} {dvs : List V} {ds : List Value} {E : St → XK} {x m : Str} {p pos apos : Pos} {e o : Expr} {es : List Expr} {ta : TE} {t : TA}
theorem pe_call0S (F : FnOk X.prog X.w X.K X.mg X.base CX k f fd ps sp) (hr : Room k X.A) (hg : Gl X x) (hm : X.mg x = some (.ref f)) (hk : PySem.W.keepIn X.K (.ref f) = true) (hb : Binds X.K fd ps ds) (hd : Vals dvs ds) (hx : ∀ σ, PassesAt CX X σ (E σ))
    (hdb : (x == ("__debug__" : Str)) = false := by decide) : PE X (.Call (.Name x p) [] [] pos) (tCallSD sp dvs E tNil) :=
  ⟨fun _ _ σ _ _ I h => wpAny_Call_Name_kw (ld_glob I hg hm (PySem.W.callWith_K0 I.kIn hk (run_fnSD (us := []) F hr hb hd (hx σ) I .nil h)) hdb)⟩
/-- o.m(..) -/
def tMethZ (C : Addr) (m : Str) (sp : Sp) (dvs : List V) (E : St → XK) (ta : TE) (t : TA) : TE := fun σ H Q => ta σ H fun y H1 => ∃ a dx fs, y = .ref a ∧ H1 a = some (.ins C dx fs) ∧ fs.lookup m = none ∧
  t σ H1 fun vs H2 => sp (y :: (vs ++ dvs)) H2 Q (E σ)
/-- C(..) -/
def tMakeS (C : Addr) (sp : Sp) (dvs : List V) (E : St → XK) (t : TA) : TE := fun σ H Q => t σ H fun vs H1 => ∀ y dx, H1 y = none → H1 dx = none → dx ≠ y →
  sp (.ref y :: (vs ++ dvs)) (upd (upd H1 dx (.own y)) y (.ins C dx [])) (fun v H2 => v = .non ∧ Q (.ref y) H2) (E σ)
theorem pe_methZ {pl : Sem Bool} (he : PE X o ta) (c : Cls X.K C) (hm : Meth X.K C m f) (F : FnOk X.prog X.w X.K X.mg X.base CX k f fd ps sp) (hr : Room k X.A) (hb : Binds X.K fd ps ds) (hd : Vals dvs ds) (hx : ∀ σ, PassesAt CX X σ (E σ)) (ha : PA X (e :: es) t)
    (hst : starEach (e :: es) X.env = (false, eval e X.env) :: starEach es X.env := by rfl) (hpl : (backTo pos (starEach es X.env)).any (·.1) = false := by rfl)
    (ht : eval (.Call (.Attribute o m apos) (e :: es) [] pos) X.env = (eval o X.env >>= fun ov => standAt apos.atName >>= fun _ => holding [ov] (getMethod ov m pl) >>= fun ff => callWith pos ff.1 ff.2 (backTo pos (starEach (e :: es) X.env)) (backToKw pos (keywordEach [] X.env))) := by rfl) :
    PE X (.Call (.Attribute o m apos) (e :: es) [] pos) (tMethZ C m sp dvs E ta t) := by
  constructor
  intro pins s σ H Q I h
  refine PySem.W.methodCall_KW (pl := pl) (thn (he.run pins s σ H _ I h) ?_) ht
  rintro u s1 ⟨y, H1, I1, ry, a, dx, fs, rfl, ea, l, q⟩
  cases ry
  refine getmeth_ok I1 ea c hm l (PySem.W.callWith_K (first := [.ref a]) (h₀ := X.base) I.ok.mod.kin hm.kp (thn (ha.run pos pins s1 σ H1 _ I1 q) ?_) hst hpl)
  rintro us s2 ⟨vs, H2, I2, r, q2⟩
  exact ⟨I2.kIn, run_fnSD (us := .ref a :: us) (vs := .ref a :: vs) F hr hb hd (hx σ) I2 (.cons rfl r) q2⟩
theorem pe_meth0Z {pl : Sem Bool} (he : PE X o ta) (c : Cls X.K C) (hm : Meth X.K C m f) (F : FnOk X.prog X.w X.K X.mg X.base CX k f fd ps sp) (hr : Room k X.A) (hb : Binds X.K fd ps ds) (hd : Vals dvs ds) (hx : ∀ σ, PassesAt CX X σ (E σ))
    (ht : eval (.Call (.Attribute o m apos) [] [] pos) X.env = (eval o X.env >>= fun ov => standAt apos.atName >>= fun _ => holding [ov] (getMethod ov m pl) >>= fun ff => callWith pos ff.1 ff.2 (backTo pos (starEach [] X.env)) (backToKw pos (keywordEach [] X.env))) := by rfl) :
    PE X (.Call (.Attribute o m apos) [] [] pos) (tMethZ C m sp dvs E ta tNil) := by
  constructor
  intro pins s σ H Q I h
  refine PySem.W.methodCall_KW (pl := pl) (thn (he.run pins s σ H _ I h) ?_) ht
  rintro u s1 ⟨y, H1, I1, ry, a, dx, fs, rfl, ea, l, q⟩
  cases ry
  exact getmeth_ok I1 ea c hm l (PySem.W.callWith_K0 (first := [.ref a]) I1.kIn hm.kp (run_fnSD (us := [.ref a]) (vs := [.ref a]) F hr hb hd (hx σ) I1 (.cons rfl .nil) q))
theorem run_makeS {pins : List (Addr × Obj)} {σ : St} {H : Hp} {s : Shared} {Q : VK} {us : List Value} {vs : List V} (M : Mk X.K C f) (F : FnOk X.prog X.w X.K X.mg X.base CX k f fd ps sp) (hr : Room (k + 1) X.A) (hb : Binds X.K fd ps ds) (hd : Vals dvs ds)
    (hx : PassesAt CX X σ (E σ)) (I : Inv X pins σ H s) (r : Vals vs us)
    (h : ∀ y dx, H y = none → H dx = none → dx ≠ y → sp (.ref y :: (vs ++ dvs)) (upd (upd H dx (.own y)) y (.ins C dx [])) (fun v H2 => v = .non ∧ Q (.ref y) H2) (E σ)) :
    wpAny (model X.prog X.w) X.A (call (.ref C) us) (EP X pins σ Q) X.xe s := by
  have I2 := Inv.made (C := C) I
  have q := h (s.heap.objs.size + 1) s.heap.objs.size (I.hok.fresh (Nat.le_succ _)) (I.hok.fresh (Nat.le_refl _)) (Nat.ne_of_lt (Nat.lt_succ_self _))
  have rr : Vals (V.ref (s.heap.objs.size + 1) :: (vs ++ dvs)) (Value.ref (s.heap.objs.size + 1) :: us ++ ds) := .cons rfl (r.append hd)
  have hl : (Value.ref (s.heap.objs.size + 1) :: us ++ ds).length = ps.length := rr.length.symm.trans (F.len _ _ _ _ q)
  have run := F.run _ X.stack _ _ ⟨Value.ref (s.heap.objs.size + 1) :: us, []⟩ _ _ _ (E σ) (hr.make C us []) (I2.env0.make C us []) (hb _ (Value.ref (s.heap.objs.size + 1) :: us) I2.kIn hl) rr q
  refine wpAny_call (make_map (f := f) I.kIn M.makes M.init (beq_iff_eq.mp M.fn) (codeAny_mono run ?_))
  intro res s' hq
  match res, hq with
  | .error e, hq => exact hx pins _ _ e s' I2 hq
  | .ok (.ret u), hq =>
    obtain ⟨v, H', I3, rv, ev, q3⟩ := I2.after hq
    subst ev
    exact ⟨rv, V.ref (s.heap.objs.size + 1), H', I3, rfl, q3⟩
  | .ok .next, hq => exact hq.elim
  | .ok .brk, hq => exact hq.elim
  | .ok .cont, hq => exact hq.elim
theorem pe_makeS (M : Mk X.K C f) (F : FnOk X.prog X.w X.K X.mg X.base CX k f fd ps sp) (hr : Room (k + 1) X.A) (hg : Gl X x) (hm : X.mg x = some (.ref C)) (hb : Binds X.K fd ps ds) (hd : Vals dvs ds) (hx : ∀ σ, PassesAt CX X σ (E σ))
    (ha : PA X (e :: es) t) (hdb : (x == ("__debug__" : Str)) = false := by decide) (he : starEach (e :: es) X.env = (false, eval e X.env) :: starEach es X.env := by rfl) (hpl : (backTo pos (starEach es X.env)).any (·.1) = false := by rfl) :
    PE X (.Call (.Name x p) (e :: es) [] pos) (tMakeS C sp dvs E t) := by
  constructor
  intro pins s σ H Q I h
  refine wpAny_Call_Name_kw (ld_glob I hg hm (PySem.W.callWith_K (h₀ := X.base) I.ok.mod.kin M.kp (thn (ha.run pos pins s σ H _ I h) ?_) he hpl) hdb)
  rintro us s1 ⟨vs, H1, I1, r, q⟩
  exact ⟨I1.kIn, run_makeS M F hr hb hd (hx σ) I1 r q⟩
theorem pe_make0S (M : Mk X.K C f) (F : FnOk X.prog X.w X.K X.mg X.base CX k f fd ps sp) (hr : Room (k + 1) X.A) (hg : Gl X x) (hm : X.mg x = some (.ref C)) (hb : Binds X.K fd ps ds) (hd : Vals dvs ds) (hx : ∀ σ, PassesAt CX X σ (E σ))
    (hdb : (x == ("__debug__" : Str)) = false := by decide) : PE X (.Call (.Name x p) [] [] pos) (tMakeS C sp dvs E tNil) :=
  ⟨fun _ _ σ _ _ I h => wpAny_Call_Name_kw (ld_glob I hg hm (PySem.W.callWith_K0 I.kIn M.kp (run_makeS (us := []) M F hr hb hd (hx σ) I .nil h)) hdb)⟩
end
end L2

/-! Operators and built-ins by values, whatever the kinds of the operands; how a reading goes on is a lemma each. -/
namespace L2
open PySem PySem.Spec PyProof.Rows
abbrev Frg := PySem.W.Frag
/-! ### + -/
def rAddS : R2 := fun x y H Q => ∃ i j, x = .str i ∧ y = .str j ∧ i.length + j.length ≤ sizeLine ∧ Q (.str (i ++ j)) H
def rAddA : R2 := fun x y H Q => rI0 (fun i j => .int (i + j)) x y H Q ∨ rAddS x y H Q ∨ rCat x y H Q
theorem op_addA {X : Cx} : OpR X (binaryOp .Add) rAddA := op_add.or (OpR.or op_add_str op_cat)
theorem addA_int {i j : Int} {H : Hp} {Q : VK} (h : Q (.int (i + j)) H) : rAddA (.int i) (.int j) H Q := .inl ⟨_, _, rfl, rfl, h⟩
theorem addA_str {i j : Str} {H : Hp} {Q : VK} (hz : i.length + j.length ≤ sizeLine) (h : Q (.str (i ++ j)) H) : rAddA (.str i) (.str j) H Q := .inr (.inl ⟨_, _, rfl, rfl, hz, h⟩)
theorem addA_lst {a b : Addr} {xs ys : List V} {H : Hp} {Q : VK} (ha : H a = some (.lst xs)) (hb : H b = some (.lst ys)) (hz : xs.length + ys.length ≤ sizeLine) (h : ∀ p, H p = none → Q (.ref p) (upd H p (.lst (xs ++ ys)))) :
    rAddA (.ref a) (.ref b) H Q := .inr (.inr ⟨_, _, _, _, rfl, rfl, ha, hb, hz, h⟩)
/-! ### - // % ** -/
abbrev rSubA : R2 := rI0 fun i j => .int (i - j)
abbrev rDivA : R2 := rI CDivW fun i j => .int (i / j)
abbrev rModA : R2 := rI (fun _ j => 0 < j) fun i j => .int (i % j)
abbrev rPowA : R2 := rI CPow fun i j => .int (i ^ j.toNat)
theorem op_subA {X : Cx} : OpR X (binaryOp .Sub) rSubA := op_sub
theorem op_divA {X : Cx} : OpR X (binaryOp .FloorDiv) rDivA := op_fdivW
theorem op_modA {X : Cx} : OpR X (binaryOp .Mod) rModA := op_mod
theorem op_powA {X : Cx} : OpR X (binaryOp .Pow) rPowA := op_pow
/-! ### * -/
def repS (z : Str) (k : Nat) : Str := ⟨((List.replicate k z.cps.toList).flatten).toArray⟩
theorem fold_rep (z : Array Nat) : ∀ (n : Nat) (acc : Array Nat), (List.replicate n z).foldl (· ++ ·) acc = acc ++ ((List.replicate n z.toList).flatten).toArray
  | 0, acc => by simp
  | n + 1, acc => by
    rw [List.replicate_succ, List.foldl_cons, fold_rep z n, List.replicate_succ, List.flatten_cons]
    apply Array.ext'
    simp
theorem repS_length (z : Str) (k : Nat) : (repS z k).length = k * z.length := by
  show ((List.replicate k z.cps.toList).flatten).toArray.size = k * z.cps.size
  simp
def rRepS : R2 := fun x y H Q => ∃ z k, x = .str z ∧ y = .int k ∧ 0 ≤ k ∧ k ≤ 4096 ∧ z.length ≤ 4096 ∧ Q (.str (repS z k.toNat)) H
theorem op_repS {X : Cx} : OpR X (binaryOp .Mult) rRepS := by
  intro pins s σ H x y v u Q I rx ry h
  obtain ⟨z, k, rfl, rfl, h1, h2, h3, q⟩ := h
  obtain ⟨t, rfl⟩ := rx
  obtain ⟨t', rfl⟩ := ry
  have hs : sizeLine = 16777216 := sizeLine_eq
  by_cases k0 : k = 0
  · subst k0
    refine P.mul_str_none (by omega) (by omega) ?_
    have e0 : repS z (0 : Int).toNat = Str.empty := by show (⟨#[]⟩ : Str) = Str.empty; decide +kernel
    exact ⟨.str (repS z (0 : Int).toNat), H, I.tok _, ⟨_, by rw [e0]⟩, q⟩
  have hlen : z.length * k.toNat ≤ 16777216 := Nat.le_trans (Nat.mul_le_mul h3 (by omega : k.toNat ≤ 4096)) (by decide)
  refine P.mul_str (by rw [decide_eq_false (by omega), decide_eq_false (by omega)]; rfl) (fun _ _ => ?_) (fun _ _ => ?_) ?_
  · have hk : 0 < k := by omega
    have hd : (4096 : Int) ≤ (2 ^ 63 - 1) / k := by
      rw [Int.le_ediv_iff_mul_le hk]
      have : (4096 : Int) * k ≤ 4096 * 4096 := by omega
      omega
    omega
  · unfold PySem.Builtin.Str.tooLong
    rw [hs]
    exact decide_eq_false (by omega)
  · rw [if_neg (by omega)]
    by_cases hc : (k == 1 || z.length == 0) = true
    · rw [if_pos hc]
      have e : repS z k.toNat = z := by
        rcases Bool.or_eq_true_iff.mp hc with c | c
        · have : k = 1 := by simpa using c
          subst this
          unfold repS
          simp
        · have c0 : z.length = 0 := by simpa using c
          have hz : z.cps = #[] := Array.eq_empty_of_size_eq_zero c0
          obtain ⟨zc⟩ := z
          simp only at hz
          subst hz
          unfold repS
          simp
      rw [e] at q
      exact ⟨.str z, H, I, ⟨t, rfl⟩, q⟩
    · rw [if_neg hc]
      have e : (⟨(List.replicate k.toNat z.cps).foldl (· ++ ·) #[]⟩ : Str) = repS z k.toNat := by
        unfold repS
        rw [fold_rep]
        simp
      refine ⟨?_, ?_⟩
      · rw [e, repS_length, hs]
        rw [Nat.mul_comm]
        exact hlen
      · rw [e]
        exact ⟨.str (repS z k.toNat), H, I.tok _, ⟨_, rfl⟩, q⟩
def rMulA : R2 := fun x y H Q => rI CMul (fun i j => .int (i * j)) x y H Q ∨ rRep x y H Q ∨ rRepS x y H Q
theorem op_mulA {X : Cx} : OpR X (binaryOp .Mult) rMulA := op_mul.or (OpR.or op_rep op_repS)
theorem mulA_int {i j : Int} {H : Hp} {Q : VK} (hc : CMul i j) (h : Q (.int (i * j)) H) : rMulA (.int i) (.int j) H Q := .inl ⟨_, _, rfl, rfl, hc, h⟩
theorem mulA_str {z : Str} {k : Int} {H : Hp} {Q : VK} (h1 : 0 ≤ k) (h2 : k ≤ 4096) (h3 : z.length ≤ 4096) (h : Q (.str (repS z k.toNat)) H) : rMulA (.str z) (.int k) H Q := .inr (.inr ⟨_, _, rfl, rfl, h1, h2, h3, h⟩)
/-! ### == and != -/
def rEqA (K : Frg) : R2 := fun x y H Q => rEq x y H Q ∨ rEqD K x y H Q
def rNeA (K : Frg) : R2 := fun x y H Q => rNe x y H Q ∨ rNeD K x y H Q
theorem op_eqA {X : Cx} {k : Nat} (hr : Room k X.A) : OpR X (compareOp .Eq) (rEqA X.K) := op_eq.or (op_eqD hr.units)
theorem op_neA {X : Cx} {k : Nat} (hr : Room k X.A) : OpR X (compareOp .NotEq) (rNeA X.K) := op_ne.or (op_neD hr.units)
theorem decI (i j : Int) : decide (V.int i = V.int j) = decide (i = j) := by rw [dec_int, Bool.beq_eq_decide_eq]
theorem decS (i j : Str) : decide (V.str i = V.str j) = decide (i = j) := by rw [dec_str, Bool.beq_eq_decide_eq]
theorem eqA_int {K : Frg} {i j : Int} {H : Hp} {Q : VK} (h : Q (.bl (decide (i = j))) H) : rEqA K (.int i) (.int j) H Q := .inl ⟨rfl, by rw [decI]; exact h⟩
theorem eqA_str {K : Frg} {i j : Str} {H : Hp} {Q : VK} (h : Q (.bl (decide (i = j))) H) : rEqA K (.str i) (.str j) H Q := .inl ⟨rfl, by rw [decS]; exact h⟩
theorem neA_int {K : Frg} {i j : Int} {H : Hp} {Q : VK} (h : Q (.bl (!decide (i = j))) H) : rNeA K (.int i) (.int j) H Q := .inl ⟨rfl, by rw [decI]; exact h⟩
theorem neA_str {K : Frg} {i j : Str} {H : Hp} {Q : VK} (h : Q (.bl (!decide (i = j))) H) : rNeA K (.str i) (.str j) H Q := .inl ⟨rfl, by rw [decS]; exact h⟩
theorem eqA_data {K : Frg} {x y : V} {d e : PyData} {b : Bool} {H : Hp} {Q : VK} (hd : Dp K H x d) (he : Dp K H y e) (sd : SeqAt.shaped d = true) (se : SeqAt.shaped e = true) (hb : PyData.eqv d e = b) (h : Q (.bl b) H) : rEqA K x y H Q :=
  .inr ⟨d, e, hd, he, sd, se, by rw [hb]; exact h⟩
theorem neA_data {K : Frg} {x y : V} {d e : PyData} {b : Bool} {H : Hp} {Q : VK} (hd : Dp K H x d) (he : Dp K H y e) (sd : SeqAt.shaped d = true) (se : SeqAt.shaped e = true) (hb : PyData.eqv d e = b) (h : Q (.bl (!b)) H) : rNeA K x y H Q :=
  .inr ⟨d, e, hd, he, sd, se, by rw [hb]; exact h⟩
/-! ### < <= > >= -/
def rLtS : R2 := fun x y H Q => ∃ i j, x = .str i ∧ y = .str j ∧ Q (.bl (decide (i.cps.toList < j.cps.toList))) H
def rLtA : R2 := fun x y H Q => rI0 (fun i j => .bl (decide (i < j))) x y H Q ∨ rLtS x y H Q
theorem op_ltA {X : Cx} : OpR X (compareOp .Lt) rLtA := op_lt.or op_lt_str
abbrev rLeA : R2 := rI0 fun i j => .bl (decide (i ≤ j))
abbrev rGtA : R2 := rI0 fun i j => .bl (decide (j < i))
abbrev rGeA : R2 := rI0 fun i j => .bl (decide (j ≤ i))
theorem op_leA {X : Cx} : OpR X (compareOp .LtE) rLeA := op_le
theorem op_gtA {X : Cx} : OpR X (compareOp .Gt) rGtA := op_gt
theorem op_geA {X : Cx} : OpR X (compareOp .GtE) rGeA := op_ge
theorem ltA_int {i j : Int} {H : Hp} {Q : VK} (h : Q (.bl (decide (i < j))) H) : rLtA (.int i) (.int j) H Q := .inl ⟨_, _, rfl, rfl, h⟩
theorem i0_go {g : Int → Int → V} {i j : Int} {H : Hp} {Q : VK} (h : Q (g i j) H) : rI0 g (.int i) (.int j) H Q := ⟨_, _, rfl, rfl, h⟩
theorem i_go {C : Int → Int → Prop} {g : Int → Int → V} {i j : Int} {H : Hp} {Q : VK} (hc : C i j) (h : Q (g i j) H) : rI C g (.int i) (.int j) H Q := ⟨_, _, rfl, rfl, hc, h⟩
/-! ### in, not in -/
def rInS : R2 := fun x y H Q => ∃ (c : Nat) (z : Str), x = .str ⟨#[c]⟩ ∧ y = .str z ∧ Q (.bl (decide (c ∈ z.cps.toList))) H
def rNotInS : R2 := fun x y H Q => ∃ (c : Nat) (z : Str), x = .str ⟨#[c]⟩ ∧ y = .str z ∧ Q (.bl (!decide (c ∈ z.cps.toList))) H
def rInT : R2 := fun x y H Q => ∃ i j, x = .str i ∧ y = .str j ∧ Q (.bl (!(Builtin.Str.occurrences j i 0 j.length 1).isEmpty)) H
def rInA (K : Frg) : R2 := fun x y H Q => rInS x y H Q ∨ rIn K false x y H Q ∨ rInT x y H Q
def rNotInA (K : Frg) : R2 := fun x y H Q => rNotInS x y H Q ∨ rIn K true x y H Q
theorem op_inA {X : Cx} : OpR X (compareOp .In) (rInA X.K) := op_in_sign.or (OpR.or op_in_seq op_in_str)
theorem op_notInA {X : Cx} : OpR X (compareOp .NotIn) (rNotInA X.K) := op_notIn_sign.or op_notIn_seq
theorem inA_sign {K : Frg} {c : Nat} {z : Str} {H : Hp} {Q : VK} (h : Q (.bl (decide (c ∈ z.cps.toList))) H) : rInA K (.str ⟨#[c]⟩) (.str z) H Q := .inl ⟨c, z, rfl, rfl, h⟩
theorem notInA_sign {K : Frg} {c : Nat} {z : Str} {H : Hp} {Q : VK} (h : Q (.bl (!decide (c ∈ z.cps.toList))) H) : rNotInA K (.str ⟨#[c]⟩) (.str z) H Q := .inl ⟨c, z, rfl, rfl, h⟩
theorem inA_seq {K : Frg} {x : V} {p : Addr} {xs : List V} {H : Hp} {Q : VK} (hp : SqL K H p xs ∨ SqT K H p xs) (hx : flatV x = true) (ha : xs.all flatV = true) (h : Q (.bl (inV x xs)) H) : rInA K x (.ref p) H Q := .inr (.inl ⟨p, xs, rfl, hp, hx, ha, h⟩)
/-! ### is None -/
def rIsN' : R2 := fun x y H Q => y = .non ∧ Q (.bl (decide (x = .non))) H
def rNotN' : R2 := fun x y H Q => y = .non ∧ Q (.bl (!decide (x = .non))) H
theorem op_isA {X : Cx} : OpR X (compareOp .Is) rIsN' := op_isN
theorem op_isNotA {X : Cx} : OpR X (compareOp .IsNot) rNotN' := op_notN
/-! ### subscripts -/
abbrev rIxA := rIx
theorem ixA_lst {K : Frg} {p : Addr} {xs : List V} {i : Int} {v : V} {H : Hp} {Q : VK} (hp : SqL K H p xs) (hi : atI xs i = some v) (h : Q v H) : rIx K (.ref p) (.int i) H Q := .inl ⟨p, xs, i, v, rfl, rfl, hp, hi, h⟩
theorem ixA_tup {K : Frg} {p : Addr} {xs : List V} {i : Int} {v : V} {H : Hp} {Q : VK} (hp : SqT K H p xs) (hi : atI xs i = some v) (h : Q v H) : rIx K (.ref p) (.int i) H Q := .inr (.inl ⟨p, xs, i, v, rfl, rfl, hp, hi, h⟩)
theorem ixA_str {K : Frg} {z : Str} {i : Int} {c : Nat} {H : Hp} {Q : VK} (hz : z.length ≤ sizeLine) (hi : atI z.cps.toList i = some c) (h : Q (.str ⟨#[c]⟩) H) : rIx K (.str z) (.int i) H Q := .inr (.inr ⟨z, i, c, rfl, rfl, hz, hi, h⟩)
abbrev SlV := V → Option Int → Option Int → Hp → VK → Prop
def rSlA (K : Frg) : SlV := fun x lo hi H Q => rSlS x lo hi H Q ∨ rSlL K x lo hi H Q
theorem sl_A {X : Cx} : SlR X (rSlA X.K) := sl_str.or sl_list
theorem slA_str {K : Frg} {z : Str} {lo hi : Option Int} {H : Hp} {Q : VK} (hz : z.length ≤ sizeLine) (h : Q (.str (cutS z lo hi)) H) : rSlA K (.str z) lo hi H Q := .inl ⟨z, rfl, hz, h⟩
theorem slA_lst {K : Frg} {a : Addr} {xs : List V} {lo hi : Option Int} {H : Hp} {Q : VK} (ha : SqL K H a xs) (h : ∀ p, H p = none → Q (.ref p) (upd H p (.lst (cutV xs lo hi)))) : rSlA K (.ref a) lo hi H Q := .inr ⟨a, xs, rfl, ha, h⟩
/-! ### built-ins by their names -/
abbrev RC := List V → Hp → VK → Prop
def rLenA (K : Frg) : RC := fun xs H Q => ∃ x n, xs = [x] ∧ LenV K x H n ∧ Q (.int n) H
theorem c_len {X : Cx} : CallR X (.builtin "len") (rLenA X.K) := call_len
theorem lenA_str {K : Frg} {z : Str} {H : Hp} {Q : VK} (hz : z.length ≤ sizeLine) (h : Q (.int z.length) H) : rLenA K [.str z] H Q := ⟨_, _, rfl, ⟨hz, rfl⟩, h⟩
theorem lenA_lst {K : Frg} {a : Addr} {xs : List V} {H : Hp} {Q : VK} (ha : SqL K H a xs) (h : Q (.int xs.length) H) : rLenA K [.ref a] H Q := ⟨_, _, rfl, .inl ⟨_, ha, rfl⟩, h⟩
theorem lenA_tup {K : Frg} {a : Addr} {xs : List V} {H : Hp} {Q : VK} (ha : SqT K H a xs) (h : Q (.int xs.length) H) : rLenA K [.ref a] H Q := ⟨_, _, rfl, .inr ⟨_, ha, rfl⟩, h⟩
def rAbsA : RC := fun xs H Q => ∃ i, xs = [.int i] ∧ Q (.int (if i < 0 then -i else i)) H
theorem c_abs {X : Cx} : CallR X (.builtin "abs") rAbsA := call_abs
def rIntA : RC := fun xs H Q => (∃ i, xs = [.int i] ∧ Q (.int i) H) ∨ ∃ k, xs = [.bl k] ∧ Q (.int (if k then 1 else 0)) H
theorem c_int {X : Cx} : CallR X (.type "int") rIntA := call_int1
theorem intA_int {i : Int} {H : Hp} {Q : VK} (h : Q (.int i) H) : rIntA [.int i] H Q := .inl ⟨i, rfl, h⟩
def rListA (K : Frg) : RC := fun xs H Q => ∃ p ys, xs = [.ref p] ∧ (SqL K H p ys ∨ SqT K H p ys) ∧ ∀ l, H l = none → Q (.ref l) (upd H l (.lst ys))
theorem c_list {X : Cx} : CallR X (.type "list") (rListA X.K) := call_list_of
def rJoinA (K : Frg) : V → List V → Hp → VK → Prop := fun x xs H Q => ∃ a p, ∃ ys : List Str, x = .str a ∧ xs = [.ref p] ∧ (SqL K H p (ys.map V.str) ∨ SqT K H p (ys.map V.str)) ∧ (ys.map (·.length)).sum + ys.length * a.length ≤ 16777216 ∧ Q (.str (Txt.join a ys)) H
theorem pe_joinA {X : Cx} {o e : Expr} {to te : TE} {apos pos : Pos} (ho : PE X o to) (he : PE X e te) (h1 : starEach [e] X.env = [(false, eval e X.env)] := by rfl) (h2 : attributeBase o "join" X.env (eval o X.env) = eval o X.env := by rfl) (h3 : (apos.endLine == pos.line) = true := by rfl) :
    PE X (.Call (.Attribute o "join" apos) [e] [] pos) (tM1 (rJoinA X.K) to te) := pe_join ho he h1 h2 h3
def rIsiA (K : Frg) : RC := rIsi K
theorem c_isi {X : Cx} : CallR X (.builtin "isinstance") (rIsiA X.K) := call_isi
theorem isi_go {K : Frg} {x c : V} {t u : Value} {b : Bool} {H : Hp} {Q : VK} (hc : ClsV c u) (ht : TyX K H x t) (hk : PySem.W.kitOne K t u = some b) (h : Q (.bl b) H) : rIsiA K [x, c] H Q := ⟨x, c, t, u, b, rfl, hc, ht, hk, h⟩
/-! ### constants of the module -/
theorem pe_gint {X : Cx} {x : Str} {i : Int} {pos : Pos} (hg : Gl X x) (hm : ∃ t, X.mg x = some (.int i t)) (hd : (x == ("__debug__" : Str)) = false := by decide) : PE X (.Name x pos) (tC (.int i)) :=
  let ⟨t, h⟩ := hm; pe_glob hg h ⟨t, rfl⟩ hd
theorem pe_gstr {X : Cx} {x z : Str} {pos : Pos} (hg : Gl X x) (hm : ∃ t, X.mg x = some (.str z t)) (hd : (x == ("__debug__" : Str)) = false := by decide) : PE X (.Name x pos) (tC (.str z)) :=
  let ⟨t, h⟩ := hm; pe_glob hg h ⟨t, rfl⟩ hd
/-- what a def wishes of exceptions -/
def W0 (E : XK) : WX := fun cls d _ H => E cls d H
def WN : WX := fun _ _ _ _ => False
end L2

/-! Built-ins and operators over instances of the program's own classes. -/
namespace L2
open PySem PySem.Spec PyProof.Rows
section
variable {X : Cx} {CX : CXT} {k : Nat} {f C a dx : Addr} {fs : List (Str × V)} {fd : FuncData} {ps : List Str} {sp : Sp} {dvs : List V} {ds : List Value} {pins : List (Addr × Obj)} {σ : St} {H : Hp} {s : Shared}
/-- a def of the text runs within a built-in -/
theorem run_in {A' : Around} {Q : VK} {E : XK} {us : List Value} {vs : List V} (F : FnOk X.prog X.w X.K X.mg X.base CX k f fd ps sp) (hr : Room k A') (hfr : A'.frames = X.A.frames) (hb : Binds X.K fd ps ds) (hd : Vals dvs ds)
    (hx : PassesAt CX X σ E) (I : Inv X pins σ H s) (r : Vals vs us) (h : sp (vs ++ dvs) H Q E) : wpAny (model X.prog X.w) A' (call (.ref f) us) (EP X pins σ Q) X.xe s := by
  have e0 := I.env0
  have e1 : Env0 X.prog X.w X.K X.mg X.base A' X.stack s H := ⟨hfr.trans e0.frames, e0.mod, e0.bs, e0.bsz, e0.funs, e0.frf, e0.hok, e0.bare⟩
  have rr : Vals (vs ++ dvs) (us ++ ds) := r.append hd
  refine wpAny_call (codeAny_mono (F.run A' X.stack s H ⟨us, []⟩ _ _ Q E hr e1 (hb s us I.kIn (rr.length.symm.trans (F.len _ _ _ _ h))) rr h) ?_)
  intro res s' hq
  match res, hq with
  | .error e, hq => exact hx pins H s e s' I hq
  | .ok (.ret u), hq => exact I.after hq
  | .ok .next, hq => exact hq.elim
  | .ok .brk, hq => exact hq.elim
  | .ok .cont, hq => exact hq.elim
/-- an instance as the library's rules see it -/
theorem Inv.instAt (I : Inv X pins σ H s) (ea : H a = some (.ins C dx fs)) : ∃ od, PySem.W.InstAt s.heap a (PySem.W.instObj C dx) C (some od) := by
  obtain ⟨mA, O, _⟩ := ins_get I.hok ea
  obtain ⟨od, J, _⟩ := O.look
  exact ⟨od, J⟩
/-- str(o), o's class with a __str__ of the program -/
def rStrO (C : Addr) (sp : Sp) (E : St → XK) (σ : St) : List V → Hp → VK → Prop := fun xs H Q => ∃ a dx fs, xs = [.ref a] ∧ H a = some (.ins C dx fs) ∧ sp [.ref a] H (fun v H' => ∃ z, v = .str z ∧ Q (.str z) H') (E σ)
def tStrO (C : Addr) (sp : Sp) (E : St → XK) (t : TA) : TE := fun σ H Q => t σ H fun vs H1 => rStrO C sp E σ vs H1 Q
theorem pe_strO {E : St → XK} {p pos : Pos} {e : Expr} {es : List Expr} {t : TA} (m : Meth X.K C "__str__" f) (F : FnOk X.prog X.w X.K X.mg X.base CX k f fd ps sp) (hr : Room (k + 2) X.A) (hb : Binds X.K fd ps []) (hx : ∀ σ, PassesAt CX X σ (E σ))
    (hg : Gl X "str") (hm : X.mg "str" = none) (ha : PA X (e :: es) t)
    (he : starEach (e :: es) X.env = (false, eval e X.env) :: starEach es X.env := by rfl) (hpl : (backTo pos (starEach es X.env)).any (·.1) = false := by rfl) : PE X (.Call (.Name "str" p) (e :: es) [] pos) (tStrO C sp E t) := by
  constructor
  intro pins s σ H Q I h
  refine wpAny_Call_Name_kw (ld_blt I hg hm (by decide +kernel : bootBuiltins "str" = some (.type "str")) ?_ (by decide) (by decide))
  refine PyProof.Rows.callWith_type1 (thn (ha.run pos pins s σ H _ I h) ?_) he hpl
  rintro us s1 ⟨vs, H1, I1, r1, a, dx, fs, rfl, ea, q⟩
  cases r1 with
  | cons ra rn =>
    cases rn
    cases ra
    obtain ⟨od, J⟩ := I1.instAt ea
    refine PySem.W.kso_call (hr.in1.in1.units0) I1.kIn J m.at_ m.fn (thn (run_in (vs := [.ref a]) (dvs := []) (ds := []) F hr.in1.in1 rfl hb .nil (hx σ) I1 (.cons rfl .nil) (by simpa using q)) ?_)
    rintro v s2 ⟨x, H2, I2, rx, z, rfl, q2⟩
    obtain ⟨t, rfl⟩ := rx
    exact ⟨.str z, H2, I2, ⟨t, rfl⟩, q2⟩
end
end L2

/-! What the head tells of the written part: a Bool of facts, and the function objects by their places. -/
namespace Rz
open PySem PySem.Spec PyProof.Rows L2 He
abbrev Fg := PySem.W.Frag
/-! ### looking into K -/
def funOf (K : Fg) (f : Addr) : Option FuncData := match K.lookup f with
  | some o => (match o.data with
    | .func fd => some fd
    | _ => none)
  | none => none
theorem funOf_ok {K : Fg} {f : Addr} {fd : FuncData} (h : funOf K f = some fd) : ∃ oc od osl, K.lookup f = some ⟨oc, od, .func fd, osl⟩ := by
  unfold funOf at h
  cases q : K.lookup f with
  | none => rw [q] at h; cases h
  | some o =>
    obtain ⟨oc, od, dt, osl⟩ := o
    rw [q] at h
    cases dt with
    | func fd' =>
      have e : fd' = fd := Option.some.inj h
      subst e
      exact ⟨oc, od, osl, rfl⟩
    | _ => cases h
theorem funOf_eq {K : Fg} {f : Addr} {fd : FuncData} {oc od osl} (h : K.lookup f = some ⟨oc, od, .func fd, osl⟩) : funOf K f = some fd := by
  unfold funOf
  rw [h]
def fldsOf (K : Fg) (a : Addr) : Option (Array Value) := match K.lookup a with
  | some o => (match o.data with
    | .fields vs => some vs
    | _ => none)
  | none => none
theorem fldsOf_ok {K : Fg} {a : Addr} {vs : Array Value} (h : fldsOf K a = some vs) : ∃ oc od osl, K.lookup a = some ⟨oc, od, .fields vs, osl⟩ := by
  unfold fldsOf at h
  cases q : K.lookup a with
  | none => rw [q] at h; cases h
  | some o =>
    obtain ⟨oc, od, dt, osl⟩ := o
    rw [q] at h
    cases dt with
    | fields v =>
      have e : v = vs := Option.some.inj h
      subst e
      exact ⟨oc, od, osl, rfl⟩
    | _ => cases h
def cellOf (K : Fg) (a : Addr) : Option (Option Value) := match K.lookup a with
  | some o => (match o.data with
    | .cell v => some v
    | _ => none)
  | none => none
theorem cellOf_ok {K : Fg} {a : Addr} {v : Option Value} (h : cellOf K a = some v) : ∃ oc od osl, K.lookup a = some ⟨oc, od, .cell v, osl⟩ := by
  unfold cellOf at h
  cases q : K.lookup a with
  | none => rw [q] at h; cases h
  | some o =>
    obtain ⟨oc, od, dt, osl⟩ := o
    rw [q] at h
    cases dt with
    | cell u =>
      have e : u = v := Option.some.inj h
      subst e
      exact ⟨oc, od, osl, rfl⟩
    | _ => cases h
def strOf? : Value → Option Str
  | .str x _ => some x
  | _ => none
theorem strOf?_ok {v : Value} {x : Str} (h : strOf? v = some x) : ∃ t, v = .str x t := by
  cases v with
  | str y t =>
    have e : y = x := Option.some.inj h
    exact ⟨t, by rw [e]⟩
  | _ => cases h
def refOf? : Value → Option Addr
  | .ref a => some a
  | _ => none
theorem refOf?_ok {v : Value} {a : Addr} (h : refOf? v = some a) : v = .ref a := by
  cases v with
  | ref b => exact congrArg Value.ref (Option.some.inj h)
  | _ => cases h
def clsOf (K : Fg) (a : Addr) : Option (ClassData × Array (Option Value)) := match K.lookup a with
  | some o => (match o.data with
    | .cls cd => (match decide (o.cls = .type "type") with
      | true => some (cd, o.slots)
      | false => none)
    | _ => none)
  | none => none
theorem clsOf_ok {K : Fg} {a : Addr} {cd : ClassData} {sl : Array (Option Value)} (h : clsOf K a = some (cd, sl)) : ∃ od, K.lookup a = some ⟨.type "type", od, .cls cd, sl⟩ := by
  unfold clsOf at h
  cases q : K.lookup a with
  | none => rw [q] at h; cases h
  | some o =>
    obtain ⟨oc, od, dt, osl⟩ := o
    rw [q] at h
    cases dt with
    | cls c =>
      cases e : decide (oc = Value.type "type") with
      | false =>
        simp only [e] at h
        cases h
      | true =>
        simp only [e] at h
        have e1 := Option.some.inj h
        have e2 : c = cd := congrArg Prod.fst e1
        have e3 : osl = sl := congrArg Prod.snd e1
        have e4 : oc = .type "type" := of_decide_eq_true e
        subst e2 e3 e4
        exact ⟨od, rfl⟩
    | _ => cases h
/-! ### where a function stands -/
def pG (x : Str) : Fg → Addr := fun K => ga K x
def pM (C m : Str) : Fg → Addr := fun K => ma K (ga K C) m
/-- the record that a class has at a name (a property's, a classmethod's) -/
def recAt (C m : Str) : Fg → Addr := fun K => ma K (ga K C) m
def firstOf (n : String) (p : Addr) (K : Fg) : Addr := match PySem.W.recIn K p n with
  | some (.ref g :: _) => g
  | _ => 0
def pP (C m : Str) : Fg → Addr := fun K => firstOf "property" (recAt C m K) K
def pC (C m : Str) : Fg → Addr := fun K => firstOf "classmethod" (recAt C m K) K
/-! ### a function's datum -/
structure Dq where
  at_ : Fg → Addr
  name : Str
  qual : Str
  params : Arguments
  body : List Stmt
  scope : Scope
  clo : List Str := []
  dfl : List Dv := []
  kwd : List (Str × Dv) := []
abbrev FnQ : Type := Option (Str × Str × Arguments × FuncBody × Scope × Addr × List Str × Addr)
def fnQ (K : Fg) (f : Addr) : FnQ := (funOf K f).map fun fd => (fd.name, fd.qualname, fd.params, fd.body, fd.scope, fd.globals, fd.closure.map (·.1), fd.builtins)
def Dq.val (d : Dq) : FnQ := some (d.name, d.qual, d.params, .stmts d.body, d.scope, mainGlobals, d.clo, builtinsNs)
def Dq.dvs (K : Fg) (d : Dq) : List V := d.dfl.map (Dv.v K)
def Dq.kws (K : Fg) (d : Dq) : List (Str × V) := d.kwd.map fun q => (q.1, q.2.v K)
def Dq.ok (K : Fg) (d : Dq) : Bool := PySem.W.keepIn K (.ref (d.at_ K)) && (match funOf K (d.at_ K) with
  | some fd => PySem.W.codeIn K fd.code d.qual && (dflB K fd.defaults (d.dvs K) && kwdB K fd.kwdefaults (d.kws K))
  | none => false)
theorem Dq.parts {K : Fg} {d : Dq} (e : fnQ K (d.at_ K) = d.val) (c : d.ok K = true) : ∃ oc od osl cl dV kV doc pm an cdv ct, K.lookup (d.at_ K) = some ⟨oc, od, .func (PySem.W.fnX d.name d.qual d.params d.body d.scope cl dV kV doc pm an cdv ct), osl⟩ ∧ cl.map (·.1) = d.clo ∧
    PySem.W.keepIn K (.ref (d.at_ K)) = true ∧ PySem.W.codeIn K cdv d.qual = true ∧ DflV K dV (d.dvs K) ∧ KwdV K kV (d.kws K) := by
  unfold Dq.ok at c
  unfold fnQ at e
  obtain ⟨kp, c2⟩ := ba c
  cases q : funOf K (d.at_ K) with
  | none => rw [q] at c2; cases c2
  | some fd =>
    rw [q] at c2 e
    obtain ⟨oc, od, osl, lk⟩ := funOf_ok q
    obtain ⟨n1, n2, n3, n4, n5, n6, n7, n8, n9, n10, n11, n12, n13, n14, n15⟩ := fd
    simp only [Dq.val, Option.map_some, Option.some.injEq, Prod.mk.injEq] at e
    obtain ⟨h1, h2, h3, h4, h5, h6, h7, h8⟩ := e
    subst h1 h2 h3 h4 h5 h6 h8
    obtain ⟨k1, k2⟩ := ba c2
    obtain ⟨k3, k4⟩ := ba k2
    exact ⟨oc, od, osl, n7, n8, n9, n10, n11, n12, n13, n14, lk, h7, kp, k1, dflB_ok k3, kwdB_ok k4⟩
theorem Dq.funD {K : Fg} {d : Dq} (e : fnQ K (d.at_ K) = d.val) (c : d.ok K = true) (hc : d.clo = []) : ∃ fd, FunD K d.name d.qual d.params d.body d.scope (d.dvs K) (d.kws K) (d.at_ K) fd := by
  obtain ⟨oc, od, osl, cl, dV, kV, doc, pm, an, cdv, ct, h1, h2, h3, h4, h5, h6⟩ := Dq.parts e c
  rw [hc] at h2
  have : cl = [] := List.map_eq_nil_iff.mp h2
  subst this
  exact ⟨_, ⟨oc, od, dV, kV, doc, pm, an, cdv, ct, osl, rfl, h1, h4, h5, h6⟩, h3⟩
/-! ### facts of classes -/
def gloB (x : Str) : Fg → Bool := fun K => (Fa.glo x).ok K
def firstB (n : String) (p : Addr) (K : Fg) : Bool := decide ((PySem.W.recIn K p n).bind List.head? = some (.ref (firstOf n p K)))
theorem firstB_ok {n : String} {p : Addr} {K : Fg} (h : firstB n p K = true) : ∃ rest, PySem.W.recIn K p n = some (.ref (firstOf n p K) :: rest) := by
  have e := of_decide_eq_true h
  cases q : PySem.W.recIn K p n with
  | none => rw [q] at e; cases e
  | some l =>
    rw [q] at e
    cases l with
    | nil => cases e
    | cons v r =>
      have ev : v = .ref (firstOf n p K) := Option.some.inj e
      exact ⟨r, by rw [ev]⟩
def propB (C m : Str) : Fg → Bool := fun K => eqO (PySem.W.findIn K (.ref (ga K C)) m) (some (some (.ref (recAt C m K)))) && (eqO (PySem.W.specialIn K (.ref (recAt C m K)) "__get__") (some (some (.builtin "property.__get__"))) &&
  (decide (PySem.W.takesIn K (.ref (recAt C m K)) = some true) && firstB "property" (recAt C m K) K))
theorem propB_ok {C m : Str} {K : Fg} (h : propB C m K = true) : PropOf K (ga K C) m (recAt C m K) (pP C m K) := by
  obtain ⟨h1, h⟩ := ba h
  obtain ⟨h2, h⟩ := ba h
  obtain ⟨h3, h4⟩ := ba h
  exact ⟨eqO_ok h1, eqO_ok h2, of_decide_eq_true h3, firstB_ok h4⟩
/-- an exception class of the program -/
def mroVE (C : Addr) (l : List Value) : Bool := decide (l.head? = some (.ref C)) && PySem.HandSPX.refsVE l.tail
def slotsVE (sl : Array (Option Value)) : Bool := decide (sl.size = 6) && decide (sl[4]? = some (some (.builtin "ValueError.__new__")))
def clsVE (K : Fg) (C : Addr) : Bool := match clsOf K C with
  | some (cd, sl) => mroVE C cd.mro && (cd.hasDict && (!cd.hasDel && slotsVE sl))
  | none => false
theorem clsVE_ok {K : Fg} {C : Addr} (h : clsVE K C = true) : ∃ nm q N bs bm sn sub ab col dd k0 k1 k2 k3 k5, K.lookup C = some (excClassObj nm q C N bs bm true sn sub ab col dd k0 k1 k2 k3 k5 "ValueError.__new__") ∧ PySem.HandSPX.refsVE bm = true := by
  unfold clsVE at h
  cases q : clsOf K C with
  | none => rw [q] at h; cases h
  | some r =>
    obtain ⟨cd, sl⟩ := r
    rw [q] at h
    obtain ⟨od, lk⟩ := clsOf_ok q
    obtain ⟨nm, bs, mro, N, qn, hd, sn, sub, ab, col, del⟩ := cd
    obtain ⟨h2, h⟩ := ba (show (mroVE C mro && (hd && (!del && slotsVE sl))) = true from h)
    obtain ⟨h3, h⟩ := ba h
    obtain ⟨h4, h5⟩ := ba h
    have e4 : del = false := by simpa using h4
    subst h3 e4
    obtain ⟨h6, h7⟩ := ba h2
    obtain ⟨h8, h9⟩ := ba h5
    cases mro with
    | nil => cases of_decide_eq_true h6
    | cons v bm =>
      have ev : v = .ref C := Option.some.inj (of_decide_eq_true h6)
      subst ev
      obtain ⟨l⟩ := sl
      have z : l.length = 6 := of_decide_eq_true h8
      have z4 : l[4]? = some (some (.builtin "ValueError.__new__")) := by simpa using of_decide_eq_true h9
      obtain ⟨k0, l, rfl⟩ := List.exists_cons_of_length_eq_add_one z
      obtain ⟨k1, l, rfl⟩ := List.exists_cons_of_length_eq_add_one (Nat.succ.inj z)
      obtain ⟨k2, l, rfl⟩ := List.exists_cons_of_length_eq_add_one (Nat.succ.inj (Nat.succ.inj z))
      obtain ⟨k3, l, rfl⟩ := List.exists_cons_of_length_eq_add_one (Nat.succ.inj (Nat.succ.inj (Nat.succ.inj z)))
      obtain ⟨k4, l, rfl⟩ := List.exists_cons_of_length_eq_add_one (Nat.succ.inj (Nat.succ.inj (Nat.succ.inj (Nat.succ.inj z))))
      obtain ⟨k5, l, rfl⟩ := List.exists_cons_of_length_eq_add_one (Nat.succ.inj (Nat.succ.inj (Nat.succ.inj (Nat.succ.inj (Nat.succ.inj z)))))
      have e0 : l = [] := List.eq_nil_of_length_eq_zero (Nat.succ.inj (Nat.succ.inj (Nat.succ.inj (Nat.succ.inj (Nat.succ.inj (Nat.succ.inj z))))))
      have e4 : k4 = some (.builtin "ValueError.__new__") := by simpa using z4
      subst e0 e4
      exact ⟨nm, qn, N, bs, bm, sn, sub, ab, col, od, k0, k1, k2, k3, k5, lk, h7⟩
def excB (x : Str) : Fg → Bool := fun K => clsVE K (ga K x) && (eqO (PySem.W.findIn K (.ref (ga K x)) "__setattr__") (some (some (.builtin "object.__setattr__"))) && (PySem.W.keepIn K (.ref (ga K x)) && (decide (PySem.W.subIn K (.ref (ga K x)) (.type "BaseException") = some true) &&
  (decide (PySem.W.subIn K (.ref (ga K x)) (.type "ValueError") = some true) && (decide (PySem.W.typeIn K (.ref (ga K x)) = some (.type "type")) && (eqO (PySem.W.nsIn K cStatics "thirdparty.any") (some none) && xfB K (ga K x)))))))
theorem excB_ok {x : Str} {K : Fg} (h : excB x K = true) : ExC K (ga K x) ∧ XfC K (ga K x) := by
  obtain ⟨h1, h⟩ := ba h
  obtain ⟨h2, h⟩ := ba h
  obtain ⟨h3, h⟩ := ba h
  obtain ⟨h4, h⟩ := ba h
  obtain ⟨h5, h⟩ := ba h
  obtain ⟨h6, h⟩ := ba h
  obtain ⟨h7, h8⟩ := ba h
  exact ⟨⟨clsVE_ok h1, eqO_ok h2, h3, of_decide_eq_true h4, of_decide_eq_true h5, of_decide_eq_true h6, eqO_ok h7⟩, xfB_ok h8⟩
/-- its __init__: the cell of __class__, the code object -/
def ccOf (f : Addr) (K : Fg) : Addr := match funOf K f with
  | some fd => (match fd.closure.head? with
    | some q => q.2
    | none => 0)
  | none => 0
def cdOf (f : Addr) (K : Fg) : Addr := match funOf K f with
  | some fd => (refOf? fd.code).getD 0
  | none => 0
def fileB (P : Program) (c : Addr) (K : Fg) : Bool := match (fldsOf K c).bind fun vs => vs[2]?.bind strOf? with
  | some file => (P.main.file : Str) == file
  | none => false
theorem fileB_ok {P : Program} {c : Addr} {K : Fg} (h : fileB P c K = true) : ∃ (ccl : Value) (cdd : Option Addr) (vs : Array Value) (ccs : Array (Option Value)) (file : Str) (tf : Tok),
    K.lookup c = some ⟨ccl, cdd, .fields vs, ccs⟩ ∧ vs[2]? = some (.str file tf) ∧ ((P.main.file : Str) == file) = true := by
  unfold fileB at h
  cases q : fldsOf K c with
  | none => rw [q] at h; cases h
  | some vs =>
    rw [q] at h
    obtain ⟨oc, od, osl, lk⟩ := fldsOf_ok q
    cases q2 : vs[2]? with
    | none =>
      simp only [Option.bind_some, q2, Option.bind_none] at h
      cases h
    | some v =>
      simp only [Option.bind_some, q2] at h
      cases q3 : strOf? v with
      | none => rw [q3] at h; cases h
      | some file =>
        rw [q3] at h
        obtain ⟨t, rfl⟩ := strOf?_ok q3
        exact ⟨oc, od, vs, osl, file, t, lk, q2, h⟩
def iniB (P : Program) (x : Str) : Fg → Bool := fun K => eqO (PySem.W.findIn K (.ref (ga K x)) "__init__") (some (some (.ref (pM x "__init__" K)))) && (decide (PySem.W.typeIn K (.ref (pM x "__init__" K)) = some (.type "function")) &&
  (fileB P (cdOf (pM x "__init__" K) K) K && (decide (cellOf K (ccOf (pM x "__init__" K) K) = some (some (.ref (ga K x)))) && eqO (PySem.W.ks_superIn K (ga K x) (ga K x) "__init__") (some (some (.builtin "ValueError.__init__"))))))
theorem iniB_ok {P : Program} {x : Str} {K : Fg} {d : Dq} (h : iniB P x K = true) (ht : (P.main.scope.names.lookup ("super" : Str)).isSome = false) (hd : d.at_ = pM x "__init__") (e : fnQ K (d.at_ K) = d.val) (c : d.ok K = true) (hc : d.clo = [("__class__" : Str)]) (hdf : d.dfl = []) :
    ExF P K (ga K x) (pM x "__init__" K) (ccOf (pM x "__init__" K) K) (cdOf (pM x "__init__" K) K) d.params d.body d.scope := by
  obtain ⟨h1, h⟩ := ba h
  obtain ⟨h2, h⟩ := ba h
  obtain ⟨h3, h⟩ := ba h
  obtain ⟨h4, h5⟩ := ba h
  obtain ⟨oc, od, osl, cl, dV, kV, doc, pm, an, cdv, ct, g1, g2, g3, g4, g5, g6⟩ := Dq.parts e c
  rw [hc] at g2
  rw [hd] at g1
  obtain ⟨cc, rfl⟩ : ∃ cc, cl = [(("__class__" : Str), cc)] := by
    cases cl with
    | nil => cases g2
    | cons p r =>
      obtain ⟨n, cc⟩ := p
      cases r with
      | nil =>
        have : n = "__class__" := by simpa using g2
        exact ⟨cc, by rw [this]⟩
      | cons _ _ => simp at g2
  have hdv : dV = .none := by
    rcases g5 with ⟨_, z⟩ | ⟨z, _⟩
    · exact z
    · exact absurd (by unfold Dq.dvs; rw [hdf]; rfl) z
  subst hdv
  obtain ⟨cda, rfl⟩ : ∃ cda, cdv = .ref cda := by
    cases cdv with
    | ref a => exact ⟨a, rfl⟩
    | _ => cases g4
  have ecc : ccOf (pM x "__init__" K) K = cc := by
    unfold ccOf
    rw [funOf_eq g1]
    rfl
  have ecd : cdOf (pM x "__init__" K) K = cda := by
    unfold cdOf
    rw [funOf_eq g1]
    rfl
  rw [ecc, ecd]
  rw [ecc] at h4
  rw [ecd] at h3
  refine ⟨eqO_ok h1, of_decide_eq_true h2, ⟨oc, od, d.name, d.qual, kV, doc, pm, ct, an, osl, g1, g4⟩, fileB_ok h3, ?_, eqO_ok h5, ht⟩
  obtain ⟨a, b, c', q⟩ := cellOf_ok (of_decide_eq_true h4)
  exact ⟨a, b, c', q⟩
/-! ### the Hook -/
def growR (g : Addr → Option Obj) (as : List Addr) : List Addr := growD g as
def asR (g : Addr → Option Obj) : Nat → List Addr
  | 0 => [mainGlobals, cStatics]
  | n + 1 => growR g (asR g n)
abbrev AlR : Type := Bool × List FnQ
def obsR (fa : List (Fg → Bool)) (fn : List Dq) (K : Fg) : AlR := ((fa.all fun f => f K) && fn.all fun d => d.ok K, fn.map fun d => fnQ K (d.at_ K))
def valR (fn : List Dq) : AlR := (true, fn.map Dq.val)
def SaysR (fa : List (Fg → Bool)) (fn : List Dq) (K : Fg) : Prop := obsR fa fn K = valR fn
def obsRG (n : Nat) (fa : List (Fg → Bool)) (fn : List Dq) (g : Addr → Option Obj) : AlR := obsR fa fn (frG g (asR g n))
def hookR (n : Nat) (fa : List (Fg → Bool)) (fn : List Dq) : PySem.W.Hook where
  α := AlR
  obs := fun s => obsRG n fa fn s.heap.get?
  val := fun _ => valR fn
  says := fun _ h => ∃ K : Fg, K.In h ∧ SaysR fa fn K
  of := fun _ _ e => ⟨_, frG_in, e⟩
  keeps := fun _ _ _ ⟨K, hK, c⟩ k => ⟨K, PySem.W.Frag.In.keeps hK k, c⟩
theorem obsRG_eq {n : Nat} {fa : List (Fg → Bool)} {fn : List Dq} {g : Addr → Option Obj} {s : Shared} (h : ∀ a, g a = s.heap.get? a) : obsRG n fa fn g = (hookR n fa fn).obs s := by
  have e : g = s.heap.get? := funext h
  rw [e] <;> rfl
section
variable {fa : List (Fg → Bool)} {fn : List Dq} {K : Fg}
theorem SaysR.fact (c : SaysR fa fn K) (i : Nat) {f : Fg → Bool} (h : fa[i]? = some f := by rfl) : f K = true := by
  have c1 := (ba (show ((fa.all fun f => f K) && fn.all fun d => d.ok K) = true from congrArg Prod.fst c)).1
  exact List.all_eq_true.mp c1 f (List.mem_of_getElem? h)
theorem SaysR.def_ (c : SaysR fa fn K) (i : Nat) {d : Dq} (h : fn[i]? = some d := by rfl) : fnQ K (d.at_ K) = d.val ∧ d.ok K = true := by
  have c2 := (ba (show ((fa.all fun f => f K) && fn.all fun d => d.ok K) = true from congrArg Prod.fst c)).2
  have e : fn.map (fun d => fnQ K (d.at_ K)) = fn.map Dq.val := congrArg Prod.snd c
  have e2 : (fn.map fun d => fnQ K (d.at_ K))[i]? = (fn.map Dq.val)[i]? := by rw [e]
  rw [List.getElem?_map, List.getElem?_map, h] at e2
  exact ⟨Option.some.inj e2, List.all_eq_true.mp c2 d (List.mem_of_getElem? h)⟩
theorem SaysR.fun_ (c : SaysR fa fn K) (i : Nat) {d : Dq} (h : fn[i]? = some d := by rfl) (hc : d.clo = [] := by rfl) : ∃ fd, FunD K d.name d.qual d.params d.body d.scope (d.dvs K) (d.kws K) (d.at_ K) fd :=
  let ⟨e, k⟩ := c.def_ i h; Dq.funD e k hc
end
end Rz

/-! Names for readings. -/
namespace L2
open PySem PySem.Spec PyProof.Rows
def tRaise (mk : St → Hp → XK → Prop) (W : WX) : TS := fun _ σ H => mk σ H fun cls d H' => W cls d σ H'
def tTry (K : Frg) (W : WX) (tb : WX → TS) (l : List Clause) : TS := fun D σ H => tb (wMix K W D l) D σ H
theorem ps_tryM {X : Cx} {body : List Stmt} {h₀ : ExceptHandler} {hds : List ExceptHandler} {l : List Clause} {pos : Pos} {tb : WX → TS} {Wout : WX} (hs : X.stack = X.env :: X.outer) (hf : X.env.frame = some X.env.locals) (hN : X.N.Nodup) (tk : Takes X Wout)
    (hb : ∀ (W : WX) (pn : List (Addr × Obj)) (xe : Value → Shared → Prop), Takes (X.tr pn xe) W → PassesOwn (model X.prog X.w) X.A X.env xe → PSs (X.tr pn xe) body (tb W)) (hh : HdsMix X (h₀ :: hds) l) :
    PS X (.Try body (h₀ :: hds) [] [] pos) (tTry X.K Wout tb l) := ps_try_mix hs hf hN tk hb hh
def tJoined (ts : List TE) : TE := fun σ H Q => tJs ts Str.empty σ H fun out H1 => Q (.str out) H1
def tTruth (K : Frg) (ta : TE) : TT := fun σ H Q => ta σ H fun x H' => ∃ k, TruV K x H' k ∧ Q k H'
abbrev rNegA : V → Hp → VK → Prop := rU fun i => .int (-i)
end L2

/-! How a reading goes on, one lemma a construct. -/
namespace L2
open PySem PySem.Spec PyProof.Rows
section
variable {K : Frg} {σ : St} {H : Hp} {Q : VK} {D : Ends} {ta tb tc : TE} {t u : TS} {tt tt' : TT} {g : TG} {i : Nat} {v : V} {tl tr : TA} {W : WX} {E : XK} {B : Bool → Hp → Prop} {QL : List V → Hp → Prop}
theorem rd_seq (h : t { D with nx := u D } σ H) : tSeq t u D σ H := h
theorem rd_next (h : D.nx σ H) : tNext D σ H := h
theorem rd_asg (h : ta σ H fun x H1 => g x σ H1 D.nx) : tAsg ta g D σ H := h
theorem rd_name {R : St → Hp → Prop} (h : R (σ.set i (some v)) H) : gName i v σ H R := h
theorem rd_drop (h : ta σ H fun _ H1 => D.nx σ H1) : tDrop ta D σ H := h
theorem rd_ret (h : ta σ H D.rt) : tRet ta D σ H := h
theorem rd_retN (h : D.rt .non H) : tRetN D σ H := h
theorem rd_if (h : tt σ H fun b H1 => (b = true → t D σ H1) ∧ (b = false → u D σ H1)) (hm : ∀ {P P' : Bool → Hp → Prop}, (∀ b H, P b H → P' b H) → tt σ H P → tt σ H P') : tIfS tt t u D σ H :=
  hm (fun b H1 ⟨h1, h2⟩ => by cases b; exact h2 rfl; exact h1 rfl) h
theorem rd_ifS (h : tt σ H fun b H1 => if b = true then t D σ H1 else u D σ H1) : tIfS tt t u D σ H := h
theorem rd_var (e : σ[i]? = some (some v)) (h : Q v H) : tVar i σ H Q := ⟨v, e, h⟩
theorem rd_c (h : Q v H) : tC v σ H Q := h
theorem rd_op {r : R2} (h : ta σ H fun x H1 => tb σ H1 fun y H2 => r x y H2 Q) : tOp r ta tb σ H Q := h
theorem rd_un {r : V → Hp → VK → Prop} (h : ta σ H fun x H1 => r x H1 Q) : tUn r ta σ H Q := h
theorem rd_neg {j : Int} (h : Q (.int (-j)) H) : rNegA (.int j) H Q := ⟨j, rfl, h⟩
theorem rd_cb {r : RC} (h : tl σ H fun vs H1 => r vs H1 Q) : tCB r tl σ H Q := h
theorem rd_nil (h : QL [] H) : tNil σ H QL := h
theorem rd_cons (h : ta σ H fun x H1 => tr σ H1 fun xs H2 => QL (x :: xs) H2) : tCons ta tr σ H QL := h
theorem rd_test (h : ta σ H fun x H1 => ∃ k, x = .bl k ∧ B k H1) : tTest ta σ H B := h
theorem rd_tb (h : ta σ H fun x H1 => ∃ k, x = .bl k ∧ B k H1) : tB ta σ H B := h
theorem rd_bl {k : Bool} (h : B k H) : ∃ k', V.bl k = .bl k' ∧ B k' H := ⟨k, rfl, h⟩
theorem rd_and (h : tt σ H fun c H1 => if c = true then tt' σ H1 B else B false H1) : tAnd tt tt' σ H B := h
theorem rd_or (h : tt σ H fun c H1 => if c = true then B true H1 else tt' σ H1 B) : tOr tt tt' σ H B := h
theorem rd_not (h : tt σ H fun c H1 => B (!c) H1) : tNot tt σ H B := h
theorem rd_andV (h : ta σ H fun x H1 => ∃ c, x = .bl c ∧ if c = true then tb σ H1 Q else Q (.bl false) H1) : tAndV ta tb σ H Q := h
theorem rd_orV (h : ta σ H fun x H1 => ∃ c, x = .bl c ∧ if c = true then Q (.bl true) H1 else tb σ H1 Q) : tOrV ta tb σ H Q := h
theorem rd_notV (h : ta σ H fun x H1 => ∃ c, x = .bl c ∧ Q (.bl (!c)) H1) : tNotV ta σ H Q := h
theorem rd_ifE (h : tt σ H fun c H1 => if c = true then ta σ H1 Q else tb σ H1 Q) : tIf tt ta tb σ H Q := h
theorem rd_tup (h : tl σ H fun xs H1 => xs.length ≤ sizeLine ∧ ∀ p, H1 p = none → Q (.ref p) (upd H1 p (.tup xs))) : tTup tl σ H Q := h
theorem rd_lst (h : tl σ H fun xs H1 => xs.length ≤ sizeLine ∧ ∀ p, H1 p = none → Q (.ref p) (upd H1 p (.lst xs))) : tLst tl σ H Q := h
theorem rd_call {sp : Sp} {dvs : List V} {EE : St → XK} (h : tl σ H fun vs H1 => sp (vs ++ dvs) H1 Q (EE σ)) : tCallSD sp dvs EE tl σ H Q := h
theorem rd_joined {ts : List TE} (h : tJs ts Str.empty σ H fun out H1 => Q (.str out) H1) : tJoined ts σ H Q := h
theorem rd_raise {mk : St → Hp → XK → Prop} (h : mk σ H fun cls d H' => W cls d σ H') : tRaise mk W D σ H := h
theorem rd_mkx {C : Addr} {f : Str} {R : XK} (h : tl σ H fun vs H1 => ∃ v, vs = [v] ∧ ∀ d, H1 d = none → R (.ref C) (some d) (upd H1 d (.xd [(f, v)]))) : tMkX C f tl σ H R := h
theorem rd_mkx0 {C : Addr} {R : XK} (h : R (.ref C) none H) : tMkX0 C σ H R := h
theorem rd_try {tbb : WX → TS} {l : List Clause} (h : tbb (wMix K W D l) D σ H) : tTry K W tbb l D σ H := h
theorem rd_sl {r : SlV} {tlo thi : TO} (h : ta σ H fun x H1 => tlo σ H1 fun l H2 => thi σ H2 fun u H3 => r x l u H3 Q) : tSl r ta tlo thi σ H Q := h
theorem rd_nopart {R : Option Int → Hp → Prop} (h : R none H) : tNoPart σ H R := h
theorem rd_part {R : Option Int → Hp → Prop} (h : ta σ H fun x H1 => ∃ i, x = .int i ∧ R (some i) H1) : tPart ta σ H R := h
theorem rd_ofint {j : Int} {R : Option Int → Hp → Prop} (h : R (some j) H) : ∃ i, V.int j = .int i ∧ R (some i) H := ⟨j, rfl, h⟩
theorem rd_chain {r r' : R2} (h : ta σ H fun x H1 => tb σ H1 fun y H2 => r x y H2 fun z H3 => ∃ k, z = .bl k ∧ if k = true then tc σ H3 fun w H4 => r' y w H4 Q else Q (.bl false) H3) : tChain r r' ta tb tc σ H Q := h
/-- the ways of an if whose test is a decision -/
theorem rd_ite {c : Prop} [Decidable c] {A B : Prop} (h1 : c → A) (h2 : ¬ c → B) : if decide c = true then A else B := by
  by_cases h : c
  · rw [decide_eq_true h]; exact h1 h
  · rw [decide_eq_false h]; exact h2 h
theorem rd_iteN {c : Prop} [Decidable c] {A B : Prop} (h1 : ¬ c → A) (h2 : c → B) : if (!decide c) = true then A else B := by
  by_cases h : c
  · rw [decide_eq_true h]; exact h2 h
  · rw [decide_eq_false h]; exact h1 h
theorem rd_iteT {A B : Prop} (h : A) : if true = true then A else B := h
theorem rd_iteF {A B : Prop} (h : B) : if false = true then A else B := h
/-! ### loops -/
/-- for k in range(n) -/
theorem rd_forR {n : Int} {H1 : Hp} (Pv : Nat → St → Hp → Prop) (hn : -(2 ^ 62) ≤ n) (hn' : n < 2 ^ 62) (h0 : Pv 0 σ H1)
    (hs : ∀ (i : Nat) σ H, (i : Int) < n → Pv i σ H → g (.int i) σ H fun σ2 H2 => t { D with nx := Pv (i + 1), bk := D.nx, ct := Pv (i + 1) } σ2 H2) (hd : ∀ σ H, Pv n.toNat σ H → D.nx σ H) (h : tl σ H fun vs H2 => vs = [.int n] ∧ H2 = H1)
    (hm : ∀ {P P' : List V → Hp → Prop}, (∀ b H, P b H → P' b H) → tl σ H P → tl σ H P') : tFor (iRng1 tl) g t D σ H := by
  refine hm ?_ h
  rintro vs H2 ⟨rfl, rfl⟩
  refine ⟨n, rfl, hn, hn', for_range (lo := 0) Pv h0 (fun i σ H hi p => ?_) hd⟩
  have := hs i σ H (by omega) p
  rw [Int.zero_add]
  exact this
theorem rd_forR1 {n : Int} {R : (It → Hp → Prop)} {H1 : Hp} (hn : -(2 ^ 62) ≤ n) (hn' : n < 2 ^ 62) (h : R (Itr 0 n.toNat) H1) : ∃ j : Int, [V.int n] = [.int j] ∧ -(2 ^ 62) ≤ j ∧ j < 2 ^ 62 ∧ R (Itr 0 j.toNat) H1 := ⟨n, rfl, hn, hn', h⟩
theorem forR {n : Int} {D : Ends} {σ : St} {H : Hp} (Pv : Nat → St → Hp → Prop) (h0 : Pv 0 σ H)
    (hs : ∀ (i : Nat) σ H, (i : Int) < n → Pv i σ H → g (.int i) σ H fun σ2 H2 => t { D with nx := Pv (i + 1), bk := D.nx, ct := Pv (i + 1) } σ2 H2) (hd : ∀ σ H, Pv n.toNat σ H → D.nx σ H) :
    ∃ W : Nat → Nat → St → Hp → Prop, (∃ m, W 0 m σ H) ∧ ∀ i m σ H, W i m σ H →
      ((Itr 0 n.toNat).stop i H ∧ D.nx σ H) ∨ ((Itr 0 n.toNat).go i H ∧ ∃ N : St → Hp → Prop, (∀ σ' H', N σ' H' → ∃ m', m' < m ∧ W (i + 1) m' σ' H') ∧ ∀ x H', (Itr 0 n.toNat).yld i H x H' → g x σ H' fun σ2 H2 => t { D with nx := N, ct := N, bk := D.nx } σ2 H2) :=
  for_range (lo := 0) Pv h0 (fun i σ H hi p => by rw [Int.zero_add]; exact hs i σ H (by omega) p) hd
theorem walk_enumS {z : Str} : Walk (Ites z) z.cps.size (fun _ => True) (fun i H v H' => ∃ T c, v = .ref T ∧ H T = none ∧ z.cps[i]? = some c ∧ H' = upd H T (.tup [.int (i : Nat), .str ⟨#[c]⟩])) :=
  ⟨fun _ _ hi _ => hi, fun _ _ => rfl, fun _ _ _ _ _ _ y => y⟩
theorem rd_yes (h : B true H) : tYes σ H B := h
/-- a comprehension over range(n) -/
theorem lcR {n : Int} {te : TE} {vs : List Nat} {H1 : Hp} {L : Addr} {Qd : Hp → Prop} (Pv : Nat → Hp → Prop) (h0 : Pv 0 (upd H1 L (.lst [])))
    (hs : ∀ (i : Nat) H, (i : Int) < n → Pv i H → g (.int i) (wipe σ vs) H fun σ2 H2 => wipe σ2 vs = wipe σ vs ∧ tt σ2 H2 fun b H3 =>
      if b = true then te σ2 H3 fun y H4 => ∃ acc, H4 L = some (.lst acc) ∧ acc.length < sizeLine ∧ Pv (i + 1) (upd H4 L (.lst (acc ++ [y]))) else Pv (i + 1) H3) (hd : ∀ H, Pv n.toNat H → Qd H) :
    ∃ W : Nat → Nat → Hp → Prop, (∃ m, W 0 m (upd H1 L (.lst []))) ∧ ∀ i m H, W i m H →
      ((Itr 0 n.toNat).stop i H ∧ Qd H) ∨ ((Itr 0 n.toNat).go i H ∧ ∃ Nx : Hp → Prop, (∀ H', Nx H' → ∃ m', m' < m ∧ W (i + 1) m' H') ∧ ∀ x H', (Itr 0 n.toNat).yld i H x H' → g x (wipe σ vs) H' fun σ2 H2 => wipe σ2 vs = wipe σ vs ∧ tt σ2 H2 fun b H3 =>
        if b = true then te σ2 H3 fun y H4 => ∃ acc, H4 L = some (.lst acc) ∧ acc.length < sizeLine ∧ Nx (upd H4 L (.lst (acc ++ [y]))) else Nx H3) :=
  lc_range (lo := 0) Pv h0 (fun i H hi p => by rw [Int.zero_add]; exact hs i H (by omega) p) hd
end
end L2

/-! list(zip(text, list)). -/
namespace Rz
open PySem PySem.Spec PyProof.Rows
open PySem.W (kdx_alive)
section
variable {prog : Program} {w : World} {A : Around} {E : Value → Shared → Prop} {s : Shared} {z TI TO i1 i2 : Addr} {fp1 fp2 : List Addr} {n i : Nat} {P1 P2 : Nat → Value → Prop} {St1 St2 : Nat → Heap → Prop} {T : Addr} {f : Bool} {oT : Obj}
/-- the next pair, while the pair handed out before is still held by someone -/
theorem held_next {Q : Value → Shared → Prop} (S : ZipSep2 z TI TO i1 i2 fp1 fp2) (D1 : Draws prog w A i1 fp1 n P1 St1) (D2 : Draws prog w A i2 fp2 n P2 St2)
    (hz : IsZipHeld s.heap z TI TO T f) (hT : s.heap.get? T = some oT) (hTI : IsTupOf2 s.heap TI (.ref i1) (.ref i2)) (s1 : St1 i s.heap) (s2 : St2 i s.heap) (hi : i < n)
    (hQ : ∀ x y h' tk, P1 i x → P2 i y → IsZipHeld h' z TI TO T true → St1 (i + 1) h' → St2 (i + 1) h' → IsTupOf2 h' s.heap.objs.size x y → h'.objs.size = s.heap.objs.size + 1 →
      (∀ c o, c ≠ z → c ≠ i1 → c ≠ i2 → s.heap.get? c = some o → h'.get? c = some o) → Q (.ref s.heap.objs.size) { s with heap := h', toks := tk }) :
    wpAny (model prog w) A (Builtin.«zip.__next__» ⟨[.ref z], []⟩) (fun fin s' => ∃ v, fin = .done (.ret v) ∧ Q v s') E s := by
  obtain ⟨hp, g, d, tk0, os⟩ := s
  show wpAny (model prog w) A (field (.ref z) 2 >>= _) _ E _
  refine wpAny_bind (wpAny_field hz rfl (x := Value.bool false) rfl ?_)
  show wpAny (model prog w) A (field (.ref z) 3 >>= _) _ E _
  refine wpAny_bind (wpAny_field hz rfl (x := Value.ref TI) rfl ?_)
  refine wpAny_bind (wpAny_seqItems hTI rfl ?_)
  show wpAny (model prog w) A (Builtin.SmallTypes.ownedTupleIsFree (.ref z) >>= _) _ E _
  refine wpAny_bind (wpAny_tupleHeld_zip hz hT fun p0 hz0 q0 => ?_)
  replace q0 : Heap.SameBut z hp p0 := q0
  replace hz0 : IsZipHeld p0 z TI TO T true := hz0
  simp only [Bool.false_eq_true, if_false]
  refine wpAny_bind ?_
  rw [← Array.forIn_toList]
  simp only [List.forIn_cons, List.forIn_nil]
  refine wpAny_bind (wpAny_bind (wpAny_holding ?_))
  show wpAny (model prog w) A (Builtin.SmallTypes.nextOf (.ref i1) >>= _) _ E ⟨p0, g, d, tk0, os⟩
  refine wpAny_bind (D1.item i _ _ _ hi (D1.over s1 q0 S.zf1) fun x p1 t1 hx a1 q1 => wpAny_pure ?_)
  replace q1 : Heap.SameBut i1 p0 p1 := q1
  refine wpAny_pure ?_
  refine wpAny_bind (wpAny_bind (wpAny_holding ?_))
  show wpAny (model prog w) A (Builtin.SmallTypes.nextOf (.ref i2) >>= _) _ E ⟨p1, g, d, t1, os⟩
  refine wpAny_bind (D2.item i _ _ _ hi (D2.over (D2.over s2 q0 S.zf2) q1 S.sep1_2) fun y p2 t2 hy a2 q2 => wpAny_pure ?_)
  replace q2 : Heap.SameBut i2 p1 p2 := q2
  refine wpAny_pure (wpAny_pure ?_)
  show wpAny (model prog w) A (newTuple [x, y] >>= _) _ E ⟨p2, g, d, t2, os⟩
  refine wpAny_bind (wpAny_newTuple ?_)
  have size2 : p2.objs.size = hp.objs.size := by rw [q2.1, q1.1, q0.1]
  have z2 : IsZipHeld p2 z TI TO T true := q2.extBut _ _ S.zi2 (q1.extBut _ _ S.zi1 hz0)
  have b1 : St1 (i + 1) p2 := D1.over a1 q2 S.sep2_1
  have kp : ∀ c o, c ≠ z → c ≠ i1 → c ≠ i2 → hp.get? c = some o → p2.get? c = some o := fun c o c1 c2 c3 e => q2.extBut _ _ c3 (q1.extBut _ _ c2 (q0.extBut _ _ c1 e))
  refine wpAny_pure ⟨_, rfl, ?_⟩
  show Q (.ref p2.objs.size) _
  have new : IsTupOf2 (p2.push { cls := .type "tuple", data := .seq #[x, y] }) p2.objs.size x y := Heap.get?_push_size _ rfl
  have sz : (p2.push { cls := .type "tuple", data := .seq #[x, y] }).objs.size = p2.objs.size + 1 := Heap.size_push ..
  rw [size2] at new sz ⊢
  exact hQ x y _ t2 hx hy (Heap.get?_push_of_some _ z2) (D1.frame _ _ _ b1 fun b _ o e => Heap.get?_push_of_some _ e) (D2.frame _ _ _ a2 fun b _ o e => Heap.get?_push_of_some _ e) new sz fun c o c1 c2 c3 e => Heap.get?_push_of_some _ (kp c o c1 c2 c3 e)
theorem held_end {Q : Fin → Shared → Prop} (S : ZipSep2 z TI TO i1 i2 fp1 fp2) (D1 : Draws prog w A i1 fp1 n P1 St1)
    (hz : IsZipHeld s.heap z TI TO T f) (hT : s.heap.get? T = some oT) (hTI : IsTupOf2 s.heap TI (.ref i1) (.ref i2)) (s1 : St1 n s.heap)
    (hE : ∀ h' e, (∀ c o, c ≠ z → c ≠ i1 → s.heap.get? c = some o → h'.get? c = some o) → (∃ o, h'.get? e = some o ∧ o.cls = .type "StopIteration") → E (.ref e) { s with heap := h' }) :
    wpAny (model prog w) A (Builtin.«zip.__next__» ⟨[.ref z], []⟩) Q E s := by
  obtain ⟨hp, g, d, tk0, os⟩ := s
  show wpAny (model prog w) A (field (.ref z) 2 >>= _) _ E _
  refine wpAny_bind (wpAny_field hz rfl (x := Value.bool false) rfl ?_)
  show wpAny (model prog w) A (field (.ref z) 3 >>= _) _ E _
  refine wpAny_bind (wpAny_field hz rfl (x := Value.ref TI) rfl ?_)
  refine wpAny_bind (wpAny_seqItems hTI rfl ?_)
  show wpAny (model prog w) A (Builtin.SmallTypes.ownedTupleIsFree (.ref z) >>= _) _ E _
  refine wpAny_bind (wpAny_tupleHeld_zip hz hT fun p0 hz0 q0 => ?_)
  replace q0 : Heap.SameBut z hp p0 := q0
  simp only [Bool.false_eq_true, if_false]
  refine wpAny_bind ?_
  rw [← Array.forIn_toList]
  simp only [List.forIn_cons, List.forIn_nil]
  refine wpAny_bind (wpAny_bind (wpAny_holding ?_))
  show wpAny (model prog w) A (Builtin.SmallTypes.nextOf (.ref i1) >>= _) _ E ⟨p0, g, d, tk0, os⟩
  refine wpAny_bind (D1.done ⟨p0, g, d, tk0, os⟩ _ _ (D1.over s1 q0 S.zf1) fun p1 e q1 he => ?_)
  replace q1 : Heap.ExtBut i1 p0 p1 := q1
  exact hE p1 e (fun c o c1 c2 u => q1 _ _ c2 (q0.extBut _ _ c1 u)) he
end
/-- where the walk stands -/
def ZAt (St1 St2 : Nat → Heap → Prop) (z TI TO i1 i2 L : Addr) (i : Nat) (h : Heap) : Prop :=
  IsTupOf2 h TI (.ref i1) (.ref i2) ∧ St1 i h ∧ St2 i h ∧ ((i = 0 ∧ IsZip h z TI TO .none ∧ IsTupOf2 h TO .none .none) ∨ ∃ T f oT, IsZipHeld h z TI TO T f ∧ h.get? T = some oT ∧ T ≠ z ∧ T ≠ i1 ∧ T ≠ i2 ∧ T ≠ L)
/-- the pairs so far -/
structure ZTold (P1 P2 : Nat → Value → Prop) (lo : Addr) (h : Heap) (as : List Addr) : Prop where
  rise : as.Pairwise (· < ·)
  above : ∀ a ∈ as, lo < a
  two : ∀ (j : Nat) (a : Addr), as[j]? = some a → ∃ x y, P1 j x ∧ P2 j y ∧ IsTupOf2 h a x y
theorem ZTold.low {P1 P2 : Nat → Value → Prop} {lo : Addr} {h : Heap} {as : List Addr} (t : ZTold P1 P2 lo h as) {a : Addr} (m : a ∈ as) : a < h.objs.size := by
  obtain ⟨j, e⟩ := List.mem_iff_getElem?.mp m
  obtain ⟨_, _, _, _, q⟩ := t.two j a e
  exact Heap.lt_size q
section
variable {prog : Program} {w : World} {A : Around} {s : Shared} {z TI TO i1 i2 L : Addr} {fp1 fp2 : List Addr} {n i : Nat} {P1 P2 : Nat → Value → Prop} {St1 St2 : Nat → Heap → Prop}
theorem z_item {E : Value → Shared → Prop} {Q : Option Value → Shared → Prop} (S : ZipSep2 z TI TO i1 i2 fp1 fp2) (D1 : Draws prog w A.in1 i1 fp1 n P1 St1) (D2 : Draws prog w A.in1 i2 fp2 n P2 St2) (st : ZAt St1 St2 z TI TO i1 i2 L i s.heap) (hi : i < n) (hL : L < s.heap.objs.size) (hLz : L ≠ TI)
    (hQ : ∀ x y h' tk, P1 i x → P2 i y → ZAt St1 St2 z TI TO i1 i2 L (i + 1) h' → IsTupOf2 h' s.heap.objs.size x y → h'.objs.size = s.heap.objs.size + 1 →
      (∀ c o, c ≠ z → c ≠ TO → c ≠ i1 → c ≠ i2 → s.heap.get? c = some o → h'.get? c = some o) → Q (some (.ref s.heap.objs.size)) { s with heap := h', toks := tk }) :
    wpAny (model prog w) A (pyNext (.ref z)) Q E s := by
  obtain ⟨hTI, s1, s2, st⟩ := st
  have l1 : i1 < s.heap.objs.size := let ⟨_, e⟩ := D1.live _ _ s1; Heap.lt_size e
  have l2 : i2 < s.heap.objs.size := let ⟨_, e⟩ := D2.live _ _ s2; Heap.lt_size e
  rcases st with ⟨e0, hz, hTO⟩ | ⟨T, f, oT, hz, hT, n1, n2, n3, n4⟩
  · have lz : z < s.heap.objs.size := Heap.lt_size hz
    refine wpAny_pyNext_zipD2_item S D1 D2 hz hTI hTO s1 s2 hi hi fun x y h' tk hx hy hz' _ a1 a2 tup sz kp => ?_
    exact hQ x y h' tk hx hy ⟨kp _ _ S.TIz S.TITO S.TIi1 S.TIi2 hTI, a1, a2, .inr ⟨_, false, _, hz', tup, Nat.ne_of_gt lz, Nat.ne_of_gt l1, Nat.ne_of_gt l2, Nat.ne_of_gt hL⟩⟩ tup sz kp
  · have ty : s.TypeIs (.ref z) "zip" := ⟨_, hz, rfl⟩
    unfold pyNext
    refine wpAny_bind (wpAny_attempt (wpAny_callSpecial?_slot (name := Str.ofString "__next__") ty F.slot_zip_next (wpAny_call_entry F.slot_zip_next ty F.entry_zip_next ?_ (F.args_zip_next_1 _))))
    refine held_next S D1 D2 hz hT hTI s1 s2 hi fun x y h' tk hx hy hz' a1 a2 tup sz kp => wpAny_pure ?_
    exact hQ x y h' tk hx hy ⟨kp _ _ S.TIz S.TIi1 S.TIi2 hTI, a1, a2, .inr ⟨T, true, oT, hz', kp _ _ n1 n2 n3 hT, n1, n2, n3, n4⟩⟩ tup sz fun c o c1 _ c3 c4 e => kp c o c1 c3 c4 e
theorem z_end {E : Value → Shared → Prop} {Q : Option Value → Shared → Prop} (S : ZipSep2 z TI TO i1 i2 fp1 fp2) (D1 : Draws prog w A.in1 i1 fp1 n P1 St1) (D2 : Draws prog w A.in1 i2 fp2 n P2 St2) (st : ZAt St1 St2 z TI TO i1 i2 L n s.heap)
    (hQ : ∀ h' tk, (∀ c o, c ≠ z → c ≠ TO → c ≠ i1 → c ≠ i2 → s.heap.get? c = some o → h'.get? c = some o) → Q none { s with heap := h', toks := tk }) :
    wpAny (model prog w) A (pyNext (.ref z)) Q E s := by
  obtain ⟨hTI, s1, s2, st⟩ := st
  rcases st with ⟨e0, hz, hTO⟩ | ⟨T, f, oT, hz, hT, n1, n2, n3, n4⟩
  · exact wpAny_pyNext_zipD2_end S D1 D2 hz hTI hTO s1 s2 (Nat.le_refl _) (Nat.le_refl _) (.inl rfl) hQ
  · have ty : s.TypeIs (.ref z) "zip" := ⟨_, hz, rfl⟩
    unfold pyNext
    refine wpAny_bind (wpAny_attempt (wpAny_callSpecial?_slot (name := Str.ofString "__next__") ty F.slot_zip_next (wpAny_call_entry F.slot_zip_next ty F.entry_zip_next ?_ (F.args_zip_next_1 _))))
    refine held_end S D1 hz hT hTI s1 fun h' e kp he => ?_
    obtain ⟨o, ho, hc⟩ := he
    refine wpAny_bind (wpAny_isInstance (T := "StopIteration") (b := true) ⟨o, ho, hc⟩ isSubtype_stop ?_)
    exact wpAny_pure (hQ _ _ fun c o c1 _ c3 _ e => kp c o c1 c3 e)
/-- the draining into the new list at L -/
theorem z_loop {R : Result → Shared → Prop} (S : ZipSep2 z TI TO i1 i2 fp1 fp2) (D1 : Draws prog w A.in1.in1 i1 fp1 n P1 St1) (D2 : Draws prog w A.in1.in1 i2 fp2 n P2 St2) (hf1 : L ∉ fp1) (hf2 : L ∉ fp2) (hLz : L ≠ z) (hLT : L ≠ TI) (hLO : L ≠ TO) (cells : ∀ c, c = z ∨ c = TO ∨ c = i1 ∨ c = i2 → c < L) (hn : n ≤ sizeLine) (res : Value) {h0 : Heap}
    (hR : ∀ h' tk acc c as, (∀ b o, b ≠ L → b ≠ z → b ≠ TO → b ≠ i1 → b ≠ i2 → h0.get? b = some o → h'.get? b = some o) → h'.get? L = some { cls := .type "list", dict := none, data := .seq acc c, slots := #[] } → as.length = n → ZTold P1 P2 L h' as →
      acc.toList = as.map Value.ref → R (.ok (.ret res)) { s with heap := h', toks := tk }) :
    ∀ (k i : Nat) (h : Heap) (tk c : Nat) (acc : Array Value) (as : List Addr), n - i = k → i ≤ n → ZAt St1 St2 z TI TO i1 i2 L i h → (∀ b o, b ≠ L → b ≠ z → b ≠ TO → b ≠ i1 → b ≠ i2 → h0.get? b = some o → h.get? b = some o) →
      h.get? L = some { cls := .type "list", dict := none, data := .seq acc c, slots := #[] } → acc.toList = as.map Value.ref → as.length = i → ZTold P1 P2 L h as →
      codeAny (model prog w) A (.builtin "list.extend.loop" ⟨[.ref L, .ref z, res], []⟩) R { s with heap := h, toks := tk } := by
  have off : ∀ {b : Addr}, L ≤ b → b ≠ z ∧ b ≠ TO ∧ b ≠ i1 ∧ b ≠ i2 := fun {b} q =>
    ⟨fun e => absurd (cells z (.inl rfl)) (by rw [← e]; exact Nat.not_lt.mpr q), fun e => absurd (cells TO (.inr (.inl rfl))) (by rw [← e]; exact Nat.not_lt.mpr q), fun e => absurd (cells i1 (.inr (.inr (.inl rfl)))) (by rw [← e]; exact Nat.not_lt.mpr q), fun e => absurd (cells i2 (.inr (.inr (.inr rfl)))) (by rw [← e]; exact Nat.not_lt.mpr q)⟩
  intro k
  induction k with
  | zero =>
    intro i h tk c acc as hk hi st kp hL hacc hal told
    obtain rfl : i = n := by omega
    obtain ⟨o1, o2, o3, o4⟩ := off (Nat.le_refl L)
    refine codeAny_builtin F.entry_extend_loop ?_
    rw [Around.under_plainId F.plain_extend_loop _]
    show wpAny (model prog w) A.in1 (pyNext (.ref z) >>= _) _ _ _
    refine wpAny_bind (z_end (s := { s with heap := h, toks := tk }) S D1 D2 st fun h' tk' kq => wpAny_pure ?_)
    refine hR h' tk' acc c as (fun b o b0 b1 b2 b3 b4 e => kq b o b1 b2 b3 b4 (kp b o b0 b1 b2 b3 b4 e)) (kq L _ o1 o2 o3 o4 hL) hal ⟨told.rise, told.above, fun j a hj => ?_⟩ hacc
    obtain ⟨x, y, e1, e2, e3⟩ := told.two j a hj
    obtain ⟨q1, q2, q3, q4⟩ := off (Nat.le_of_lt (told.above a (List.mem_of_getElem? hj)))
    exact ⟨x, y, e1, e2, kq a _ q1 q2 q3 q4 e3⟩
  | succ k ih =>
    intro i h tk c acc as hk hi st kp hL hacc hal told
    have hlt : i < n := by omega
    have hsz : acc.size = i := by rw [← Array.length_toList, hacc, List.length_map, hal]
    have lL : L < h.objs.size := Heap.lt_size hL
    obtain ⟨o1, o2, o3, o4⟩ := off (Nat.le_refl L)
    refine codeAny_builtin F.entry_extend_loop ?_
    rw [Around.under_plainId F.plain_extend_loop _]
    show wpAny (model prog w) A.in1 (pyNext (.ref z) >>= _) _ _ _
    refine wpAny_bind (z_item (s := { s with heap := h, toks := tk }) S D1 D2 st hlt lL hLT fun x y h' tk' hx hy st' tup sz kq => ?_)
    dsimp only at tup sz kq ⊢
    have hL' := kq L _ o1 o2 o3 o4 hL
    have up : ∀ b o, b ≠ L → h'.get? b = some o → (h'.update L (Obj.mapSeq (·.push (Value.ref h.objs.size)))).get? b = some o := fun b o hb e => (Heap.get?_update_other _ _ (Ne.symm hb)).trans e
    have far : h.objs.size ≠ L := Nat.ne_of_gt lL
    show wpAny (model prog w) A.in1 (updateSeq L (·.push (Value.ref h.objs.size)) >>= _) _ _ _
    refine wpAny_bind (wpAny_updateSeq hL' rfl ?_ (by rw [hsz]; omega) (by show (acc.push (Value.ref h.objs.size)).size ≤ sizeLine + 1; rw [Array.size_push, hsz]; omega))
    refine wpAny_pure ⟨plainId_quiet F.plain_extend_loop _, ?_⟩
    refine ih (i + 1) _ tk' _ (acc.push (Value.ref h.objs.size)) (as ++ [h.objs.size]) (by omega) hlt ?_ (fun b o b0 b1 b2 b3 b4 e => up b o b0 (kq b o b1 b2 b3 b4 (kp b o b0 b1 b2 b3 b4 e))) (Heap.get?_update_self _ hL' rfl) (by rw [Array.toList_push, hacc, List.map_append]; rfl) (by rw [List.length_append, hal]; rfl) ⟨?_, ?_, ?_⟩
    · obtain ⟨t1, t2, t3, t4⟩ := st'
      refine ⟨up _ _ (Ne.symm hLT) t1, D1.frame _ _ _ t2 fun b hb o e => up b o (fun q => hf1 (q ▸ hb)) e, D2.frame _ _ _ t3 fun b hb o e => up b o (fun q => hf2 (q ▸ hb)) e, ?_⟩
      rcases t4 with ⟨e0, e1, e2⟩ | ⟨T, f, oT, e1, e2, m1, m2, m3, m4⟩
      · exact .inl ⟨e0, up _ _ (Ne.symm hLz) e1, up _ _ (Ne.symm hLO) e2⟩
      · exact .inr ⟨T, f, oT, up _ _ (Ne.symm hLz) e1, up _ _ m4 e2, m1, m2, m3, m4⟩
    · refine List.pairwise_append.mpr ⟨told.rise, List.pairwise_singleton _ _, fun a ha b hb => ?_⟩
      rw [List.mem_singleton.mp hb]
      exact told.low ha
    · intro a ha
      rcases List.mem_append.mp ha with ha | ha
      · exact told.above a ha
      · rw [List.mem_singleton.mp ha]; exact lL
    · intro j b hj
      rcases Nat.lt_trichotomy j as.length with q | q | q
      · rw [List.getElem?_append_left q] at hj
        obtain ⟨x', y', e1, e2, e3⟩ := told.two j b hj
        have hb := told.above b (List.mem_of_getElem? hj)
        obtain ⟨r1, r2, r3, r4⟩ := off (Nat.le_of_lt hb)
        exact ⟨x', y', e1, e2, up b _ (Nat.ne_of_gt hb) (kq b _ r1 r2 r3 r4 e3)⟩
      · subst q
        have hb : h.objs.size = b := by simpa using hj
        rw [← hb]
        exact ⟨x, y, by rw [hal]; exact hx, by rw [hal]; exact hy, up _ _ far tup⟩
      · rw [List.getElem?_eq_none (by rw [List.length_append, List.length_singleton]; omega)] at hj
        cases hj
end
theorem zip_no_len : typeLookup (.type "zip") "__len__" = pure none := am_miss_of_fast (by decide +kernel)
theorem zip_no_hint : typeLookup (.type "zip") "__length_hint__" = pure none := am_miss_of_fast (by decide +kernel)
section
variable {prog : Program} {w : World} {A : Around} {s : Shared} {z TI TO i1 i2 L : Addr} {fp1 fp2 : List Addr} {n i : Nat} {P1 P2 : Nat → Value → Prop} {St1 St2 : Nat → Heap → Prop}
theorem z_list {Q : Value → Shared → Prop} {E : Value → Shared → Prop} (S : ZipSep2 z TI TO i1 i2 fp1 fp2) (D1 : Draws prog w A.in1.in1.in1 i1 fp1 n P1 St1) (D2 : Draws prog w A.in1.in1.in1 i2 fp2 n P2 St2) (low : ∀ c, c ∈ fp1 ∨ c ∈ fp2 → c < s.heap.objs.size) (hn : n ≤ sizeLine)
    (hz : IsZip s.heap z TI TO .none) (hTI : IsTupOf2 s.heap TI (.ref i1) (.ref i2)) (hTO : IsTupOf2 s.heap TO .none .none) (s1 : St1 0 s.heap) (s2 : St2 0 s.heap)
    (hQ : ∀ h' tk acc c as, (∀ b o, b ≠ z → b ≠ TO → b ≠ i1 → b ≠ i2 → s.heap.get? b = some o → h'.get? b = some o) → h'.get? s.heap.objs.size = some { cls := .type "list", dict := none, data := .seq acc c, slots := #[] } → as.length = n → ZTold P1 P2 s.heap.objs.size h' as →
      acc.toList = as.map Value.ref → Q (.ref s.heap.objs.size) { s with heap := h', toks := tk }) :
    wpAny (model prog w) A (call (.type "list") [.ref z]) Q E s := by
  have lz : z < s.heap.objs.size := Heap.lt_size hz
  have lTI : TI < s.heap.objs.size := Heap.lt_size hTI
  have lTO : TO < s.heap.objs.size := Heap.lt_size hTO
  have l1 : i1 < s.heap.objs.size := low _ (.inl S.mem1)
  have l2 : i2 < s.heap.objs.size := low _ (.inr S.mem2)
  refine callType_codes (Q₁ := fun obj t => obj = .ref s.heap.objs.size ∧ t = { s with heap := s.heap.push { cls := .type "list", data := .seq #[] } }) F.called_list (F.typeCall_list_1 _) F.entry_list_init
    (code_list_new _ ⟨rfl, rfl⟩) fun obj t ht => ?_
  obtain ⟨rfl, rfl⟩ := ht
  have hL : (s.heap.push { cls := .type "list", data := .seq #[] }).get? s.heap.objs.size = some { cls := .type "list", data := .seq #[] } := Heap.get?_push_size _ rfl
  generalize eL : s.heap.objs.size = L at *
  refine ⟨⟨_, hL, rfl⟩, F.args_list_init_2 _ _, ?_⟩
  have mk : ∀ b o, s.heap.get? b = some o → (s.heap.push { cls := .type "list", data := .seq #[] }).get? b = some o := fun b o e => Heap.get?_push_of_some _ e
  show wpAny (model prog w) A.in1.in1 (do let old ← Builtin.List.listItems (.ref L); Builtin.List.listUpdate (.ref L) (fun _ => #[]); letGo old.toList.reverse; Builtin.List.listExtendWith (.ref L) (.ref z) .none) _ _ _
  refine wpAny_bind ?_
  unfold Builtin.List.listItems
  refine wpAny_bind (wpAny_seqItems hL rfl (wpAny_pure ?_))
  show wpAny (model prog w) A.in1.in1 (updateSeq L (fun _ => #[]) >>= fun _ => letGo (#[] : Array Value).toList.reverse >>= fun _ => Builtin.List.listExtendWith (.ref L) (.ref z) .none) _ _ _
  refine wpAny_bind (wpAny_updateSeq hL rfl ?_)
  have hL2 := Heap.get?_update_self (Obj.mapSeq (fun _ => (#[] : Array Value))) hL rfl
  have up : ∀ (h : Heap) (f : Obj → Obj), (∀ b o, s.heap.get? b = some o → h.get? b = some o) → ∀ b o, s.heap.get? b = some o → (h.update L f).get? b = some o := fun h f q b o e => (Heap.get?_update_other _ _ (fun q => by have := Heap.lt_size e; rw [eL, ← q] at this; exact Nat.lt_irrefl _ this)).trans (q b o e)
  have mk2 := up _ (Obj.mapSeq (fun _ => (#[] : Array Value))) mk
  refine wpAny_bind (wpAny_letGo ?_)
  unfold Builtin.List.listExtendWith
  have ty : ∀ {h : Heap} {q : Nat}, (∀ b o, s.heap.get? b = some o → h.get? b = some o) → ({ s with heap := h, toks := q } : Shared).TypeIs (.ref z) "zip" := fun {h q} k => ⟨_, k z _ hz, rfl⟩
  refine wpAny_bind (wpAny_typeOf (T := "zip") (ty mk2) ?_)
  have r1 : Builtin.List.listSameRef (.ref L) (.ref z) = false := by simp [Builtin.List.listSameRef, Nat.ne_of_gt lz]
  have r2 : (Value.type "zip" == Value.type "list") = false := by decide
  have r3 : (Value.type "zip" == Value.type "tuple") = false := by decide
  simp only [r1, r2, r3, Bool.or_false, Bool.false_eq_true, if_false]
  refine wpAny_bind (wpAny_pyIter_zip (mk2 _ _ hz) ?_)
  refine wpAny_bind (wpAny_holding ?_)
  unfold Builtin.List.listLengthHint
  refine wpAny_bind (wpAny_specialOf (ty mk2) zip_no_len ?_)
  show wpAny (model prog w) A.in1.in1 (specialOf (Value.ref z) (Str.ofString "__length_hint__") >>= _) _ _ _
  refine wpAny_bind (wpAny_specialOf (ty mk2) zip_no_hint ?_)
  refine wpAny_pure ?_
  show wpAny (model prog w) A.in1.in1 (rule "list.extend.makes-room" >>= fun _ => Builtin.List.listTouch (.ref L) >>= fun _ =>
    again (.builtin "list.extend.loop" ⟨[.ref L, .ref z, .none], []⟩)) _ _ _
  refine wpAny_bind (wpAny_rule (wpAny_bind ?_))
  show wpAny (model prog w) A.in1.in1 (updateSeq L (·.push .none) >>= fun _ => updateSeq L (·.pop)) _ _ _
  refine wpAny_bind (wpAny_updateSeq hL2 rfl ?_)
  have hL3 := Heap.get?_update_self (Obj.mapSeq (·.push Value.none)) hL2 rfl
  refine wpAny_updateSeq (hz := by seq_fits) hL3 rfl ?_
  have hL4 := Heap.get?_update_self (Obj.mapSeq (·.pop)) hL3 rfl
  have mk4 := up _ (Obj.mapSeq (·.pop)) (up _ (Obj.mapSeq (·.push Value.none)) mk2)
  refine wpAny_pure ⟨plainId_quiet F.plain_extend_loop _, ?_⟩
  refine z_loop (A := A.in1) (h0 := s.heap) S D1 D2 (fun q => Nat.lt_irrefl _ (low _ (.inl q))) (fun q => Nat.lt_irrefl _ (low _ (.inr q))) (Nat.ne_of_gt lz) (Nat.ne_of_gt lTI) (Nat.ne_of_gt lTO) ?_ hn .none (fun h' tk acc c as kp hL' hl told hacc => ?_)
    n 0 _ _ _ #[] [] (Nat.sub_zero _) (Nat.zero_le _) ?_ (fun b o _ _ _ _ _ e => mk4 b o e) hL4 rfl rfl ⟨List.Pairwise.nil, fun _ m => (nomatch m), fun j a e => by simp at e⟩
  · rintro c (e | e | e | e)
    · rw [e]; exact lz
    · rw [e]; exact lTO
    · rw [e]; exact l1
    · rw [e]; exact l2
  · exact ⟨rfl, hQ h' tk acc c as (fun b o b1 b2 b3 b4 e => kp b o (fun q => by have := Heap.lt_size e; rw [eL, q] at this; exact Nat.lt_irrefl _ this) b1 b2 b3 b4 e) hL' hl told hacc⟩
  · exact ⟨mk4 _ _ hTI, D1.frame _ _ _ s1 fun b _ o e => mk4 b o e, D2.frame _ _ _ s2 fun b _ o e => mk4 b o e, .inl ⟨rfl, mk4 _ _ hz, mk4 _ _ hTO⟩⟩
end
end Rz
namespace L2
open PySem PySem.Spec PyProof.Rows
/-- pairs laid one behind another -/
def putP : Hp → List Addr → List (V × V) → Hp
  | H, a :: as, p :: r => putP (upd H a (.tup [p.1, p.2])) as r
  | H, [], _ => H
  | H, _ :: _, [] => H
theorem putP_off {b : Addr} : ∀ (as : List Addr) (ps : List (V × V)) (H : Hp), b ∉ as → putP H as ps b = H b
  | [], _, _, _ => rfl
  | _ :: _, [], _, _ => rfl
  | a :: as, p :: r, H, h => by
    have h1 : b ≠ a := fun e => h (e ▸ List.mem_cons_self)
    have h2 : b ∉ as := fun e => h (List.mem_cons_of_mem _ e)
    exact (putP_off as r _ h2).trans (upd_ne h1)
theorem putP_at : ∀ (as : List Addr) (ps : List (V × V)) (H : Hp), as.Nodup → ∀ (j : Nat) (a : Addr) (p : V × V), as[j]? = some a → ps[j]? = some p → putP H as ps a = some (.tup [p.1, p.2])
  | [], _, _, _, _, _, _, e, _ => by simp at e
  | _ :: _, [], _, _, _, _, _, _, e => by simp at e
  | b :: as, q :: r, H, nd, 0, a, p, e1, e2 => by
    have e3 : b = a := by simpa using e1
    have e4 : q = p := by simpa using e2
    subst e3 e4
    exact (putP_off as r _ (List.nodup_cons.mp nd).1).trans upd_same
  | b :: as, q :: r, H, nd, j + 1, a, p, e1, e2 => putP_at as r _ (List.nodup_cons.mp nd).2 j a p (by simpa using e1) (by simpa using e2)
/-- list(zip(text, list)), both of one length: the new list at L, its pairs at as -/
def rZipS (K : PySem.W.Frag) : List V → Hp → VK → Prop := fun vs H Q => ∃ (x : Str) (b : Addr) (ys : List V), vs = [.str x, .ref b] ∧ SqL K H b ys ∧ x.cps.size = ys.length ∧
  ∀ (L : Addr) (as : List Addr) (H' : Hp), (∀ c o, H c = some o → H' c = some o) → H L = none → (∀ a ∈ as, H a = none) → L ∉ as → as.length = ys.length → H' L = some (.lst (as.map V.ref)) →
    (∀ (j : Nat) (a : Addr) (c : Nat) (y : V), as[j]? = some a → x.cps[j]? = some c → ys[j]? = some y → H' a = some (.tup [.str ⟨#[c]⟩, y])) → Q (.ref L) H'
def tZipS (K : PySem.W.Frag) (ta : TA) : TE := fun σ H Q => ta σ H fun vs H1 => rZipS K vs H1 Q
theorem vals_ix : ∀ {vs : List V} {us : List Value}, Vals vs us → ∀ {j : Nat} {u : Value}, us[j]? = some u → ∃ v, vs[j]? = some v ∧ RelV v u
  | _, _, .nil, _, _, e => by simp at e
  | _, _, .cons r _, 0, _, e => ⟨_, rfl, by have := Option.some.inj e; subst this; exact r⟩
  | _, _, .cons _ t, j + 1, _, e => vals_ix t (by simpa using e)
theorem refs_rel : ∀ as : List Addr, Vals (as.map V.ref) (as.map Value.ref)
  | [] => .nil
  | _ :: as => .cons rfl (refs_rel as)
section
variable {X : Cx} {e e2 : Expr} {ta : TA} {p q pos pos2 : Pos}
theorem pe_zipS (hc : X.calm = true) (hg : Gl X "list") (hm : X.mg "list" = none) (hgz : Gl X "zip") (hmz : X.mg "zip" = none) (ha : PA X [e, e2] ta)
    (na : starEach [.Call (.Name "zip" q) [e, e2] [] pos2] X.env = (false, eval (.Call (.Name "zip" q) [e, e2] [] pos2) X.env) :: starEach [] X.env := by rfl)
    (hs : starEach [e, e2] X.env = (false, eval e X.env) :: starEach [e2] X.env := by rfl) (hp : (backTo pos2 (starEach [e2] X.env)).any (·.1) = false := by rfl) :
    PE X (.Call (.Name "list" p) [.Call (.Name "zip" q) [e, e2] [] pos2] [] pos) (tZipS X.K ta) := by
  refine ⟨fun pins s σ H Q I h => ?_⟩
  refine Call_ (ld_blt I hg hm boot_list (PyProof.Rows.callWith_type1 (args_cons ?_ na) na))
  refine Call_ (ld_blt I hgz hmz PyProof.Rows.boot_zip (PyProof.Rows.callWith_type1 (thn (ha.run pos2 pins s σ H _ I h) fun us s1 ⟨vs, H1, I1, r1, q1⟩ => ?_) hs hp))
  obtain ⟨x, b, ys, ex, hb, hlen, fin⟩ := q1
  subst ex
  obtain ⟨u1, u2, rfl, ru, rb⟩ := vals2 r1
  obtain ⟨t, rfl⟩ := ru
  cases rb
  obtain ⟨its, rv, pl, hle⟩ := I1.list hb
  have lb : b < s1.heap.objs.size := pl.lt
  have vl : ys.length = its.length := rv.length
  refine zip_begins2 (begins_text x t) (begins_list b its.toArray) trivial pl.isList fun h1 hz hTI hTO g1 g2 hsz hk => args_nil ?_
  have hh : X.A.handled = none := I1.ok.hd hc
  have D1 := Draws.text (prog := X.prog) (w := X.w) (A := X.A.in1.in1.in1) hh s1.heap.objs.size x t
  have hbi : b ≠ s1.heap.objs.size + 1 := Nat.ne_of_lt (Nat.lt_succ_of_lt lb)
  have D2 := Draws.list (prog := X.prog) (w := X.w) (A := X.A.in1.in1.in1) hh (s1.heap.objs.size + 1) b hbi its.toArray
  have S := zip_sep2 (N := s1.heap.objs.size) (fp1 := []) (fp2 := [b]) (fun _ m => (nomatch m)) (fun c m => by rw [List.mem_singleton.mp m]; exact lb)
  have en : its.toArray.size = x.cps.size := by rw [List.size_toArray, ← vl, hlen]
  rw [en] at D2
  refine Rz.z_list (s := { s1 with heap := h1 }) (A := X.A) S D1 D2 ?_ (by omega) hz hTI hTO ⟨_, g1, rfl, rfl⟩ ⟨⟨_, g2, rfl, rfl⟩, (pl.isList).at fun o e => hk b o e⟩ fun h' tk acc c as kp hL hal told hacc => ?_
  · intro c m
    show c < h1.objs.size
    rw [hsz]
    rcases m with m | m
    · rw [List.mem_singleton.mp m]; exact Nat.lt_add_of_pos_right (by decide)
    · rcases List.mem_cons.mp m with m | m
      · rw [m]; exact Nat.add_lt_add_left (by decide) _
      · rw [List.mem_singleton.mp m]; exact Nat.lt_of_lt_of_le lb (Nat.le_add_right _ _)
  · dsimp only at kp hL told ⊢
    have lN : s1.heap.objs.size ≤ h1.objs.size := by rw [hsz]; exact Nat.le_add_right _ _
    have old : ∀ d o, s1.heap.get? d = some o → h'.get? d = some o := fun d o e => by
      have ld : d < s1.heap.objs.size := Heap.lt_size e
      exact kp d o (Nat.ne_of_lt (Nat.lt_of_lt_of_le ld (Nat.le_add_right _ _))) (Nat.ne_of_lt (Nat.lt_of_lt_of_le ld (Nat.le_add_right _ _))) (Nat.ne_of_lt ld) (Nat.ne_of_lt (Nat.lt_succ_of_lt ld)) (hk d o e)
    have nd : as.Nodup := told.rise.imp fun {a b} (h : a < b) => Nat.ne_of_lt h
    have ge : ∀ a ∈ as, s1.heap.objs.size ≤ a := fun a m => Nat.le_trans lN (Nat.le_of_lt (told.above a m))
    have new : ∀ a ∈ as, H1 a = none := fun a m => I1.hok.fresh (ge a m)
    have newL : H1 h1.objs.size = none := I1.hok.fresh lN
    have Las : h1.objs.size ∉ as := fun m => Nat.lt_irrefl _ (told.above _ m)
    have lo : ∀ d, d < s1.heap.objs.size → d ∉ as ∧ d ≠ h1.objs.size := fun d ld => ⟨fun m => absurd ld (Nat.not_lt.mpr (ge d m)), Nat.ne_of_lt (Nat.lt_of_lt_of_le ld lN)⟩
    let ps : List (V × V) := (x.cps.toList.map fun c => V.str ⟨#[c]⟩).zip ys
    have pget : ∀ (j : Nat) (c : Nat) (y : V), x.cps[j]? = some c → ys[j]? = some y → ps[j]? = some (.str ⟨#[c]⟩, y) := fun j c y e1 e2 => by
      have e3 : (x.cps.toList.map fun c => V.str ⟨#[c]⟩)[j]? = some (.str ⟨#[c]⟩) := by rw [List.getElem?_map, Array.getElem?_toList, e1]; rfl
      exact List.getElem?_zip_eq_some.mpr ⟨e3, e2⟩
    let H2 : Hp := putP (upd H1 h1.objs.size (.lst (as.map V.ref))) as ps
    have H2L : H2 h1.objs.size = some (.lst (as.map V.ref)) := (putP_off as ps _ Las).trans upd_same
    have H2off : ∀ d, d ∉ as → d ≠ h1.objs.size → H2 d = H1 d := fun d m n => (putP_off as ps _ m).trans (upd_ne n)
    have H2k : ∀ d o, H1 d = some o → H2 d = some o := fun d o e => by
      rw [H2off d (fun m => by rw [new d m] at e; cases e) (fun m => by rw [m, newL] at e; cases e)]
      exact e
    have H2a : ∀ (j : Nat) (a : Addr) (c : Nat) (y : V), as[j]? = some a → x.cps[j]? = some c → ys[j]? = some y → H2 a = some (.tup [.str ⟨#[c]⟩, y]) := fun j a c y e1 e2 e3 => putP_at as ps _ nd j a _ e1 (pget j c y e2 e3)
    refine ⟨.ref h1.objs.size, H2, ?_, rfl, fin _ as H2 H2k newL new Las (by rw [hal, hlen]) H2L H2a⟩
    refine I1.call' (ch := []) rfl ⟨fun d o u _ _ _ => old d o u, fun d o u _ _ _ => ⟨o.slots, old d o u⟩, fun d o u n _ => ?_, fun d o u _ => ⟨o, old d o u⟩, fun d _ u => H2k d _ u, fun d _ _ u => H2k d _ u, fun d _ u => ⟨#[], by rw [H2k d _ u]; simp⟩⟩ (fun d o u => ?_) I1.bare fun d m => (nomatch m)
    · obtain ⟨n1, n2⟩ := lo d (Heap.lt_size u)
      rw [H2off d n1 n2]; exact n
    · by_cases m : d ∈ as
      · obtain ⟨j, ej⟩ := List.mem_iff_getElem?.mp m
        obtain ⟨v1, v2, p1, p2, tup⟩ := told.two j d ej
        obtain ⟨c, tk2, ec, rfl⟩ := p1
        have p2' : its[j]? = some v2 := by simpa using p2
        obtain ⟨y, ey, ry⟩ := vals_ix rv p2'
        rw [H2a j d c y ej ec ey] at u
        cases u
        exact ⟨by show 2 ≤ sizeLine; decide, [.str ⟨#[c]⟩ tk2, v2], .cons ⟨_, rfl⟩ (.cons ry .nil), ⟨_, tup, rfl, _, rfl⟩⟩
      · by_cases m2 : d = h1.objs.size
        · rw [m2] at u ⊢
          rw [H2L] at u
          cases u
          refine ⟨by rw [List.length_map]; omega, acc.toList, c, by rw [hacc]; exact refs_rel as, ?_⟩
          rw [Array.toArray_toList]
          exact hL
        · rw [H2off d m m2] at u
          exact (I1.hok d o u).stay (fun d' v _ y => old d' v y) (fun d' y => H2k d' _ y) fun d' zs y => H2k d' _ y
end
end L2

/-! Built-ins over instances of own classes: len, abs, list. -/
namespace L2
open PySem PySem.Spec PyProof.Rows
section
variable {X : Cx} {CX CX2 : CXT} {k k2 : Nat} {f f2 C a dx : Addr} {fs : List (Str × V)} {fd fd2 : FuncData} {ps ps2 : List Str} {sp sp2 : Sp} {pins : List (Addr × Obj)} {σ : St} {H : Hp} {s : Shared}
/-- a def of one argument runs within a built-in -/
theorem run_one {A' : Around} {Q : VK} {E : XK} (F : FnOk X.prog X.w X.K X.mg X.base CX k f fd ps sp) (hr : Room k A') (hfr : A'.frames = X.A.frames) (hb : Binds X.K fd ps []) (hx : PassesAt CX X σ E) (I : Inv X pins σ H s) (h : sp [.ref a] H Q E) :
    wpAny (model X.prog X.w) A' (call (.ref f) [.ref a]) (EP X pins σ Q) X.xe s := run_in (vs := [.ref a]) (dvs := []) (ds := []) F hr hfr hb .nil hx I (.cons rfl .nil) (by simpa using h)
/-- len(o) by an own __len__ -/
def rLenO (C : Addr) (sp : Sp) (E : St → XK) (σ : St) : List V → Hp → VK → Prop := fun xs H Q => ∃ a dx fs, xs = [.ref a] ∧ H a = some (.ins C dx fs) ∧ sp [.ref a] H (fun v H' => ∃ n : Int, v = .int n ∧ 0 ≤ n ∧ n < 2 ^ 63 ∧ Q (.int n) H') (E σ)
def tLenO (C : Addr) (sp : Sp) (E : St → XK) (t : TA) : TE := fun σ H Q => t σ H fun vs H1 => rLenO C sp E σ vs H1 Q
theorem len_run {A' : Around} {Q : VK} {E : XK} (m : Meth X.K C "__len__" f) (F : FnOk X.prog X.w X.K X.mg X.base CX k f fd ps sp) (hr : Room (k + 1) A') (hfr : A'.frames = X.A.frames) (hb : Binds X.K fd ps []) (hx : PassesAt CX X σ E) (I : Inv X pins σ H s) (ea : H a = some (.ins C dx fs))
    (h : sp [.ref a] H (fun v H' => ∃ n : Int, v = .int n ∧ 0 ≤ n ∧ n < 2 ^ 63 ∧ Q (.int n) H') E) : wpAny (model X.prog X.w) A' (call (.builtin "len") [.ref a]) (fun u s' => ∃ n t H', u = .int n t ∧ 0 ≤ n ∧ n < 2 ^ 63 ∧ Inv X pins σ H' s' ∧ Q (.int n) H') X.xe s := by
  obtain ⟨od, J⟩ := I.instAt ea
  obtain ⟨m0, hF⟩ := I.fr
  refine PySem.W.len_K hF I.ok.mod.kin J m.at_ m.fn (thn (run_one F hr.in1 hfr hb hx I h) ?_)
  rintro u s2 ⟨x, H2, I2, rx, n, rfl, n0, n1, q⟩
  obtain ⟨t, rfl⟩ := rx
  exact ⟨⟨n0, n1⟩, n, _, H2, rfl, n0, n1, I2.tok _, q⟩
theorem pe_lenO {E : St → XK} {p pos : Pos} {e : Expr} {t : TA} (m : Meth X.K C "__len__" f) (F : FnOk X.prog X.w X.K X.mg X.base CX k f fd ps sp) (hr : Room (k + 1) X.A) (hb : Binds X.K fd ps []) (hx : ∀ σ, PassesAt CX X σ (E σ))
    (hg : Gl X "len") (hm : X.mg "len" = none) (ha : PA X [e] t) (he : starEach [e] X.env = [(false, eval e X.env)] := by rfl) : PE X (.Call (.Name "len" p) [e] [] pos) (tLenO C sp E t) := by
  constructor
  intro pins s σ H Q I h
  refine wpAny_Call_Name_kw (ld_blt I hg hm (by decide +kernel : bootBuiltins "len" = some (.builtin "len")) ?_ (by decide) (by decide))
  refine PyProof.Rows.callWith_builtin1 (thn (ha.run pos pins s σ H _ I h) ?_) he rfl
  rintro us s1 ⟨vs, H1, I1, r1, a, dx, fs, rfl, ea, q⟩
  obtain rfl := Vals.ref1 r1
  refine thn (len_run m F hr rfl hb (hx σ) I1 ea q) ?_
  rintro u s2 ⟨n, t, H2, rfl, _, _, I2, q2⟩
  exact ⟨.int n, H2, I2, ⟨t, rfl⟩, q2⟩
/-- abs(o) by an own __abs__ -/
def tAbsO (C : Addr) (sp : Sp) (E : St → XK) (t : TA) : TE := fun σ H Q => t σ H fun vs H1 => ∃ a dx fs, vs = [.ref a] ∧ H1 a = some (.ins C dx fs) ∧ sp [.ref a] H1 Q (E σ)
theorem pe_absO {E : St → XK} {p pos : Pos} {e : Expr} {t : TA} (m : Meth X.K C "__abs__" f) (F : FnOk X.prog X.w X.K X.mg X.base CX k f fd ps sp) (hr : Room (k + 1) X.A) (hb : Binds X.K fd ps []) (hx : ∀ σ, PassesAt CX X σ (E σ))
    (hg : Gl X "abs") (hm : X.mg "abs" = none) (ha : PA X [e] t) (he : starEach [e] X.env = [(false, eval e X.env)] := by rfl) : PE X (.Call (.Name "abs" p) [e] [] pos) (tAbsO C sp E t) := by
  constructor
  intro pins s σ H Q I h
  refine wpAny_Call_Name_kw (ld_blt I hg hm (by decide +kernel : bootBuiltins "abs" = some (.builtin "abs")) ?_ (by decide) (by decide))
  refine PyProof.Rows.callWith_builtin1 (thn (ha.run pos pins s σ H _ I h) ?_) he rfl
  rintro us s1 ⟨vs, H1, I1, r1, a, dx, fs, rfl, ea, q⟩
  obtain rfl := Vals.ref1 r1
  obtain ⟨od, J⟩ := I1.instAt ea
  refine Calls.call_function_entry PyProof.Rows.kind_abs PyProof.Rows.plain_abs PyProof.Rows.entry_abs (PyProof.Rows.args_abs _) ?_
  unfold Builtin.«abs»
  refine wpAny_bind (m := oneArg "abs" _) (wpAny_pure ?_)
  refine wpAny_bind (m := callSpecial? (.ref a) (Str.ofString "__abs__")) (PySem.W.special_fn I1.kIn J m.at_ (beq_iff_eq.mp m.fn) (thn (run_one F hr.in1 rfl hb (hx σ) I1 q) fun u s2 hq => ?_))
  exact wpAny_pure ⟨_, rfl, hq⟩
/-- the walk of a list's iterator into the new list at q -/
theorem it_loop {A1 : Around} {l it q : Addr} {ys : List V} {R : Result → Shared → Prop} (hh : A1.handled = none) (ne1 : l ≠ it) (ne2 : l ≠ q) (ne3 : it ≠ q) {H0 : Hp}
    (hR : ∀ s H', Inv X pins σ H' s → (∀ b, b ≠ q → b ≠ it → H' b = H0 b) → H' q = some (.lst ys) → R (.ok (.ret .none)) s) :
    ∀ (n i : Nat) (H : Hp) (s : Shared), ys.length - i = n → i ≤ ys.length → Inv X pins σ H s → (∀ b, b ≠ q → b ≠ it → H b = H0 b) → H l = some (.lst ys) → H it = some (ItO l it i) → H q = some (.lst (ys.take i)) →
      codeAny (model X.prog X.w) A1 (.builtin "list.extend.loop" ⟨[.ref q, .ref it, .none], []⟩) R s := by
  intro n
  induction n with
  | zero =>
    intro i H s hn hi I same el ei eq
    have hi' : i = ys.length := by omega
    obtain ⟨its, rv, pl, hz⟩ := I.list (.of el)
    refine codeAny_builtin PySem.F.entry_extend_loop ?_
    rw [Around.under_plainId PySem.F.plain_extend_loop _]
    show wpAny (model X.prog X.w) A1.in1 (pyNext (.ref it) >>= _) _ _ s
    have ty : s.TypeIs (.ref it) "list_iterator" := ⟨_, itO_get I ei, rfl⟩
    refine wpAny_bind ?_
    unfold pyNext
    refine wpAny_bind (wpAny_attempt (wpAny_callSpecial?_slot (name := Str.ofString "__next__") ty slot_listiter_next (wpAny_call_entry slot_listiter_next ty entry_listiter_next ?_ (args_listiter_next _))))
    have nx : ys[i]? = none := List.getElem?_eq_none (by omega)
    refine wpAny_mono (GNX.next_end (Q := fun _ _ => False) (E := fun e s' => ∃ h1 h' e' vs, e = .ref e' ∧ h1.get? it = some (GNX.itEnd i) ∧ Heap.SameBut it s.heap h1 ∧ (∀ b o, h1.get? b = some o → h'.get? b = some o) ∧ h'.get? e' = some { cls := .type "StopIteration", data := .fields vs } ∧ s' = { s with heap := h' }) (A := A1.in1) hh (itO_get I ei) pl.isList (by rw [List.getElem?_toArray]; exact rv.none_of nx) fun h1 h' e vs e1 sb kp ne he hv => ⟨h1, h', e, vs, rfl, e1, sb, kp, he, rfl⟩) ?_ ?_
    · rintro r s' ⟨v, _, z⟩
      exact z.elim
    · rintro e s' ⟨h1, h', e', vs, rfl, e1, sb, kp, he, rfl⟩
      refine wpAny_bind (wpAny_isInstance (T := "StopIteration") (b := true) ⟨_, he, rfl⟩ isSubtype_stop ?_)
      refine wpAny_pure ?_
      refine wpAny_pure ?_
      have mu : Mut (H it) := by rw [ei]; exact True.intro
      have I2 : Inv X pins σ (upd H it (ItE it i)) { s with heap := h1 } := I.write (x := it) (e := it) (t' := s.toks) mu (.inl rfl) (fun b o nb z => (sb.2 b nb).trans z) ⟨_, e1⟩ (itE_ok e1)
      have I3 : Inv X pins σ (upd H it (ItE it i)) { s with heap := h' } := I2.kept (t' := s.toks) kp
      refine hR _ _ I3 (fun b b1 b2 => by rw [upd_ne b2]; exact same b b1 b2) ?_
      rw [upd_ne (Ne.symm ne3), eq, hi', List.take_length]
  | succ n ih =>
    intro i H s hn hi I same el ei eq
    have lt : i < ys.length := by omega
    obtain ⟨its, rv, pl, hz⟩ := I.list (.of el)
    obtain ⟨u, hu, ru⟩ := rv.get (List.getElem?_eq_getElem lt)
    refine codeAny_builtin PySem.F.entry_extend_loop ?_
    rw [Around.under_plainId PySem.F.plain_extend_loop _]
    show wpAny (model X.prog X.w) A1.in1 (pyNext (.ref it) >>= _) _ _ s
    have ty : s.TypeIs (.ref it) "list_iterator" := ⟨_, itO_get I ei, rfl⟩
    refine wpAny_bind ?_
    unfold pyNext
    refine wpAny_bind (wpAny_attempt (wpAny_callSpecial?_slot (name := Str.ofString "__next__") ty slot_listiter_next (wpAny_call_entry slot_listiter_next ty entry_listiter_next ?_ (args_listiter_next _))))
    refine GNX.next_item (itO_get I ei) pl.isList (by rw [List.getElem?_toArray]; exact hu) fun h' e' sb => wpAny_pure ?_
    have mu : Mut (H it) := by rw [ei]; exact True.intro
    have I2 : Inv X pins σ (upd H it (ItO l it (i + 1))) { s with heap := h' } := I.write (x := it) (e := it) (t' := s.toks) mu (.inl rfl) (fun b o nb z => (sb.2 b nb).trans z) ⟨_, e'⟩ (itO_ok e')
    show wpAny (model X.prog X.w) A1.in1 (updateSeq q (·.push u) >>= _) _ _ _
    have eq2 : upd H it (ItO l it (i + 1)) q = some (.lst (ys.take i)) := by rw [upd_ne (Ne.symm ne3)]; exact eq
    obtain ⟨z, us, c, r2, hl, e⟩ := I2.lstM eq2
    refine wpAny_bind (wpAny_updateSeq e rfl (wpAny_pure ⟨plainId_quiet PySem.F.plain_extend_loop _, ?_⟩) (by rw [List.size_toArray]; omega) (by show (us.toArray.push u).size ≤ sizeLine + 1; rw [Array.size_push, List.size_toArray]; omega))
    have tk : ys.take (i + 1) = ys.take i ++ [ys[i]] := (List.take_succ_eq_append_getElem lt)
    have I3 := I2.lset (its' := us ++ [u]) (ys := ys.take (i + 1)) (f := (·.push u)) (t' := s.toks) eq2 e (by simp) (by rw [tk]; exact r2.append (.cons ru .nil)) (by rw [List.length_take]; omega)
    refine ih (i + 1) _ _ (by omega) lt I3 (fun b b1 b2 => by rw [upd_ne b1, upd_ne b2]; exact same b b1 b2) ?_ ?_ upd_same
    · rw [upd_ne ne2, upd_ne ne1]; exact el
    · rw [upd_ne ne3, upd_same]
/-- what lets nothing out -/
def Shut (CX : CXT) : Prop := ∀ outer H s e s', CX outer H s (fun _ _ _ => False) e s' → False
theorem shut_CX {P : Program} {w : World} : Shut (L2.CX P w) := fun _ _ _ _ _ ⟨_, _, _, _, _, _, _, _, _, _, _, _, z⟩ => z
theorem run_shut {A' : Around} {Q : VK} {E1 : Value → Shared → Prop} (F : FnOk X.prog X.w X.K X.mg X.base CX k f fd ps sp) (hr : Room k A') (hfr : A'.frames = X.A.frames) (hb : Binds X.K fd ps []) (hx : Shut CX) (I : Inv X pins σ H s) (h : sp [.ref a] H Q (fun _ _ _ => False)) :
    wpAny (model X.prog X.w) A' (call (.ref f) [.ref a]) (EP X pins σ Q) E1 s := by
  have e0 := I.env0
  have e1 : Env0 X.prog X.w X.K X.mg X.base A' X.stack s H := ⟨hfr.trans e0.frames, e0.mod, e0.bs, e0.bsz, e0.funs, e0.frf, e0.hok, e0.bare⟩
  have rr : Vals [V.ref a] [Value.ref a] := .cons rfl .nil
  refine wpAny_call (codeAny_mono (F.run A' X.stack s H ⟨[.ref a], []⟩ [.ref a] [.ref a] Q _ hr e1 (by simpa using hb s [.ref a] I.kIn (by have := F.len _ _ _ _ h; simpa using this)) rr h) ?_)
  intro res s' hq
  match res, hq with
  | .error e, hq => exact (hx _ _ _ _ _ hq).elim
  | .ok (.ret u), hq => exact I.after hq
  | .ok .next, hq => exact hq.elim
  | .ok .brk, hq => exact hq.elim
  | .ok .cont, hq => exact hq.elim
theorem len_shut {A' : Around} {P : Int → Hp → Prop} {E1 : Value → Shared → Prop} (m : Meth X.K C "__len__" f) (F : FnOk X.prog X.w X.K X.mg X.base CX k f fd ps sp) (hr : Room (k + 1) A') (hfr : A'.frames = X.A.frames) (hb : Binds X.K fd ps []) (hx : Shut CX) (I : Inv X pins σ H s) (ea : H a = some (.ins C dx fs))
    (h : sp [.ref a] H (fun v H' => ∃ n : Int, v = .int n ∧ 0 ≤ n ∧ n < 1000000 ∧ P n H') (fun _ _ _ => False)) : wpAny (model X.prog X.w) A' (call (.builtin "len") [.ref a]) (fun u s' => ∃ n t H', u = .int n t ∧ 0 ≤ n ∧ n < 1000000 ∧ Inv X pins σ H' s' ∧ P n H') E1 s := by
  obtain ⟨od, J⟩ := I.instAt ea
  obtain ⟨m0, hF⟩ := I.fr
  refine PySem.W.len_K hF I.ok.mod.kin J m.at_ m.fn (thn (run_shut F hr.in1 hfr hb hx I h) ?_)
  rintro u s2 ⟨x, H2, I2, rx, n, rfl, n0, n1, q⟩
  obtain ⟨t, rfl⟩ := rx
  exact ⟨⟨n0, by omega⟩, n, _, H2, rfl, n0, n1, I2.tok _, q⟩
/-- list(o): o's __iter__ gives a list's iterator, its __len__ a number -/
def rListO (C : Addr) (spI spL : Sp) (E : St → XK) (σ : St) : List V → Hp → VK → Prop := fun xs H Q => ∃ a dx fs, xs = [.ref a] ∧ H a = some (.ins C dx fs) ∧ ∀ q, H q = none →
  spI [.ref a] (upd H q (.lst [])) (fun v H1 => ∃ l it ys dx1 fs1, v = .ref it ∧ H1 a = some (.ins C dx1 fs1) ∧ H1 it = some (ItO l it 0) ∧
    spL [.ref a] H1 (fun m H2 => ∃ i : Int, m = .int i ∧ 0 ≤ i ∧ i < 1000000 ∧ H2 l = some (.lst ys) ∧ H2 it = some (ItO l it 0) ∧ H2 q = some (.lst []) ∧ l ≠ q ∧
      ∀ H', (∀ b, b ≠ q → b ≠ it → H' b = H2 b) → H' q = some (.lst ys) → Q (.ref q) H') (fun _ _ _ => False)) (E σ)
def tListO (C : Addr) (spI spL : Sp) (E : St → XK) (t : TA) : TE := fun σ H Q => t σ H fun vs H1 => rListO C spI spL E σ vs H1 Q
theorem pe_listO {E : St → XK} {p pos : Pos} {e : Expr} {t : TA} (mi : Meth X.K C "__iter__" f) (ml : Meth X.K C "__len__" f2) (FI : FnOk X.prog X.w X.K X.mg X.base CX k f fd ps sp) (FL : FnOk X.prog X.w X.K X.mg X.base CX2 k2 f2 fd2 ps2 sp2) (hr : Room (k + 2) X.A) (hr2 : Room (k2 + 3) X.A) (hb : Binds X.K fd ps []) (hb2 : Binds X.K fd2 ps2 [])
    (hx : ∀ σ, PassesAt CX X σ (E σ)) (hx2 : Shut CX2) (hc : X.calm = true) (hg : Gl X "list") (hm : X.mg "list" = none) (ha : PA X [e] t) (he : starEach [e] X.env = [(false, eval e X.env)] := by rfl) : PE X (.Call (.Name "list" p) [e] [] pos) (tListO C sp sp2 E t) := by
  constructor
  intro pins s σ H Q I h
  refine wpAny_Call_Name_kw (ld_blt I hg hm boot_list ?_ (by decide) (by decide))
  refine PyProof.Rows.callWith_type1 (thn (ha.run pos pins s σ H _ I h) ?_) he rfl
  rintro us s1 ⟨vs, H1, I1, r1, a, dx, fs, rfl, ea, fin⟩
  obtain rfl := Vals.ref1 r1
  have hh : X.A.handled = none := I1.ok.hd hc
  refine callType_codes (Q₁ := fun obj t => obj = .ref s1.heap.objs.size ∧ t = { s1 with heap := s1.heap.push { cls := .type "list", data := .seq #[] } }) PySem.F.called_list (PySem.F.typeCall_list_1 _) PySem.F.entry_list_init
    (code_list_new _ ⟨rfl, rfl⟩) fun obj t ht => ?_
  obtain ⟨rfl, rfl⟩ := ht
  have hL : (s1.heap.push { cls := .type "list", data := .seq #[] }).get? s1.heap.objs.size = some { cls := .type "list", data := .seq #[] } := Heap.get?_push_size _ rfl
  refine ⟨⟨_, hL, rfl⟩, PySem.F.args_list_init_2 _ _, ?_⟩
  have fr : H1 s1.heap.objs.size = none := I1.hok.fresh (Nat.le_refl _)
  have q0 := fin _ fr
  have I2 : Inv X pins σ (upd H1 s1.heap.objs.size (.lst [])) { s1 with heap := s1.heap.push { cls := .type "list", data := .seq #[] } } := I1.lnew (its := []) (t' := s1.toks) .nil (Nat.zero_le _)
  have ea2 : upd H1 s1.heap.objs.size (.lst []) a = some (.ins C dx fs) := by rw [upd_ne (ne_of_none ea fr)]; exact ea
  have aL : s1.heap.objs.size ≠ a := (ne_of_none ea fr).symm
  generalize s1.heap.objs.size = L at *
  show wpAny (model X.prog X.w) X.A.in1.in1 (do let old ← Builtin.List.listItems (.ref L); Builtin.List.listUpdate (.ref L) (fun _ => #[]); letGo old.toList.reverse; Builtin.List.listExtendWith (.ref L) (.ref a) .none) _ _ _
  refine wpAny_bind ?_
  unfold Builtin.List.listItems
  refine wpAny_bind (wpAny_seqItems hL rfl (wpAny_pure ?_))
  show wpAny (model X.prog X.w) X.A.in1.in1 (updateSeq L (fun _ => #[]) >>= fun _ => letGo (#[] : Array Value).toList.reverse >>= fun _ => Builtin.List.listExtendWith (.ref L) (.ref a) .none) _ _ _
  refine wpAny_bind (wpAny_updateSeq hL rfl ?_)
  have I3 := I2.lset (f := fun _ => #[]) (its := []) (its' := []) (ys := []) (t' := s1.toks) upd_same hL rfl .nil (Nat.zero_le _)
  rw [upd_upd] at I3
  refine wpAny_bind (wpAny_letGo ?_)
  obtain ⟨od, J⟩ := I3.instAt ea2
  obtain ⟨m0, hF⟩ := I3.fr
  unfold Builtin.List.listExtendWith
  refine wpAny_bind (J.type.here ?_)
  have r1 : Builtin.List.listSameRef (.ref L) (.ref a) = false := by simp [Builtin.List.listSameRef, aL]
  have r2 : (Value.ref C == Value.type "list") = false := rfl
  have r3 : (Value.ref C == Value.type "tuple") = false := rfl
  simp only [r1, r2, r3, Bool.or_false, Bool.false_eq_true, if_false]
  refine wpAny_bind (PySem.W.owit_iter hF I3.ok.mod.kin J mi.at_ mi.fn ?_)

  refine thn (run_one (E := E σ) FI hr.in1.in1 rfl hb (hx σ) I3 q0) ?_
  rintro u s4 ⟨v, H4, I4, rv, l, it, ys, dx1, fs1, rfl, ea4, eit, q4⟩
  cases rv
  unfold PySem.W.OwitIt
  have ty4 : s4.TypeIs (.ref it) "list_iterator" := ⟨_, itO_get I4 eit, rfl⟩
  refine wpAny_specialOf ty4 slot_listiter_next.lookup ?_
  dsimp only
  obtain ⟨od4, J4⟩ := I4.instAt ea4
  refine wpAny_bind (wpAny_holding ?_)
  unfold Builtin.List.listLengthHint
  refine wpAny_bind (wpAny_bind (J4.type.here ((PySem.W.looks_findIn I4.kIn ml.at_).here ?_)))
  refine PySem.W.KFB.if_not rfl ?_
  refine wpAny_ite_split (fun _ => ?_) (fun z => absurd rfl z)
  refine wpAny_bind (wpAny_rule ?_)
  refine wpAny_bind (wpAny_attempt (wpAny_mono (len_shut (E1 := fun _ _ => False) ml FL hr2.in1.in1 rfl hb2 hx2 I4 ea4 q4) ?_ fun _ _ z => z.elim))
  · rintro u s5 ⟨n, t, H5, rfl, n0, n1, I5, el, eit5, eL, nlL, q5⟩
    refine wpAny_bind (m := asInt? (.int n t)) (wpAny_pure ?_)
    dsimp only
    have small : Builtin.List.listTooLong n.toNat = false := notLongL (by rw [sizeLine_eq]; omega)
    rw [small]
    simp only [Bool.false_eq_true, if_false]
    refine wpAny_pure ?_
    obtain ⟨z, its, c, r3, hl3, e3⟩ := I5.lstM eL
    cases r3
    have n1 : l ≠ it := ne_of el eit5 (fun z => nomatch z)
    have n3 : it ≠ L := ne_of eit5 eL (fun z => nomatch z)
    have go : ∀ s' H', Inv X pins σ H' s' → H' = H5 → codeAny (model X.prog X.w) X.A.in1 (.builtin "list.extend.loop" ⟨[.ref L, .ref it, .none], []⟩) (wants (fun r s₂ => r = .none ∧ EP X pins σ Q (.ref L) s₂) X.xe) s' := fun s' H' I' eH => by
      subst eH
      exact it_loop (A1 := X.A.in1) (R := wants (fun r s₂ => r = .none ∧ EP X pins σ Q (.ref L) s₂) X.xe) (H0 := H') hh n1 nlL n3 (fun s'' H'' I'' same eq => ⟨rfl, .ref L, H'', I'', rfl, q5 H'' same eq⟩) ys.length 0 H' s' (Nat.sub_zero _) (Nat.zero_le _) I' (fun _ _ _ => rfl) el eit5 eL
    refine wpAny_ite_split (fun _ => ?_) (fun _ => wpAny_pure ⟨plainId_quiet PySem.F.plain_extend_loop _, go _ _ I5 rfl⟩)
    refine wpAny_bind (wpAny_rule (wpAny_bind ?_))
    show wpAny (model X.prog X.w) X.A.in1.in1 (updateSeq L (·.push .none) >>= fun _ => updateSeq L (·.pop)) _ _ _
    refine wpAny_bind (wpAny_updateSeq e3 rfl ?_)
    have I6 := I5.lset (f := (·.push Value.none)) (its' := [Value.none]) (ys := [.non]) (t' := s5.toks) eL e3 (by simp) (.cons rfl .nil) (by rw [List.length_singleton, sizeLine_eq]; decide)
    obtain ⟨z4, its4, c4, r4, hl4, e4⟩ := I6.lstM upd_same
    obtain ⟨u4, rfl, ru4⟩ := r4.one
    refine wpAny_updateSeq e4 rfl ?_ (by show 1 ≤ sizeLine; rw [sizeLine_eq]; decide) (by show 0 ≤ sizeLine + 1; exact Nat.zero_le _)
    have I7 := I6.lset (f := (·.pop)) (its := [u4]) (its' := []) (ys := []) (t' := s5.toks) upd_same e4 (by rfl) .nil (Nat.zero_le _)
    rw [upd_upd] at I7
    refine wpAny_pure ⟨plainId_quiet PySem.F.plain_extend_loop _, go _ _ I7 ?_⟩
    funext b
    by_cases hb : b = L
    · rw [hb, upd_same, eL]
    · rw [upd_ne hb]
end
end L2

/-! Facts for isinstance; code that is not reached; some more built-ins. -/
namespace Rz
open PySem PySem.Spec PyProof.Rows L2 He
def tyB (C : Str) : Fg → Bool := fun K => (Fa.cls C).ok K && (eqO (PySem.W.findIn K (.ref (ga K C)) "__class__") (some (some (.builtin "object.__class__"))) && (eqO (PySem.W.specialIn K (.builtin "object.__class__") "__get__") (some (some (.builtin "getset_descriptor.__get__"))) &&
  (decide (PySem.W.takesIn K (.builtin "object.__class__") = some true) && decide (PySem.W.mroIn K (ga K C) (.type "object") = some true))))
theorem tyB_ok {C : Str} {K : Fg} (h : tyB C K = true) : C8.InsC K (ga K C) := by
  obtain ⟨h0, h⟩ := ba h
  obtain ⟨h1, h⟩ := ba h
  obtain ⟨h2, h⟩ := ba h
  obtain ⟨h3, h4⟩ := ba h
  exact ⟨cls_ok h0, eqO_ok h1, eqO_ok h2, of_decide_eq_true h3, of_decide_eq_true h4, by unfold PySem.W.kitOne; simp⟩
/-- isinstance of an instance of C (a value of the built-in type T), asked for the built-in type U (the class D) -/
def kitCT (C : Str) (U : String) (r : Bool) : Fg → Bool := fun K => decide (PySem.W.kitOne K (.ref (ga K C)) (.type U) = some r)
def kitTC (T : String) (D : Str) (r : Bool) : Fg → Bool := fun K => decide (PySem.W.kitOne K (.type T) (.ref (ga K D)) = some r)
def kitCC (C D : Str) (r : Bool) : Fg → Bool := fun K => decide (PySem.W.kitOne K (.ref (ga K C)) (.ref (ga K D)) = some r)
theorem tyX_own {K : Fg} {C a dx : Addr} {fs : List (Str × V)} {H : Hp} (c : C8.InsC K C) (ea : H a = some (.ins C dx fs)) : TyX K H (.ref a) (.ref C) := .base (.ins ea c.cl c.ha c.hn c.htk c.hm)
end Rz
namespace L2
open PySem PySem.Spec PyProof.Rows
section
variable {X : Cx}
/-- what is never reached -/
def tDeadE : TE := fun _ _ _ => False
def tDead : TS := fun _ _ _ => False
theorem pe_dead {e : Expr} : PE X e tDeadE := ⟨fun _ _ _ _ _ _ z => z.elim⟩
theorem ps_dead {st : Stmt} : PS X st tDead := ⟨fun _ _ _ _ _ _ z => z.elim⟩
theorem pss_dead {st : List Stmt} : PSs X st tDead := ⟨fun _ _ _ _ _ _ z => z.elim⟩
def rMaxA (K : Frg) : List V → Hp → VK → Prop := rMax K
def rMinA (K : Frg) : List V → Hp → VK → Prop := rMin K
theorem c_max (hc : X.calm = true) : CallR X (.builtin "max") (rMaxA X.K) := cr_max hc
theorem c_min (hc : X.calm = true) : CallR X (.builtin "min") (rMinA X.K) := cr_min hc
def rAnyA (K : Frg) : List V → Hp → VK → Prop := rAny K
theorem c_any (hc : X.calm = true) : CallR X (.builtin "any") (rAnyA X.K) := cr_any hc
def rIterA (K : Frg) : List V → Hp → VK → Prop := rIter K
theorem c_iter : CallR X (.builtin "iter") (rIterA X.K) := call_iterL
def rInsertA : V → List V → Hp → VK → Prop := fun x vs H Q => ∃ (l : Addr) (xs : List V) (i : Int) (y : V), x = .ref l ∧ vs = [.int i, y] ∧ H l = some (.lst xs) ∧ xs.length < sizeLine ∧ 0 ≤ i ∧ i < 2 ^ 63 ∧ Q .non (upd H l (.lst (xs.take i.toNat ++ [y] ++ xs.drop i.toNat)))
theorem mt_insertA : MtR X "list.insert" rInsertA := mt_insert
end
end L2

/-! Operators, subscripts and slices over instances of the program's own classes. -/
namespace PySem.W
open PySem PySem.Calls PyProof.Rows Builtin
section
variable {prog : Program} {w : World} {A : Around} {E : Value → Shared → Prop} {s : Shared} {K : Frag} {x C L f : Addr} {h₀ : Heap} {m : Str → Option Value} {ox : Obj} {od : Option Obj}
theorem notImpl_of_CmpBack {Q : Value → Shared → Prop} {v : Value} {s' : Shared} (hv : v ≠ .notImplemented) (h : Q v s') : CmpBack Q v s' := by
  cases v <;> first | exact absurd rfl hv | exact h
/-- o[i:j] -/
theorem sub_KS {value : Expr} {lo hi : Option Expr} {p : Pos} {i : Value} {Q : Value → Shared → Prop} (F : Fr h₀ L s.heap m) (X₀ : K.In h₀) (I : InstAt s.heap x ox C od) (hs : findIn K (.ref C) "__getitem__" = some (some (.ref f))) (hf : fnIn K f = true) (hfn : isFn K (.ref f) = true) (hq : noSeq K C = true)
    (h : wpAny (model prog w) A (call (.ref f) [.ref x, i]) Q E s) :
    wpAny (model prog w) A (subscriptTail value (.Slice lo hi none p) (.ref x) i) Q E s := by
  have X := X₀.keeps F.keep
  unfold fnIn at hf
  split at hf
  · rename_i e
    unfold subscriptTail getitemInPython
    refine wpAny_bind (wpAny_bind (wpAny_bind (I.type.here ((looks_findIn X hs).here ?_))))
    dsimp only
    refine wpAny_bind (wpAny_load (X _ _ e) (wpAny_pure ?_))
    dsimp only
    show wpAny (model prog w) A (operate [i, .ref x] (getItem (.ref x) i) >>= _) Q E s
    refine wpAny_bind (wpAny_operate' (getItem_K F X₀ I hq hs hfn (wpAny_mono h (fun v s' z => ?_) fun _ _ z => z)))
    show wpAny (model prog w) A (letTemporaryGo value (.ref x) v >>= fun _ => pure v) Q E s'
    exact wpAny_bind (wpAny_letTemporaryGo (wpAny_pure z))
  · cases hf
/-- i * o of an int and an instance by its own __rmul__ -/
theorem rmul_K {i : Int} {t : Tok} {Q : Value → Shared → Prop} (np : ∀ v, ox.data ≠ .prim v) (F : Fr h₀ L s.heap m) (X₀ : K.In h₀) (I : InstAt s.heap x ox C od) (hc : selfFirst K C = true)
    (hs : findIn K (.ref C) "__rmul__" = some (some (.ref f))) (hl : findIn K (.ref C) "__mul__" = some none) (hf : isFn K (.ref f) = true)
    (hsub : subIn K (.ref C) (.type "int") = some false)
    (h : wpAny (model prog w) A (call (.ref f) [.ref x, .int i t]) (CmpBack Q) E s) : wpAny (model prog w) A (binaryOp .Mult (.int i t) (.ref x)) Q E s := by
  have X := X₀.keeps F.keep
  obtain ⟨cd, rest, hcd, hm⟩ := ksp_first hc
  have one := ksp_try (A := A) X I hs hf h
  obtain ⟨hh, g, d, tt, os⟩ := s
  have L1 : Looks (model prog w) hh (typeOf (.ref x)) (.ref C) := I.type
  have L3 : Looks (model prog w) hh (fillsNumberSlot (.ref C) "mul") true := by
    intro A Q E s k q
    have Xs := X.keeps k
    unfold fillsNumberSlot
    refine wpAny_bind ((looks_clsIn X hcd).andThen (f := fun cd => pure cd.mro) .now A _ E s k ?_)
    rw [hm, List.anyM_cons]
    refine wpAny_bind ?_
    show wpAny _ A (List.anyM _ [PySem.dunder "mul", dunderR "mul"]) _ _ _
    rw [List.anyM_cons]
    refine wpAny_bind (wpAny_bind (looks_findIn X (show findIn K (.ref C) (PySem.dunder "mul") = some none from hl) A _ E s k ?_))
    dsimp only
    refine wpAny_pure ?_
    simp only [Bool.false_eq_true, if_false]
    rw [List.anyM_cons]
    refine wpAny_bind (wpAny_bind (looks_findIn X (show findIn K (.ref C) (dunderR "mul") = some (some (.ref f)) from hs) A _ E s k ?_))
    dsimp only
    rw [if_pos (show (!ownNameWrapper (.ref f) (dunderR "mul")) = true from rfl)]
    refine wpAny_pure ?_
    rw [if_pos rfl]
    refine wpAny_pure ?_
    rw [if_pos rfl]
    exact wpAny_pure q
  have L2 : Looks (model prog w) hh (typeOf (.int i t)) (.type "int") := Looks.of_pure rfl
  have L4 : Looks (model prog w) hh (fillsNumberSlot (.type "int") "mul") true := Looks.of_pure PySem.F.fills_int_mul
  have L5 : Looks (model prog w) hh (isSubtype (.ref C) (.type "int")) false := looks_subIn X hsub
  have L6 : Looks (model prog w) hh (numberSlotInPython (.type "int") "mul") false := Looks.of_pure rfl
  have hne : (Value.type "int" == Value.ref C) = false := Bool.eq_false_iff.mpr fun q => by cases beq_iff_eq.mp q
  simp only [binaryOp, Operator.info]
  refine wpAny_holding (wpAny_bind ?_)
  unfold binaryOp1
  refine wpAny_bind (L2.at (wpAny_bind (L1.at (wpAny_bind (L4.at ?_)))))
  simp only [hne, Bool.false_eq_true, if_false]
  refine wpAny_bind (L3.at ?_)
  simp only [Bool.and_self, if_true]
  refine wpAny_bind (L5.at ?_)
  simp only [Bool.false_eq_true, if_false]
  refine wpAny_bind (L6.at ?_)
  simp only [Bool.false_eq_true, if_false]
  refine wpAny_bind (wpAny_mono (Q := fun r s' => r = none ∧ s' = ⟨hh, g, d, tt, os⟩) ?one ?two fun _ _ e => e)
  case one =>
    unfold tryMethod
    refine wpAny_bind (wpAny_callSpecial?_slot (s := ⟨hh, g, d, tt, os⟩) (typeIs_int _ i t) PySem.F.slot_int_mul (wpAny_call_entry PySem.F.slot_int_mul (typeIs_int _ i t) PySem.F.entry_int_mul ?_ (PySem.F.args_int_mul_2 _ _)))
    have e : (⟨hh, g, d, tt, os⟩ : Shared).heap.get? x = some ox := I.at_
    have fin : wpAny (model prog w) A.in1 (asInt? (.ref x)) (fun r s' => r = none ∧ s' = ⟨hh, g, d, tt, os⟩) E ⟨hh, g, d, tt, os⟩ := by
      unfold asInt?
      refine wpAny_bind (wpAny_load e ?_)
      cases q : ox.data with
      | prim v => exact absurd q (np v)
      | _ => exact wpAny_pure ⟨rfl, rfl⟩
    show wpAny (model prog w) A.in1 (asInt? (.ref x) >>= _) _ _ _
    refine wpAny_bind (wpAny_mono fin ?_ fun _ _ z => z)
    rintro r s' ⟨rfl, rfl⟩
    refine wpAny_bind (wpAny_rule ?_)
    exact wpAny_pure ⟨_, rfl, wpAny_pure ⟨rfl, rfl⟩⟩
  case two =>
    rintro r s' ⟨rfl, rfl⟩
    ksp_lk
    refine wpAny_mono one (fun r s' hr' => ?_) fun _ _ e => e
    obtain ⟨v, rfl, hq⟩ := hr'
    ksp_lk
    exact hq
end
end PySem.W
namespace L2
open PySem PySem.Spec PyProof.Rows
/-- a slice object with two ints -/
def Sli (a : Addr) (i j : Int) : HO := .ext fun h => ∃ t u, h.get? a = some { cls := .type "slice", data := .fields #[.int i t, .int j u, .none] }
/-- what a class has for its operators -/
structure OpC (K : PySem.W.Frag) (C : Addr) : Prop where
  first : PySem.W.selfFirst K C = true
  noseq : PySem.W.noSeq K C = true
section
variable {X : Cx} {CX : CXT} {k : Nat} {f C a dx : Addr} {fs : List (Str × V)} {fd : FuncData} {ps : List Str} {sp : Sp} {pins : List (Addr × Obj)} {σ : St} {H : Hp} {s : Shared} {pos : Pos} {e1 e2 e3 : Expr} {t1 t2 t3 : TE}
theorem rel_ni {x : V} {v : Value} (r : RelV x v) : v ≠ .notImplemented := by
  cases x with
  | non => intro e; rw [show v = Value.none from r] at e; cases e
  | bl b => intro e; rw [show v = Value.bool b from r] at e; cases e
  | int i => obtain ⟨t, rfl⟩ := r; intro e; cases e
  | str i => obtain ⟨t, rfl⟩ := r; intro e; cases e
  | byt i => obtain ⟨t, rfl⟩ := r; intro e; cases e
  | flt i => obtain ⟨t, rfl⟩ := r; intro e; cases e
  | ref i => intro e; rw [show v = Value.ref i from r] at e; cases e
  | ty i => intro e; rw [show v = Value.type i from r] at e; cases e
theorem EP.back {Q : VK} {v : Value} {s' : Shared} (h : EP X pins σ Q v s') : PySem.W.CmpBack (EP X pins σ Q) v s' := by
  obtain ⟨x, H', I, r, q⟩ := h
  exact PySem.W.notImpl_of_CmpBack (rel_ni r) ⟨x, H', I, r, q⟩
/-- a def of two arguments runs within an operator -/
theorem run_two {A' : Around} {Q : VK} {E : XK} {y : V} {u : Value} (F : FnOk X.prog X.w X.K X.mg X.base CX k f fd ps sp) (hr : Room k A') (hfr : A'.frames = X.A.frames) (hb : Binds X.K fd ps []) (hx : PassesAt CX X σ E) (I : Inv X pins σ H s) (ry : RelV y u) (h : sp [.ref a, y] H Q E) :
    wpAny (model X.prog X.w) A' (call (.ref f) [.ref a, u]) (EP X pins σ Q) X.xe s := run_in (vs := [.ref a, y]) (dvs := []) (ds := []) F hr hfr hb .nil hx I (.cons rfl (.cons ry .nil)) (by simpa using h)
def tOwn (C : Addr) (sp : Sp) (E : St → XK) (P : V → Hp → Prop) (ta tb : TE) : TE := fun σ H Q => ta σ H fun x H1 => tb σ H1 fun y H2 => ∃ a dx fs, x = .ref a ∧ H2 a = some (.ins C dx fs) ∧ P y H2 ∧ sp [.ref a, y] H2 Q (E σ)
def isIns (C : Addr) : V → Hp → Prop := fun y H => ∃ b dx fs, y = .ref b ∧ H b = some (.ins C dx fs)
def anyV : V → Hp → Prop := fun _ _ => True
def isIntV : V → Hp → Prop := fun y _ => ∃ i, y = .int i
/-- o + q of two instances of one class -/
theorem pe_addO {op : Operator} {E : St → XK} (m : Meth X.K C (PySem.dunder op.info.2) f) (c : OpC X.K C) (F : FnOk X.prog X.w X.K X.mg X.base CX k f fd ps sp) (hr : Room k X.A) (hb : Binds X.K fd ps []) (hx : ∀ σ, PassesAt CX X σ (E σ))
    (ha : PE X e1 t1) (hb2 : PE X e2 t2) : PE X (.BinOp e1 op e2 pos) (tOwn C sp E (isIns C) t1 t2) := by
  refine ⟨fun pins s σ H Q I h => wpAny_BinOp (binT ha hb2 I h fun v u s2 x y H2 I2 rx ry q => ?_)⟩
  obtain ⟨a, dx, fs, rfl, ea, ⟨b, dx2, fs2, rfl, eb⟩, q⟩ := q
  cases rx
  cases ry
  obtain ⟨od, J⟩ := I2.instAt ea
  obtain ⟨od2, J2⟩ := I2.instAt eb
  obtain ⟨m0, hF⟩ := I2.fr
  exact PySem.W.binop_K hF I2.ok.mod.kin J J2.type c.first m.at_ m.fn (thn (run_two (y := .ref b) F hr rfl hb (hx σ) I2 rfl q) fun _ _ z => z.back)
/-- x in o -/
def tInO (C : Addr) (sp : Sp) (E : St → XK) (ta tb : TE) : TE := fun σ H Q => ta σ H fun x H1 => tb σ H1 fun y H2 => ∃ a dx fs, y = .ref a ∧ H2 a = some (.ins C dx fs) ∧ sp [.ref a, x] H2 (fun v H' => ∃ b, v = .bl b ∧ Q (.bl b) H') (E σ)
theorem in_run {E : St → XK} {x : V} {u : Value} {Q : VK} (m : Meth X.K C "__contains__" f) (F : FnOk X.prog X.w X.K X.mg X.base CX k f fd ps sp) (hr : Room k X.A) (hb : Binds X.K fd ps []) (hx : ∀ σ, PassesAt CX X σ (E σ)) (I2 : Inv X pins σ H s) (rx : RelV x u) (ea : H a = some (.ins C dx fs))
    (q : sp [.ref a, x] H (fun v H' => ∃ b, v = .bl b ∧ Q (.bl b) H') (E σ)) : wpAny (model X.prog X.w) X.A (compareOp .In u (.ref a)) (EP X pins σ Q) X.xe s := by
  obtain ⟨od, J⟩ := I2.instAt ea
  obtain ⟨m0, hF⟩ := I2.fr
  refine PySem.W.in_K hF I2.ok.mod.kin J m.at_ m.fn (thn (run_two F hr rfl hb (hx σ) I2 rx q) ?_)
  rintro v s3 ⟨z, H3, I3, rz, b, rfl, q3⟩
  cases rz
  exact wpAny_truthy_bool ⟨.bl b, H3, I3, rfl, q3⟩
theorem pe_inO {E : St → XK} (m : Meth X.K C "__contains__" f) (F : FnOk X.prog X.w X.K X.mg X.base CX k f fd ps sp) (hr : Room k X.A) (hb : Binds X.K fd ps []) (hx : ∀ σ, PassesAt CX X σ (E σ))
    (ha : PE X e1 t1) (hb2 : PE X e2 t2) (hm : behindInMarks .In e2 = false) : PE X (.Compare e1 [.In] [e2] pos) (tInO C sp E t1 t2) := by
  refine ⟨fun pins s σ H Q I h => wpAny_Compare1 (binT ha hb2 I h fun v u s2 x y H2 I2 rx ry q => ?_) hm⟩
  obtain ⟨a, dx, fs, rfl, ea, q⟩ := q
  cases ry
  exact in_run m F hr hb hx I2 rx ea q
/-- o[i] by an own __getitem__ -/
theorem pe_getO {E : St → XK} (m : Meth X.K C "__getitem__" f) (hf : PySem.W.fnIn X.K f = true) (F : FnOk X.prog X.w X.K X.mg X.base CX k f fd ps sp) (hr : Room (k + 1) X.A) (hb : Binds X.K fd ps []) (hx : ∀ σ, PassesAt CX X σ (E σ))
    (ha : PE X e1 t1) (hb2 : PE X e2 t2) (hs : ∀ o i, subscripted e2 true o i = runValue (.builtin "lifetime.subscript" ⟨[o, i], []⟩)) : PE X (.Subscript e1 e2 pos) (tOwn C sp E anyV t1 t2) := by
  refine ⟨fun pins s σ H Q I h => Subscript_ (binT ha hb2 I h fun v u s2 x y H2 I2 rx ry q => ?_)⟩
  obtain ⟨a, dx, fs, rfl, ea, _, q⟩ := q
  cases rx
  obtain ⟨od, J⟩ := I2.instAt ea
  obtain ⟨m0, hF⟩ := I2.fr
  exact PySem.W.sub_K hF I2.ok.mod.kin J m.at_ hf m.fn (run_two F hr.in1 rfl hb (hx σ) I2 ry q) (hs _ _)
/-- i:j in a subscript -/
def tSli (ta tb : TE) : TE := fun σ H Q => ta σ H fun x H1 => tb σ H1 fun y H2 => ∃ i j, x = .int i ∧ y = .int j ∧ ∀ p, H2 p = none → Q (.ref p) (upd H2 p (Sli p i j))
theorem pe_sli {p2 : Pos} (ha : PE X e1 t1) (hb2 : PE X e2 t2) : PE X (.Slice (some e1) (some e2) none p2) (tSli t1 t2) := by
  refine ⟨fun pins s σ H Q I h => ?_⟩
  refine wpAny_Slice (thn (ha.run pins s σ H _ I h) fun vl s2 ⟨x, H2, I2, r1, q2⟩ => thn (hb2.run pins s2 σ H2 _ I2 q2) fun vu s3 ⟨y, H3, I3, r2, q3⟩ => ?_)
  obtain ⟨i, j, rfl, rfl, q⟩ := q3
  obtain ⟨t, rfl⟩ := r1
  obtain ⟨u, rfl⟩ := r2
  rw [evalPart_none]
  refine wpAny_pure ?_
  have fr : H3 s3.heap.objs.size = none := I3.hok.fresh (Nat.le_refl _)
  have I4 : Inv X pins σ (upd H3 s3.heap.objs.size (Sli s3.heap.objs.size i j)) { s3 with heap := s3.heap.push { cls := .type "slice", data := .fields #[.int i t, .int j u, .none] } } :=
    I3.laid (t' := s3.toks) (fun _ _ q => Heap.get?_push_of_some _ q) (Nat.le_refl _) ⟨⟨t, u, Heap.get?_push_size _ rfl⟩, ⟨_, Heap.get?_push_size _ rfl⟩, fun h1 h2 z k => let ⟨t, u, e⟩ := z; ⟨t, u, k _ e⟩⟩
  exact ⟨.ref s3.heap.objs.size, _, I4, rfl, q _ fr⟩
theorem pe_getOS {lo hi : Option Expr} {p2 : Pos} {E : St → XK} (m : Meth X.K C "__getitem__" f) (hf : PySem.W.fnIn X.K f = true) (c : OpC X.K C) (F : FnOk X.prog X.w X.K X.mg X.base CX k f fd ps sp) (hr : Room k X.A) (hb : Binds X.K fd ps []) (hx : ∀ σ, PassesAt CX X σ (E σ))
    (ha : PE X e1 t1) (hb2 : PE X (.Slice lo hi none p2) t2) : PE X (.Subscript e1 (.Slice lo hi none p2) pos) (tOwn C sp E anyV t1 t2) := by
  refine ⟨fun pins s σ H Q I h => Subscript_ (binT ha hb2 I h fun v u s2 x y H2 I2 rx ry q => ?_)⟩
  obtain ⟨a, dx, fs, rfl, ea, _, q⟩ := q
  cases rx
  obtain ⟨od, J⟩ := I2.instAt ea
  obtain ⟨m0, hF⟩ := I2.fr
  exact PySem.W.sub_KS hF I2.ok.mod.kin J m.at_ hf m.fn c.noseq (run_two F hr rfl hb (hx σ) I2 ry q)
/-- o[i] = v by an own __setitem__ -/
def gSubO (C : Addr) (sp : Sp) (E : St → XK) (to ti : TE) : TG := fun v σ H Q => to σ H fun x H1 => ti σ H1 fun i H2 => ∃ a dx fs, x = .ref a ∧ H2 a = some (.ins C dx fs) ∧ sp [.ref a, i, v] H2 (fun _ H3 => Q σ H3) (E σ)
theorem pg_subO {l : List Value → List Value} {E : St → XK} (m : Meth X.K C "__setitem__" f) (c : OpC X.K C) (F : FnOk X.prog X.w X.K X.mg X.base CX k f fd ps sp) (hr : Room k X.A) (hb : Binds X.K fd ps []) (hx : ∀ σ, PassesAt CX X σ (E σ))
    (ho : PE X e1 t1) (hi : PE X e2 t2)
    (ha : ∀ v, assign (.Subscript e1 e2 pos) X.env v = (do
      let ov ← holding [v] (eval e1 X.env)
      let iv ← holding [v, ov] (eval e2 X.env)
      standAt pos
      holding [v, ov, iv] (setItem ov iv v)
      release (l [v, ov, iv]) [])) : PG X (.Subscript e1 e2 pos) (gSubO C sp E t1 t2) := by
  refine ⟨fun pins s σ H v u Q I r h => ?_⟩
  rw [ha]
  refine wpAny_bind (wpAny_holding (thn (ho.run pins s σ H _ I h) fun ov s1 ⟨x, H1, I1, r1, q1⟩ => ?_))
  refine wpAny_bind (wpAny_holding (thn (hi.run pins s1 σ H1 _ I1 q1) fun iv s2 ⟨y, H2, I2, r2, a, dx, fs, ex, ea, q2⟩ => ?_))
  subst ex
  cases r1
  obtain ⟨od, J⟩ := I2.instAt ea
  obtain ⟨m0, hF⟩ := I2.fr
  refine wpAny_bind (wpAny_standAt (wpAny_bind (wpAny_holding (PySem.W.ksp_setItem hF I2.ok.mod.kin J c.noseq m.at_ m.fn (thn (run_in (vs := [.ref a, y, v]) (dvs := []) (ds := []) F hr rfl hb .nil (hx σ) I2 (.cons rfl (.cons r2 (.cons r .nil))) (by simpa using q2)) ?_)))))
  rintro z s3 ⟨zv, H3, I3, _, q3⟩
  exact wpAny_release ⟨σ, H3, I3, q3⟩
end
end L2

/-! Slices as values; operators of own classes with ints; += of own classes. -/
namespace L2
open PySem PySem.Spec PyProof.Rows
section
variable {X : Cx} {CX : CXT} {k : Nat} {f C a dx : Addr} {fs : List (Str × V)} {fd : FuncData} {ps : List Str} {sp : Sp} {pins : List (Addr × Obj)} {σ : St} {H : Hp} {s : Shared} {pos : Pos} {e1 e2 e3 : Expr} {t1 t2 t3 : TE}
theorem passE0 (σ : St) : PassesAt (L2.CX X.prog X.w) X σ E0 := fun _ _ _ _ _ _ h => by
  obtain ⟨_, _, _, _, _, _, _, _, _, _, _, _, z⟩ := h
  exact z.elim
theorem fnIn_D {K : Frg} {x qual : Str} {params : Arguments} {body : List Stmt} {scope : Scope} {dvs : List V} {kws : List (Str × V)} (F : FunD K x qual params body scope dvs kws f fd) : PySem.W.fnIn K f = true := by
  obtain ⟨oc, od, dV, kV, doc, pm, an, cdv, ct, osl, rfl, lk, _⟩ := F.ex
  unfold PySem.W.fnIn
  rw [lk]
theorem sli_of {p : Addr} {i j : Int} (I : Inv X pins σ H s) (h : H p = some (Sli p i j)) : ∃ t u, s.heap.IsSliceOf p (.int i t) (.int j u) .none := by
  obtain ⟨⟨t, u, e⟩, _⟩ := I.hok p _ h
  exact ⟨t, u, _, e, rfl, rfl⟩
/-- a[s], s a slice object -/
def rIxSl (r : SlV) : R2 := fun x y H Q => ∃ p i j, y = .ref p ∧ H p = some (Sli p i j) ∧ r x (some i) (some j) H Q
theorem ix_sli {r : SlV} (hr : SlR X r) : IxR X (rIxSl r) := by
  intro value slice pins s σ H x y v u Q I rx ry h hs
  obtain ⟨p, i, j, rfl, hp, q⟩ := h
  cases ry
  obtain ⟨t, u, e⟩ := sli_of I hp
  obtain ⟨T, id, hT, ht, hg⟩ := hr pins s σ H x v _ _ _ _ p Q I rx e (.int i t) (.int j u) q
  exact tail_any ht hT hg hs
/-- a[i], a[s] -/
def rIxW (K : Frg) : R2 := fun x y H Q => rIx K x y H Q ∨ rIxSl (rSlA K) x y H Q
theorem ix_W : IxR X (rIxW X.K) := ix_seq.or (ix_sli sl_A)
/-- a[s] = b of lists, s a slice object -/
def rSetSl : TSet := fun o i v H Q => ∃ l b p xs ys c d, o = .ref l ∧ i = .ref p ∧ v = .ref b ∧ H l = some (.lst xs) ∧ H b = some (.lst ys) ∧ l ≠ b ∧ H p = some (Sli p c d) ∧ 0 ≤ c ∧ c ≤ d ∧ d ≤ xs.length ∧ xs.length + ys.length ≤ sizeLine ∧ Q (upd H l (.lst (xs.take c.toNat ++ ys ++ xs.drop d.toNat)))
theorem set_sli : PSet X rSetSl := by
  intro pins s σ H o i v ov iv u Q I ro ri rv h
  obtain ⟨l, b, p, xs, ys, c, d, rfl, rfl, rfl, hl, hb, ne, hp, h0, hcd, hd, hz, q⟩ := h
  cases ro
  cases ri
  cases rv
  obtain ⟨t, w, e⟩ := sli_of I hp
  exact set_slice I hl hb ne e ⟨t, rfl⟩ ⟨w, rfl⟩ h0 hcd hd hz fun s' I' => ⟨_, I', q⟩
def rSetW : TSet := fun o i v H Q => rSetL o i v H Q ∨ rSetSl o i v H Q
theorem set_W : PSet X rSetW := by
  intro pins s σ H o i v ov iv u Q I ro ri rv h
  rcases h with h | h
  · exact set_list pins s σ H o i v ov iv u Q I ro ri rv h
  · exact set_sli pins s σ H o i v ov iv u Q I ro ri rv h
/-- i * o -/
structure RmC (K : PySem.W.Frag) (C : Addr) : Prop where
  no : PySem.W.findIn K (.ref C) "__mul__" = some none
  sub : PySem.W.subIn K (.ref C) (.type "int") = some false
def tRmul (C : Addr) (sp : Sp) (E : St → XK) (ta tb : TE) : TE := fun σ H Q => ta σ H fun x H1 => tb σ H1 fun y H2 => ∃ i a dx fs, x = .int i ∧ y = .ref a ∧ H2 a = some (.ins C dx fs) ∧ sp [.ref a, .int i] H2 Q (E σ)
theorem pe_rmulO {E : St → XK} (m : Meth X.K C "__rmul__" f) (c : OpC X.K C) (c2 : RmC X.K C) (F : FnOk X.prog X.w X.K X.mg X.base CX k f fd ps sp) (hr : Room k X.A) (hb : Binds X.K fd ps []) (hx : ∀ σ, PassesAt CX X σ (E σ))
    (ha : PE X e1 t1) (hb2 : PE X e2 t2) : PE X (.BinOp e1 .Mult e2 pos) (tRmul C sp E t1 t2) := by
  refine ⟨fun pins s σ H Q I h => wpAny_BinOp (binT ha hb2 I h fun v u s2 x y H2 I2 rx ry q => ?_)⟩
  obtain ⟨i, a, dx, fs, rfl, rfl, ea, q⟩ := q
  obtain ⟨t, rfl⟩ := rx
  cases ry
  obtain ⟨od, J⟩ := I2.instAt ea
  obtain ⟨m0, hF⟩ := I2.fr
  exact PySem.W.rmul_K (fun v z => by cases z) hF I2.ok.mod.kin J c.first m.at_ c2.no m.fn c2.sub (thn (run_two (y := .int i) F hr rfl hb (hx σ) I2 ⟨t, rfl⟩ q) fun _ _ z => z.back)
/-- o op i -/
structure BiC (K : PySem.W.Frag) (C : Addr) (nm : String) : Prop where
  r : PySem.W.findIn K (.ref C) (PySem.dunderR nm) = some none
  f1 : ∃ v, PySem.W.findIn K (.type "int") (PySem.dunder nm) = some v
  f2 : ∃ v, PySem.W.findIn K (.type "int") (PySem.dunderR nm) = some v
  sub : PySem.W.subIn K (.type "int") (.ref C) = some false
theorem pe_binI {op : Operator} {E : St → XK} (m : Meth X.K C (PySem.dunder op.info.2) f) (c : OpC X.K C) (c2 : BiC X.K C op.info.2) (F : FnOk X.prog X.w X.K X.mg X.base CX k f fd ps sp) (hr : Room k X.A) (hb : Binds X.K fd ps []) (hx : ∀ σ, PassesAt CX X σ (E σ))
    (ha : PE X e1 t1) (hb2 : PE X e2 t2) : PE X (.BinOp e1 op e2 pos) (tOwn C sp E isIntV t1 t2) := by
  refine ⟨fun pins s σ H Q I h => wpAny_BinOp (binT ha hb2 I h fun v u s2 x y H2 I2 rx ry q => ?_)⟩
  obtain ⟨a, dx, fs, rfl, ea, ⟨i, rfl⟩, q⟩ := q
  cases rx
  obtain ⟨t, rfl⟩ := ry
  obtain ⟨od, J⟩ := I2.instAt ea
  obtain ⟨m0, hF⟩ := I2.fr
  obtain ⟨v1, f1⟩ := c2.f1
  obtain ⟨v2, f2⟩ := c2.f2
  exact PySem.W.ksp_binT (T := "int") hF I2.ok.mod.kin J rfl c.first m.at_ m.fn c2.r (.inl rfl) f1 f2 c2.sub (thn (run_two (y := .int i) F hr rfl hb (hx σ) I2 ⟨t, rfl⟩ q) fun _ _ z => z.back)
/-- x op= q, x an instance with its own method -/
def rIpO (C : Addr) (sp : Sp) (E : XK) : TIp := fun x y H Q => ∃ a dx fs, x = .ref a ∧ H a = some (.ins C dx fs) ∧ sp [.ref a, y] H Q E
theorem ip_own {op : Operator} {E : XK} (m : Meth X.K C (PySem.dunderI op.info.2) f) (c : OpC X.K C) (F : FnOk X.prog X.w X.K X.mg X.base CX k f fd ps sp) (hr : Room k X.A) (hb : Binds X.K fd ps []) (hx : ∀ σ, PassesAt CX X σ E) : PIp X op (rIpO C sp E) := by
  intro pins s σ H x y v u Q I rx ry h
  obtain ⟨a, dx, fs, rfl, ea, q⟩ := h
  cases rx
  obtain ⟨od, J⟩ := I.instAt ea
  obtain ⟨m0, hF⟩ := I.fr
  exact PySem.W.ksp_inplace hF I.ok.mod.kin J c.first m.at_ m.fn (thn (run_two F hr rfl hb (hx σ) I ry q) fun _ _ z => z.back)
end
end L2
namespace Rz
open PySem PySem.Spec PyProof.Rows L2 He
def opB (C : Str) : Fg → Bool := fun K => PySem.W.selfFirst K (ga K C) && PySem.W.noSeq K (ga K C)
theorem opB_ok {C : Str} {K : Fg} (h : opB C K = true) : OpC K (ga K C) := ⟨(ba h).1, (ba h).2⟩
def rmB (C : Str) : Fg → Bool := fun K => eqO (PySem.W.findIn K (.ref (ga K C)) "__mul__") (some none) && decide (PySem.W.subIn K (.ref (ga K C)) (.type "int") = some false)
theorem rmB_ok {C : Str} {K : Fg} (h : rmB C K = true) : RmC K (ga K C) := ⟨eqO_ok (ba h).1, of_decide_eq_true (ba h).2⟩
def biB (C : Str) (nm : String) : Fg → Bool := fun K => (eqO (PySem.W.findIn K (.ref (ga K C)) (PySem.dunderR nm)) (some none) && decide (PySem.W.subIn K (.type "int") (.ref (ga K C)) = some false)) && ((PySem.W.findIn K (.type "int") (PySem.dunder nm)).isSome && (PySem.W.findIn K (.type "int") (PySem.dunderR nm)).isSome)
theorem biB_ok {C : Str} {nm : String} {K : Fg} (h : biB C nm K = true) : BiC K (ga K C) nm :=
  ⟨eqO_ok (ba (ba h).1).1, Option.isSome_iff_exists.mp (ba (ba h).2).1, Option.isSome_iff_exists.mp (ba (ba h).2).2, of_decide_eq_true (ba (ba h).1).2⟩
end Rz

/-! isinstance of a slice object. -/
namespace RzSl
open PySem PySem.F
theorem ga_entry : entryFor table "slice.__getattribute__" = some Builtin.«object.__getattribute__» := by
  refine entryFor_alias (id' := "object.__getattribute__") ?_ ?_ ?_ ?_
  · kernel_rfl
  · first | rfl | decide +kernel
  · decide +kernel
  · kernel_rfl
theorem ga_slot : Slot "slice" "__getattribute__" "slice.__getattribute__" := by
  refine Slot.of (owner := "slice") (n := "__getattribute__") ?_ ?_ ?_ ?_ ?_ ?_
  · rw [typeLookup_type, builtinLookup_eq_fast]
    kernel_rfl
  · decide +kernel
  · decide +kernel
  · decide +kernel
  · first | exact .inl (by decide +kernel) | exact .inr (by decide +kernel)
  · rw [isSubtype_type]
    kernel_rfl
theorem ga_args (a b : Value) : argsOk "slice.__getattribute__" ⟨[a, b], []⟩ := by
  unfold argsOk
  kernel_rfl
theorem cls_lk : typeLookup (.type "slice") "__class__" = pure (some (.builtin "object.__class__")) := by
  rw [typeLookup_type, builtinLookup_eq_fast]
  kernel_rfl
theorem cls_owner : isSubtype (.type "slice") (.type (".".intercalate ("object.__class__".cutAt '.').dropLast)) = pure true := by
  rw [owner_object_class]
  rw [isSubtype_type]
  kernel_rfl
section
variable {P : Program} {w : World} {A : Around} {E : Value → Shared → Prop} {h : Heap} {g : Array GenState} {d : Drawn} {t : Nat} {os : OsState} {a : Addr} {o : Obj}
theorem c_get {R : Result → Shared → Prop} (hx : h.get? a = some o) (hc : o.cls = .type "slice") (hq : R (.ok (.ret (.type "slice"))) ⟨h, g, d, t, os⟩) :
    codeAny (model P w) A (.call (.builtin "getset_descriptor.__get__") ⟨[.builtin "object.__class__", .ref a, .type "slice"], []⟩) R ⟨h, g, d, t, os⟩ := by
  have k1 : (⟨h, g, d, t, os⟩ : Shared).TypeIs (.ref a) "slice" := ⟨_, hx, hc⟩
  have k2 : (⟨h, g, d, t, os⟩ : Shared).TypeIs (.builtin "object.__class__") "getset_descriptor" := typeOf_object_class
  have k3 := cls_owner
  refine codeAny_call_builtin slot_gs_get.plain entry_gs_get ?_
  refine slot_gs_get.check _ _ _ _ _ _ _ _ k2 (args_gs_get _ _ _) ?_
  repeat (any_goals (first | assumption | wp_step))
  refine ⟨Code.quiet_builtin _ (by decide +kernel), ?_⟩
  refine codeAny_builtin entry_object_class ?_
  repeat (any_goals (first | assumption | wp_step))
theorem c_entry {tk : Tok} {Q : Fin → Shared → Prop} (hx : h.get? a = some o) (hc : o.cls = .type "slice") (hq : Q (.done (.ret (.type "slice"))) ⟨h, g, d, t, os⟩) :
    wpAny (model P w) A (Builtin.«object.__getattribute__» ⟨[.ref a, .str "__class__" tk], []⟩) Q E ⟨h, g, d, t, os⟩ := by
  have k1 : (⟨h, g, d, t, os⟩ : Shared).TypeIs (.ref a) "slice" := ⟨_, hx, hc⟩
  have k2 : (⟨h, g, d, t, os⟩ : Shared).TypeIs (.builtin "object.__class__") "getset_descriptor" := typeOf_object_class
  have k3 := cls_lk
  have k4 := typeOf_object_class
  have k5 := slot_gs_get.lookup
  have k6 := slot_gs_set.lookup
  repeat (any_goals (first | assumption | wp_step))
  refine c_get hx hc ?_
  repeat (any_goals (first | assumption | wp_step))
theorem c_by {tk : Tok} {Q : Value → Shared → Prop} (hx : h.get? a = some o) (hc : o.cls = .type "slice") (hq : Q (.type "slice") ⟨h, g, d, t, os⟩) : wpAny (model P w) A (getAttrBy (.ref a) (.str "__class__" tk) false) Q E ⟨h, g, d, t, os⟩ := by
  have k1 : (⟨h, g, d, t, os⟩ : Shared).TypeIs (.ref a) "slice" := ⟨_, hx, hc⟩
  have k2 := ga_slot.lookup
  have k3 := ga_slot.bind (.ref a)
  repeat (any_goals (first | assumption | wp_step))
  refine codeAny_call_builtin ga_slot.plain ga_entry ?_
  refine ga_slot.check _ _ _ _ _ _ _ _ k1 (ga_args _ _) ?_
  refine c_entry hx hc ?_
  repeat (any_goals (first | assumption | wp_step))
theorem c_attr {Q : Option Value → Shared → Prop} (hx : h.get? a = some o) (hc : o.cls = .type "slice") (hq : Q (some (.type "slice")) ⟨h, g, d, t + 1, os⟩) : wpAny (model P w) A (getAttr? (.ref a) "__class__") Q E ⟨h, g, d, t, os⟩ := by
  unfold getAttr? getAttrBy?
  repeat (any_goals (first | assumption | with_reducible apply c_by hx hc | wp_step))
end
theorem kit {K : PySem.W.Frag} {a : Addr} : PySem.W.KitX K (.ref a) (.type "slice") (PySem.W.KitAt a "slice") := by
  refine PySem.W.kitx_of PySem.W.kitAt_ty ?_
  intro P w A E Q s p k
  obtain ⟨h, g, d, t, os⟩ := s
  obtain ⟨o, h1, h2⟩ := p
  exact c_attr h1 h2 k
end RzSl
namespace L2
open PySem PySem.Spec PyProof.Rows
/-- isinstance, slice objects besides -/
def rIsiW (K : Frg) : RC := fun xs H Q => rIsi K xs H Q ∨ ∃ p i j c u b, xs = [.ref p, c] ∧ H p = some (Sli p i j) ∧ ClsV c u ∧ PySem.W.kitOne K (.type "slice") u = some b ∧ Q (.bl b) H
theorem c_isiW {X : Cx} : CallR X (.builtin "isinstance") (rIsiW X.K) := by
  intro pins s σ H xs us Q I r h
  rcases h with h | ⟨p, i, j, c, u, b, rfl, hp, k, e, q⟩
  · exact call_isi pins s σ H xs us Q I r h
  · obtain ⟨u1, u2, rfl, r1, r2⟩ := vals2 r
    have e2 := k.eq r2
    subst e2
    cases r1
    obtain ⟨⟨t, u, e3⟩, _⟩ := I.hok p _ hp
    exact PySem.W.kia_one RzSl.kit I.kIn ⟨_, e3, rfl⟩ e (fun z => nomatch z) fun tk => ⟨.bl b, H, I.tok tk, rfl, q⟩
end L2

/-! Calls with keywords; instances called. -/
namespace L2
open PySem PySem.Spec PyProof.Rows
section
variable {K : PySem.W.Frag} {x qual : Str} {params : Arguments} {body : List Stmt} {scope : Scope} {dvs : List V} {kws : List (Str × V)} {f : Addr} {fd : FuncData} {ps : List Str}
/-- a def with defaults, none of them keyword-only: keywords ks -/
theorem FunD.kbD (F : FunD K x qual params body scope dvs [] f fd) (n : Nat) (ks : List Str) (g : {α : Type} → List α → List α → List α → List α) (hd : dvs ≠ [])
    (hrel : ∀ {vs ds zs : List V} {us its ws : List Value}, Vals vs us → Vals ds its → Vals zs ws → Vals (g vs ds zs) (g us its ws))
    (h : ∀ (T : Addr) (kV doc pm : Value) (an : Option Addr) (cdv ct : Value) (us its ws : List Value), us.length = n → its.length = dvs.length → ws.length = ks.length →
      ∃ k, bindArgs (PySem.W.fnOf x qual params body scope (.ref T) kV doc pm an cdv ct) ⟨us, ks.zip ws⟩ = seqItems? (.ref T) >>= k ∧ k (some its.toArray) = pure (ps.zip (g us its ws))) :
    ∃ its : List Value, KBn K fd ps n ks (fun us ws => g us its ws) (fun vs zs => g vs dvs zs) := by
  obtain ⟨oc, od, dV, kV, doc, pm, an, cdv, ct, osl, rfl, lk, hcd, hD, hK⟩ := F.ex
  rcases hD with ⟨e, _⟩ | ⟨_, T, o, its, m, rfl, lT, oT, rT⟩
  · exact absurd e hd
  · refine ⟨its, ⟨fun s us ws X l1 l2 => ?_, fun r1 r2 => hrel r1 rT r2⟩⟩
    obtain ⟨k, e1, e2⟩ := h T kV doc pm an cdv ct us its ws l1 rT.length.symm l2
    refine BindsTo.of_looks fun M => ?_
    rw [e1]
    exact looks_items X lT oT (.of_pure e2)
/-- a def without defaults, or with keyword-only ones that are all written -/
theorem FunD.kbK (F : FunD K x qual params body scope [] kws f fd) (n : Nat) (ks : List Str) (g : {α : Type} → List α → List α → List α)
    (hrel : ∀ {vs zs : List V} {us ws : List Value}, Vals vs us → Vals zs ws → Vals (g vs zs) (g us ws))
    (h : ∀ (kV doc pm : Value) (an : Option Addr) (cdv ct : Value) (us ws : List Value), us.length = n → ws.length = ks.length →
      bindArgs (PySem.W.fnOf x qual params body scope .none kV doc pm an cdv ct) ⟨us, ks.zip ws⟩ = pure (ps.zip (g us ws))) :
    KBn K fd ps n ks (fun us ws => g us ws) (fun vs zs => g vs zs) := by
  obtain ⟨oc, od, dV, kV, doc, pm, an, cdv, ct, osl, rfl, lk, hcd, hD, hK⟩ := F.ex
  rcases hD with ⟨_, rfl⟩ | ⟨e, _⟩
  · exact ⟨fun s us ws X l1 l2 => BindsTo.of_eq (h kV doc pm an cdv ct us ws l1 l2), fun r1 r2 => hrel r1 r2⟩
  · exact absurd rfl e
/-- .. keyword-only defaults, those of ms lack -/
theorem FunD.kbM (F : FunD K x qual params body scope [] kws f fd) (n : Nat) (ks : List Str) (ms : List (Str × V)) (g : {α : Type} → List α → List α → List α → List α) (hk : kws ≠ []) (hms : ∀ q ∈ ms, q ∈ kws)
    (hrel : ∀ {vs mz zs : List V} {us mv ws : List Value}, Vals vs us → Vals mz mv → Vals zs ws → Vals (g vs mz zs) (g us mv ws))
    (h : ∀ (D : Addr) (doc pm : Value) (an : Option Addr) (cdv ct : Value) (us mv ws : List Value), us.length = n → mv.length = ms.length → ws.length = ks.length →
      KwChain D ((ms.map (·.1)).zip mv) (bindArgs (PySem.W.fnOf x qual params body scope .none (.ref D) doc pm an cdv ct) ⟨us, ks.zip ws⟩) (ps.zip (g us mv ws))) :
    ∃ mv : List Value, KBn K fd ps n ks (fun us ws => g us mv ws) (fun vs zs => g vs (ms.map (·.2)) zs) := by
  obtain ⟨oc, od, dV, kV, doc, pm, an, cdv, ct, osl, rfl, lk, hcd, hD, hK⟩ := F.ex
  rcases hD with ⟨_, rfl⟩ | ⟨e, _⟩
  · rcases hK with e | ⟨D, rfl, hq⟩
    · exact absurd e hk
    · obtain ⟨mv, hl, rk, hks⟩ := kwd_vals (ms := ms) fun q hm => hq q (hms q hm)
      exact ⟨mv, ⟨fun s us ws X l1 l2 => BindsTo.of_looks fun M => KwChain.looks X hks (h D doc pm an cdv ct us mv ws l1 hl l2), fun r1 r2 => hrel r1 rk r2⟩⟩
  · exact absurd rfl e
end
section
variable {X : Cx} {CX : CXT} {k n : Nat} {f C : Addr} {fd : FuncData} {ps ks : List Str} {sp : Sp} {dvs : List V} {ds : List Value} {E : St → XK} {x m : Str} {p pos apos : Pos} {e o : Expr} {es : List Expr} {kws : List Keyword} {ta : TE} {t tk : TA} {g : List Value → List Value → List Value} {gV : List V → List V → List V}
theorem run_fnNS {pins : List (Addr × Obj)} {σ : St} {H : Hp} {s : Shared} {Q : VK} {us ws : List Value} {vs zs : List V} (F : FnOk X.prog X.w X.K X.mg X.base CX k f fd ps sp) (hr : Room k X.A) (hb : KBn X.K fd ps n ks g gV) (hx : PassesAt CX X σ (E σ))
    (I : Inv X pins σ H s) (r : Vals vs us) (rz : Vals zs ws) (l1 : vs.length = n) (l2 : zs.length = ks.length) (h : sp (gV vs zs) H Q (E σ)) : codeAny (model X.prog X.w) X.A (.call (.ref f) ⟨us, ks.zip ws⟩) (wants (EP X pins σ Q) X.xe) s := by
  refine codeAny_mono (F.run X.A X.stack s H ⟨us, ks.zip ws⟩ (g us ws) (gV vs zs) Q (E σ) hr I.env0 (hb.to s us ws I.kIn (r.length.symm.trans l1) (rz.length.symm.trans l2)) (hb.rel r rz) h) ?_
  intro res s' hq
  match res, hq with
  | .error e, hq => exact hx pins H s e s' I hq
  | .ok (.ret u), hq => exact I.after hq
  | .ok .next, hq => exact hq.elim
  | .ok .brk, hq => exact hq.elim
  | .ok .cont, hq => exact hq.elim
def tCallNS (n m : Nat) (sp : Sp) (gV : List V → List V → List V) (E : St → XK) (t tk : TA) : TE := fun σ H Q => t σ H fun vs H1 => tk σ H1 fun zs H2 => vs.length = n ∧ zs.length = m ∧ sp (gV vs zs) H2 Q (E σ)
/-- f(e, .., k = v, ..) -/
theorem pe_callNS (F : FnOk X.prog X.w X.K X.mg X.base CX k f fd ps sp) (hr : Room k X.A) (hg : Gl X x) (hm : X.mg x = some (.ref f)) (hk : PySem.W.keepIn X.K (.ref f) = true) (hb : KBn X.K fd ps n ks g gV) (hx : ∀ σ, PassesAt CX X σ (E σ))
    (ha : PA X (e :: es) t) (hkw : PK X kws tk) (hall : (backToKw pos (keywordEach kws X.env)).all (·.1.isSome) = true := by rfl) (hks : (backToKw pos (keywordEach kws X.env)).filterMap (·.1) = ks := by rfl)
    (hdb : (x == ("__debug__" : Str)) = false := by decide) (he : starEach (e :: es) X.env = (false, eval e X.env) :: starEach es X.env := by rfl)
    (hpl : ((backTo pos (starEach (e :: es) X.env)).any (·.1) || (backToKw pos (keywordEach kws X.env)).any (·.1.isNone)) = false := by rfl) :
    PE X (.Call (.Name x p) (e :: es) kws pos) (tCallNS n ks.length sp gV E t tk) := by
  refine ⟨fun pins s σ H Q I h => ?_⟩
  refine wpAny_Call_Name_kw (ld_glob I hg hm ?_ hdb)
  refine PySem.W.callWith_KW (h₀ := X.base) I.ok.mod.kin hk hall (thn (ha.run pos pins s σ H _ I h) fun us s1 ⟨vs, H1, I1, r, q⟩ => ?_) hpl he
  refine thn (hkw.run pos pins s1 σ H1 _ I1 q) fun ws s2 ⟨zs, H2, I2, rz, l1, l2, q2⟩ => ⟨I2.kIn, ?_⟩
  rw [hks]
  exact wpAny_call (run_fnNS F hr hb (hx σ) I2 r rz l1 l2 q2)
/-- an instance called, positional -/
structure CaC (K : PySem.W.Frag) (C g : Addr) : Prop where
  m : Meth K C "__call__" g
  fi : PySem.W.fnIn K g = true
def tCaO (C : Addr) (sp : Sp) (dvs : List V) (E : St → XK) (ta : TE) (t : TA) : TE := fun σ H Q => ta σ H fun y H1 => ∃ a, y = .ref a ∧ t σ H1 fun vs H2 => ∃ dx fs, H2 a = some (.ins C dx fs) ∧ sp (.ref a :: (vs ++ dvs)) H2 Q (E σ)
theorem caO_with {M : Model} {A : Around} {E' : Value → Shared → Prop} {s : Shared} {a : Addr} {Q : Value → Shared → Prop} {args : List (Bool × Sem Value)} {kw : List (Option Str × Sem Value)} (hpl : (args.any (·.1) || kw.any (·.1.isNone)) = false)
    (h : wpAny M A (evalArgs (.ref a) true args kw) (fun z s₁ => (∃ C ox od, PySem.W.InstAt s₁.heap a ox C od ∧ ox.data = .plain) ∧ wpAny M A (call (.ref a) z.pos z.kw) Q E' s₁) E' s) : wpAny M A (callWith pos (.ref a) [] args kw) Q E' s := by
  unfold callWith
  refine wpAny_bind (wpAny_holding (wpAny_mono h ?_ fun _ _ y => y))
  rintro z s₁ ⟨⟨C, ox, od, J, hd⟩, h₁⟩
  refine wpAny_bind (wpAny_standAt ?_)
  simp only [hpl]
  refine wpAny_bind ((PySem.W.kco_keeper (M := M) J hd).here ?_)
  refine wpAny_bind (wpAny_mono (wpAny_operateT h₁) ?_ fun _ _ y => y)
  intro r s₂ hr
  exact wpAny_bind (wpAny_holding (wpAny_point (wpAny_pure hr)))
theorem pe_caO {fe : Expr} (hf : PE X fe ta) (c : CaC X.K C f) (F : FnOk X.prog X.w X.K X.mg X.base CX k f fd ps sp) (hr : Room k X.A) (hb : Binds X.K fd ps ds) (hd : Vals dvs ds) (hx : ∀ σ, PassesAt CX X σ (E σ)) (ha : PA X (e :: es) t)
    (ht : eval (.Call fe (e :: es) [] pos) X.env = (do callWith pos (← eval fe X.env) [] (backTo pos (starEach (e :: es) X.env)) (backToKw pos (keywordEach [] X.env))) := by rfl)
    (he : starEach (e :: es) X.env = (false, eval e X.env) :: starEach es X.env := by rfl) (hpl : (backTo pos (starEach es X.env)).any (·.1) = false := by rfl) : PE X (.Call fe (e :: es) [] pos) (tCaO C sp dvs E ta t) := by
  refine ⟨fun pins s σ H Q I h => ?_⟩
  refine Call_ (thn (hf.run pins s σ H _ I h) ?_) ht
  rintro u s1 ⟨y, H1, I1, ry, a, rfl, q⟩
  cases ry
  have hpl2 : ((backTo pos (starEach (e :: es) X.env)).any (·.1) || (backToKw pos (keywordEach [] X.env)).any (·.1.isNone)) = false := by
    rw [he]
    show ((false || (backTo pos (starEach es X.env)).any (·.1)) || false) = false
    rw [hpl]
    rfl
  refine caO_with hpl2 ?_
  have run := ha.run pos pins s1 σ H1 _ I1 q
  rw [he] at run ⊢
  refine PySem.Calls.evalArgs_plain (thn run ?_)
  rintro us s2 ⟨vs, H2, I2, r, dx, fs, ea, q2⟩
  obtain ⟨od, J⟩ := I2.instAt ea
  refine ⟨⟨C, _, _, J, rfl⟩, ?_⟩
  refine wpAny_call (PySem.W.kco_code I2.kIn J rfl c.m.at_ c.m.fn c.fi ?_)
  have rr : Vals (.ref a :: (vs ++ dvs)) (Value.ref a :: us ++ ds) := .cons rfl (r.append hd)
  refine codeAny_mono (F.run X.A X.stack s2 H2 ⟨Value.ref a :: us, []⟩ _ _ Q (E σ) hr I2.env0 (hb s2 (Value.ref a :: us) I2.kIn (rr.length.symm.trans (F.len _ _ _ _ q2))) rr q2) ?_
  intro res s' hq
  match res, hq with
  | .error e, hq => exact hx σ pins H2 s2 e s' I2 hq
  | .ok (.ret u), hq => exact I2.after hq
  | .ok .next, hq => exact hq.elim
  | .ok .brk, hq => exact hq.elim
  | .ok .cont, hq => exact hq.elim
/-- an instance called, with keywords -/
def tCaK (C : Addr) (n m : Nat) (sp : Sp) (gV : List V → List V → List V) (E : St → XK) (ta : TE) (t tk : TA) : TE := fun σ H Q => ta σ H fun y H1 => ∃ a, y = .ref a ∧ t σ H1 fun vs H2 => tk σ H2 fun zs H3 => ∃ dx fs, H3 a = some (.ins C dx fs) ∧ vs.length = n ∧ zs.length = m ∧ sp (gV (.ref a :: vs) zs) H3 Q (E σ)
theorem pe_caK {fe : Expr} (hf : PE X fe ta) (c : CaC X.K C f) (F : FnOk X.prog X.w X.K X.mg X.base CX k f fd ps sp) (hr : Room k X.A) (hb : KBn X.K fd ps (n + 1) ks g gV) (hx : ∀ σ, PassesAt CX X σ (E σ)) (ha : PA X (e :: es) t) (hkw : PK X kws tk)
    (ht : eval (.Call fe (e :: es) kws pos) X.env = (do callWith pos (← eval fe X.env) [] (backTo pos (starEach (e :: es) X.env)) (backToKw pos (keywordEach kws X.env))) := by rfl)
    (hall : (backToKw pos (keywordEach kws X.env)).all (·.1.isSome) = true := by rfl) (hks : (backToKw pos (keywordEach kws X.env)).filterMap (·.1) = ks := by rfl)
    (he : starEach (e :: es) X.env = (false, eval e X.env) :: starEach es X.env := by rfl) (hpl : ((backTo pos (starEach (e :: es) X.env)).any (·.1) || (backToKw pos (keywordEach kws X.env)).any (·.1.isNone)) = false := by rfl) : PE X (.Call fe (e :: es) kws pos) (tCaK C n ks.length sp gV E ta t tk) := by
  refine ⟨fun pins s σ H Q I h => ?_⟩
  rw [ht]
  refine wpAny_bind (thn (hf.run pins s σ H _ I h) ?_)
  rintro u s1 ⟨y, H1, I1, ry, a, rfl, q⟩
  cases ry
  refine caO_with hpl ?_
  refine evalArgs_kw2 hall (thn (ha.run pos pins s1 σ H1 _ I1 q) ?_) he
  rintro us s2 ⟨vs, H2, I2, r, q2⟩
  refine thn (hkw.run pos pins s2 σ H2 _ I2 q2) ?_
  rintro ws s3 ⟨zs, H3, I3, rz, dx, fs, ea, l1, l2, q3⟩
  obtain ⟨od, J⟩ := I3.instAt ea
  refine ⟨⟨C, _, _, J, rfl⟩, ?_⟩
  rw [hks]
  refine wpAny_call (PySem.W.kco_code I3.kIn J rfl c.m.at_ c.m.fn c.fi ?_)
  exact run_fnNS (us := Value.ref a :: us) (vs := .ref a :: vs) F hr hb (hx σ) I3 (.cons rfl r) rz (by rw [List.length_cons, l1]) l2 q3
end
end L2

/-! a law's end where the defs' world of exceptions hangs on the program -/
namespace Rz
open PySem PySem.Spec PyProof.Rows L2
variable {l : PySem.W.OpenLaw} {n k : Nat} {q : Program} {loose : List Str} {XP : (Str → Option Value) → Heap → Prop} {YP : World → Heap → Prop} {d : DefRec} {x : Str}
/-- what the end asks of the head's facts -/
def Given (l : PySem.W.OpenLaw) (n k : Nat) (x : Str) (w : World) (mg : Str → Option Value) (fa : Addr) (h : Heap) : Prop :=
  ∃ (K : PySem.W.Frag) (fd : FuncData) (sp : Sp), K.In h ∧ (∀ (s : Shared) (u : Value), BindsTo s fd ⟨[u], []⟩ [(x, u)]) ∧
    (∀ (H : Hp) (a : Addr) (ns : List Int), ns.length ≤ n → SqL K H a (ns.map V.int) → sp [.ref a] H (fun v _ => v = .bl true) fun _ _ _ => False) ∧
    ∀ base : Heap, K.In base → base.Ns mainGlobals mg → FnOk l.prog w K mg base (L2.CX l.prog w) k fa fd [x] sp
theorem endX (hn : l.most = some n) (hn2 : n ≤ sizeLine) (hdf : d.params.defaults = []) (hr : Room k callerA)
    (F : ∀ (w : World) (mg : Str → Option Value) (fa : Addr) (h : Heap), YP w h → h.Ns mainGlobals mg → mg d.name = some (.ref fa) → Given l n k x w mg fa h) :
    PySem.W.WalkO q loose XP YP l.row.toRowW d [] (fun f vs => PySem.call f vs) := by
  refine Att.attach_call hn hdf ?_
  intro w s₀ s₁ mg mb fa o pm cd doc a vs ns G Y ho hd hcd hmg hobj hints hlen hg
  have T := G.T
  obtain ⟨K, fd, sp, KX, hb, hsp, hF⟩ := F w mg fa _ Y T.g hmg
  refine law_call KX T.g T.b T.builtins T.nolimit hg hobj hints (Nat.le_trans hlen hn2) hr hF hb ?_ ?_
  · exact fun H _ hS => hsp H a ns hlen hS
  · rintro H e s' ⟨_, _, _, _, _, _, _, _, _, _, _, _, z⟩
    exact z
/-- one function object stands at an address -/
theorem fd_one {K : PySem.W.Frag} {y qual y2 qual2 : Str} {ps ps2 : Arguments} {body body2 : List Stmt} {sc sc2 : Scope} {dv dv2 : List V} {kw kw2 : List (Str × V)} {f : Addr} {fd fd2 : FuncData}
    (a : FunD K y qual ps body sc dv kw f fd) (b : FunD K y2 qual2 ps2 body2 sc2 dv2 kw2 f fd2) : fd = fd2 := by
  obtain ⟨_, _, _, _, _, _, _, _, _, _, _, la, _⟩ := a.ex
  obtain ⟨_, _, _, _, _, _, _, _, _, _, _, lb, _⟩ := b.ex
  have e := Option.some.inj (la.symm.trans lb)
  cases e
  rfl
end Rz

/-! The top's run, looked at in parts: each part is a theorem of its own, so that the kernel's memory serves a larger top. -/
namespace Rz
open PySem PySem.Spec PySem.W PyProof.Rows L2 He HandSHeadRun
section
variable {r : OpenRow} {q : Program} {M n : Nat} {loose : List PySem.Str} {w : World} {fa fb : List (Fg → Bool)} {fn gn : List Dq}
/-- the state behind the top -/
noncomputable abbrev endS (r : OpenRow) (M : Nat) (w : World) (os : OsState) : Option SharedT := endF (stepQ (denQ tabQ) r.prog w) M r.prog w os
def LkEq (r : OpenRow) (M : Nat) (w : World) : Prop := ∀ os : OsState, (endS r M w os).map (fun s => looksF r.prog (boot_heap w.params) s.abs) = some true
def SnEq (r : OpenRow) (q : Program) (M : Nat) (loose : List PySem.Str) (w : World) : Prop := ∀ os : OsState, (endS r M w os).map (fun s => seenQ q loose (importedModules r.prog.main.body) (fun s => xlAt q [] s && recOk r.toRowW.records s) s.abs) = some (openGood q loose)
def ObEq (r : OpenRow) (M n : Nat) (fa : List (Fg → Bool)) (fn : List Dq) (w : World) : Prop := ∀ os : OsState, (endS r M w os).map (fun s => obsRG n fa fn (getT s)) = some (valR fn)
theorem obsR_app {K : Fg} (h1 : obsR fa fn K = valR fn) (h2 : obsR fb gn K = valR gn) : obsR (fa ++ fb) (fn ++ gn) K = valR (fn ++ gn) := by
  have a1 := ba (show ((fa.all fun f => f K) && fn.all fun d => d.ok K) = true from congrArg Prod.fst h1)
  have a2 := ba (show ((fb.all fun f => f K) && gn.all fun d => d.ok K) = true from congrArg Prod.fst h2)
  have b1 : fn.map (fun d => fnQ K (d.at_ K)) = fn.map Dq.val := congrArg Prod.snd h1
  have b2 : gn.map (fun d => fnQ K (d.at_ K)) = gn.map Dq.val := congrArg Prod.snd h2
  unfold obsR valR
  rw [List.all_append, List.all_append, a1.1, a1.2, a2.1, a2.2, List.map_append, List.map_append, b1, b2]
  rfl
theorem some_of {α β : Type} {o : Option α} {f : α → β} {b : β} (h : o.map f = some b) : ∃ s, o = some s ∧ f s = b := Option.map_eq_some_iff.mp h
theorem ObEq.app (a : ObEq r M n fa fn w) (b : ObEq r M n fb gn w) : ObEq r M n (fa ++ fb) (fn ++ gn) w := fun os => by
  obtain ⟨s, e, h⟩ := some_of (a os)
  obtain ⟨s2, e2, h2⟩ := some_of (b os)
  rw [e] at e2
  cases e2
  rw [e]
  exact congrArg some (obsR_app h h2)
theorem run_all (l : LkEq r M w) (c : SnEq r q M loose w) (o : ObEq r M n fa fn w) : RunEq r q (hookR n fa fn) (fun s => obsRG n fa fn (getT s)) M loose w := fun os => by
  obtain ⟨s, e, h⟩ := some_of (l os)
  obtain ⟨s2, e2, h2⟩ := some_of (c os)
  obtain ⟨s3, e3, h3⟩ := some_of (o os)
  rw [e] at e2 e3
  cases e2
  cases e3
  show (endS r M w os).map _ = _
  rw [e]
  exact congrArg some (Prod.ext h (Prod.ext h2 h3))
end
end Rz

/-! Defs with a star parameter, classmethods, calls with a starred list. -/
namespace L2
open PySem PySem.Spec PyProof.Rows StX ClX
/-- a def with n parameters and a star parameter behind them, called by positional values -/
def spStar (n : Nat) (sp : Sp) : Sp := fun vs H Q E => ∃ ws rest, vs = ws ++ rest ∧ ws.length = n ∧ rest.length ≤ sizeLine ∧ ∀ p, H p = none → sp (ws ++ [.ref p]) (upd H p (.tup rest)) Q E
section
variable {P : Program} {w : World} {mg : Str → Option Value} {base : Heap} {K : PySem.W.Frag} {x qual : Str} {params : Arguments} {body : List Stmt} {scope : Scope} {f : Addr} {fd : FuncData} {ps : List Str}
theorem FunD.okStar {CX : CXT} {N : List Str} {pv : Str} {k : Nat} {sp : Sp} (F : FunD K x qual params body scope [] [] f fd) (S : FnScope N (ps ++ [pv]) scope) (hCX : CXUp CX)
    (hb : ∀ (kV doc pm : Value) (an : Option Addr) (cdv ct : Value) (us rest : List Value), us.length = ps.length → bindArgs (PySem.W.fnOf x qual params body scope .none kV doc pm an cdv ct) ⟨us ++ rest, []⟩ = (newTuple rest >>= fun t => pure (ps.zip us ++ [(pv, t)])))
    (hbody : ∀ (cdv : Value) (A : Around) (outer : List Env) (s : Shared) (H : Hp) (vs : List V) (Q : VK) (E : XK), Room k (A.deeper (envOfC qual scope s.heap.objs.size f cdv)) → sp vs H Q E →
      ∃ t, PSs (cxOf CX P w K mg base N qual scope f cdv A outer s H E) body t ∧ t { nx := fun _ H' => Q .non H', rt := Q } (start N vs) H) : FnR P w K mg base CX (k + 1) f (spStar ps.length sp) := by
  obtain ⟨oc, od, dV, kV, doc, pm, an, cdv, ct, osl, rfl, lk, hcd, hD, _⟩ := F.ex
  rcases hD with ⟨_, rfl⟩ | ⟨e, _⟩
  · exact fn_star lk hcd S hCX (hb kV doc pm an cdv ct) fun A outer s H vs Q E hr hsp => hbody cdv A outer s H vs Q E hr hsp
  · exact absurd rfl e
end
section
variable {X : Cx} {CX : CXT} {k : Nat} {f C g p : Addr} {mc : Value} {sp : Sp} {E : St → XK} {x m : Str} {np pos apos sp_ : Pos} {e o fe : Expr} {es : List Expr} {ta te : TE} {t : TA}
theorem run_fnRS {pins : List (Addr × Obj)} {σ : St} {H : Hp} {s : Shared} {Q : VK} {us : List Value} {vs : List V} (F : FnR X.prog X.w X.K X.mg X.base CX k f sp) (hr : Room k X.A) (hx : PassesAt CX X σ (E σ)) (I : Inv X pins σ H s) (r : Vals vs us) (h : sp vs H Q (E σ)) :
    codeAny (model X.prog X.w) X.A (.call (.ref f) ⟨us, []⟩) (fun r s' => match r with | .ok (.ret v) => EP X pins σ Q v s' | .ok _ => False | .error e => X.xe e s') s := by
  refine codeAny_mono (F X.A X.stack s H us vs Q (E σ) hr I.env0 r h) fun r s' hq => ?_
  match r, hq with
  | .error e, hq => exact hx pins H s e s' I hq
  | .ok (.ret u), hq => exact I.after hq
  | .ok .next, hq => exact hq.elim
  | .ok .brk, hq => exact hq.elim
  | .ok .cont, hq => exact hq.elim
theorem run_makeRS {pins : List (Addr × Obj)} {σ : St} {H : Hp} {s : Shared} {Q : VK} {us : List Value} {vs : List V} (M : Mk X.K C f) (F : FnR X.prog X.w X.K X.mg X.base CX k f sp) (hr : Room (k + 1) X.A) (hx : PassesAt CX X σ (E σ)) (I : Inv X pins σ H s) (r : Vals vs us)
    (h : ∀ y dx, H y = none → H dx = none → dx ≠ y → sp (.ref y :: (vs ++ [])) (upd (upd H dx (.own y)) y (.ins C dx [])) (fun v H2 => v = .non ∧ Q (.ref y) H2) (E σ)) :
    wpAny (model X.prog X.w) X.A (call (.ref C) us) (EP X pins σ Q) X.xe s := by
  have hq := h (s.heap.objs.size + 1) s.heap.objs.size (I.hok.fresh (Nat.le_succ _)) (I.hok.fresh (Nat.le_refl _)) (Nat.ne_of_lt (Nat.lt_succ_self _))
  rw [List.append_nil] at hq
  have I2 := Inv.made (C := C) I
  have r2 : Vals (V.ref (s.heap.objs.size + 1) :: vs) (Value.ref (s.heap.objs.size + 1) :: us) := .cons rfl r
  refine wpAny_call (make_map (f := f) I.kIn M.makes M.init (beq_iff_eq.mp M.fn) (codeAny_mono (F _ X.stack _ _ (Value.ref (s.heap.objs.size + 1) :: us) _ _ (E σ) (hr.make C us []) (I2.env0.make C us []) r2 hq) fun r s' hq' => ?_))
  match r, hq' with
  | .error e, hq' => exact hx pins _ _ e s' I2 hq'
  | .ok (.ret u), hq' =>
    obtain ⟨v, H', I3, rv, ev, q3⟩ := I2.after hq'
    subst ev
    exact ⟨rv, ⟨V.ref (s.heap.objs.size + 1), H', I3, rfl, q3⟩⟩
  | .ok .next, hq' => exact hq'.elim
  | .ok .brk, hq' => exact hq'.elim
  | .ok .cont, hq' => exact hq'.elim
/-- C(e, ..), __init__ with a star parameter -/
theorem pe_makeRS (M : Mk X.K C f) (F : FnR X.prog X.w X.K X.mg X.base CX k f sp) (hr : Room (k + 1) X.A) (hg : Gl X x) (hm : X.mg x = some (.ref C)) (hx : ∀ σ, PassesAt CX X σ (E σ))
    (ha : PA X (e :: es) t) (hdb : (x == ("__debug__" : Str)) = false := by decide) (he : starEach (e :: es) X.env = (false, eval e X.env) :: starEach es X.env := by rfl) (hpl : (backTo pos (starEach es X.env)).any (·.1) = false := by rfl) :
    PE X (.Call (.Name x np) (e :: es) [] pos) (tMakeS C sp [] E t) := by
  constructor
  intro pins s σ H Q I h
  refine wpAny_Call_Name_kw (ld_glob I hg hm (PySem.W.callWith_K (h₀ := X.base) I.ok.mod.kin M.kp (thn (ha.run pos pins s σ H _ I h) ?_) he hpl) hdb)
  rintro us s1 ⟨vs, H1, I1, r, q⟩
  exact ⟨I1.kIn, run_makeRS M F hr (hx σ) I1 r q⟩
theorem pe_make0RS (M : Mk X.K C f) (F : FnR X.prog X.w X.K X.mg X.base CX k f sp) (hr : Room (k + 1) X.A) (hg : Gl X x) (hm : X.mg x = some (.ref C)) (hx : ∀ σ, PassesAt CX X σ (E σ))
    (hdb : (x == ("__debug__" : Str)) = false := by decide) : PE X (.Call (.Name x np) [] [] pos) (tMakeS C sp [] E tNil) :=
  ⟨fun _ _ σ _ _ I h => wpAny_Call_Name_kw (ld_glob I hg hm (PySem.W.callWith_K0 I.kIn M.kp (run_makeRS (us := []) M F hr (hx σ) I .nil h)) hdb)⟩
/-- cls(*xs), cls a variable that holds the class at C -/
def tMakeSt (K : PySem.W.Frag) (C : Addr) (sp : Sp) (E : St → XK) (ta te : TE) : TE := fun σ H Q => ta σ H fun y H1 => y = .ref C ∧ te σ H1 fun z H2 => ∃ a xs, z = .ref a ∧ (SqT K H2 a xs ∨ SqL K H2 a xs) ∧ tMakeS C sp [] E (fun _ H' Q' => Q' xs H') σ H2 Q
theorem pe_makeSt (hf : PE X fe ta) (M : Mk X.K C f) (F : FnR X.prog X.w X.K X.mg X.base CX k f sp) (hr : Room (k + 1) X.A) (hx : ∀ σ, PassesAt CX X σ (E σ)) (he : PE X e te)
    (ht : eval (.Call fe [.Starred e sp_] [] pos) X.env = (do callWith pos (← eval fe X.env) [] (backTo pos (starEach [.Starred e sp_] X.env)) (backToKw pos (keywordEach [] X.env))) := by rfl)
    (hst : starEach [.Starred e sp_] X.env = [(true, eval e X.env)] := by rfl) : PE X (.Call fe [.Starred e sp_] [] pos) (tMakeSt X.K C sp E ta te) := by
  refine ⟨fun pins s σ H Q I h => ?_⟩
  refine Call_ (thn (hf.run pins s σ H _ I h) ?_) ht
  rintro u s1 ⟨y, H1, I1, ry, rfl, q⟩
  cases ry
  refine PySem.W.callWith_S (h₀ := X.base) I1.ok.mod.kin M.kp (thn (he.run pins s1 σ H1 _ I1 q) ?_) hst
  rintro v s2 ⟨z, H2, I2, rz, a, xs, rfl, hxs, q2⟩
  cases rz
  exact star_any I2 hxs fun us s3 I3 rv => ⟨I3.kIn, run_makeRS M F hr (hx σ) I3 rv q2⟩
/-- C.m(e, ..), m a classmethod -/
def tCMS (C : Addr) (sp : Sp) (E : St → XK) (ta : TE) (t : TA) : TE := fun σ H Q => ta σ H fun x H1 => x = .ref C ∧ t σ H1 fun vs H2 => sp (.ref C :: vs) H2 Q (E σ)
theorem run_cmS {pins : List (Addr × Obj)} {σ : St} {H : Hp} {s : Shared} {q : Addr} {Q : VK} {us : List Value} {vs : List V} (F : FnR X.prog X.w X.K X.mg X.base CX k g sp) (hr : Room k X.A) (hx : PassesAt CX X σ (E σ)) (I : Inv X ((q, PySem.W.methodObj (.ref g) (.ref C)) :: pins) σ H s)
    (r : Vals vs us) (h : sp (.ref C :: vs) H Q (E σ)) : wpAny (model X.prog X.w) X.A (call (.ref q) us) (EP X pins σ Q) X.xe s := by
  have z : wpAny (model X.prog X.w) X.A (call (.ref q) us) (EP X ((q, PySem.W.methodObj (.ref g) (.ref C)) :: pins) σ Q) X.xe s :=
    wpAny_call (PySem.W.method_call (ClX.pin_at I) (run_fnRS (us := .ref C :: us) (vs := .ref C :: vs) F hr hx I (.cons rfl r) h))
  exact thn z fun _ _ y => ClX.unpinE y
theorem _root_.L2.FnOk.rawN {P : Program} {w : World} {K : PySem.W.Frag} {mg : Str → Option Value} {base : Heap} {fd : FuncData} {ps : List Str} (F : FnOk P w K mg base CX k f fd ps sp) (hb : Binds K fd ps []) : FnR P w K mg base CX k f sp :=
  (F.raw hb .nil).imp fun vs H Q E h => by rw [List.append_nil]; exact h
/-- what of the text a class and a classmethod of it must have -/
def CmC (K : PySem.W.Frag) (C : Addr) (m : Str) (p g : Addr) : Prop := ∃ mc, ClX.CRead K C mc ∧ ClX.CMet K C mc m p g
theorem pe_cmS {pl : Sem Bool} (he : PE X o ta) (c : CmC X.K C m p g) (F : FnR X.prog X.w X.K X.mg X.base CX k g sp) (hr : Room k X.A) (hx : ∀ σ, PassesAt CX X σ (E σ)) (ha : PA X (e :: es) t)
    (hst : starEach (e :: es) X.env = (false, eval e X.env) :: starEach es X.env := by rfl) (hpl : (backTo pos (starEach es X.env)).any (·.1) = false := by rfl)
    (ht : eval (.Call (.Attribute o m apos) (e :: es) [] pos) X.env = (do
      let ov ← eval o X.env
      standAt apos.atName
      let (f, first) ← holding [ov] (getMethod ov m pl)
      callWith pos f first (backTo pos (starEach (e :: es) X.env)) (backToKw pos (keywordEach [] X.env))) := by rfl) :
    PE X (.Call (.Attribute o m apos) (e :: es) [] pos) (tCMS C sp E ta t) := by
  obtain ⟨mc, r, c⟩ := c
  refine ⟨fun pins s σ H Q I h => ?_⟩
  refine PySem.W.methodCall_KW (pl := pl) (thn (he.run pins s σ H _ I h) fun u s1 ⟨x, H1, I1, rx, ex, q⟩ => ?_) ht
  subst ex
  obtain rfl : u = Value.ref C := rx
  refine ClX.getmethcm_ok I1 r c fun s2 I2 => ?_
  refine ClX.callwith_cm I2 (base_none I1 (Nat.le_refl _)) c.fi (thn (ha.run pos _ s2 σ H1 _ I2 q) fun us s3 ⟨vs, H2, I3, rv, q2⟩ => ⟨⟨ClX.pin_at I3, I3.kIn⟩, ?_⟩) hst hpl
  exact run_cmS F hr (hx σ) I3 rv q2
end
end L2
namespace Rz
open PySem PySem.Spec PyProof.Rows L2 He
def cmB (C m : Str) : Fg → Bool := fun K => PySem.W.readsIn K (ga K C) (.type "type") && (eqO (PySem.W.specialIn K (.ref (ga K C)) "__getattribute__") (some (some (.builtin "type.__getattribute__"))) &&
  ((match PySem.W.findCls K (.ref (ga K C)) (.type "type") m with
    | some (.get a b c d) => decide (a = .builtin "classmethod.__get__") && (decide (b = .ref (recAt C m K)) && (decide (c = .none) && decide (d = .ref (ga K C))))
    | _ => false) && (firstB "classmethod" (recAt C m K) K && PySem.W.fnIn K (pC C m K))))
theorem cmB_ok {C m : Str} {K : Fg} (h : cmB C m K = true) : CmC K (ga K C) m (recAt C m K) (pC C m K) := by
  obtain ⟨h1, h⟩ := ba h
  obtain ⟨h2, h⟩ := ba h
  obtain ⟨h3, h⟩ := ba h
  obtain ⟨h4, h5⟩ := ba h
  refine ⟨.type "type", ⟨h1, eqO_ok h2⟩, ⟨?_, firstB_ok h4, h5⟩⟩
  cases e : PySem.W.findCls K (.ref (ga K C)) (.type "type") m with
  | none => rw [e] at h3; cases h3
  | some r =>
    rw [e] at h3
    cases r with
    | get a b c d =>
      obtain ⟨a1, h3⟩ := ba h3
      obtain ⟨a2, h3⟩ := ba h3
      obtain ⟨a3, a4⟩ := ba h3
      rw [of_decide_eq_true a1, of_decide_eq_true a2, of_decide_eq_true a3, of_decide_eq_true a4]
    | _ => cases h3
end Rz

/-! split; x op= y by an own method that may raise; a walk over an instance whose __iter__ gives a list's iterator. -/
namespace L2
open PySem PySem.Spec PyProof.Rows
/-- a statement that is never reached -/
def tDeadS : TS := fun _ _ _ => False
theorem ps_deadS {X : Cx} {st : Stmt} : PS X st tDeadS := ⟨fun _ _ _ _ _ _ h => False.elim h⟩
/-- x.split(sep) -/
def rSplitS : V → List V → Hp → VK → Prop := fun x xs H Q => ∃ a b, x = .str a ∧ xs = [.str b] ∧ (b.length == 0) = false ∧ a.length + 2 ≤ sizeLine ∧ rNewStrs (Txt.split a b) H Q
def tSplit (to te : TE) : TE := tM1 rSplitS to te
theorem pe_splitS {X : Cx} {o e : Expr} {to te : TE} {apos pos : Pos} (ho : PE X o to) (he : PE X e te) (hs : starEach [e] X.env = [(false, eval e X.env)] := by rfl)
    (hbase : attributeBase o "split" X.env (eval o X.env) = eval o X.env := by rfl) (hline : (apos.endLine == pos.line) = true := by rfl) : PE X (.Call (.Attribute o "split" apos) [e] [] pos) (tSplit to te) :=
  pe_m1 PySem.F.slot_str_split PySem.F.type_str_split mt_split ho he hs hbase hline
section
variable {X : Cx} {CX : CXT} {k : Nat} {f C : Addr} {fd : FuncData} {ps : List Str} {sp : Sp}
/-- x op= e, x a variable that holds an instance with its own method -/
def tAugO (i : Nat) (te : TE) (C : Addr) (sp : Sp) (E : St → XK) : TS := fun D σ H => ∃ x, σ[i]? = some (some x) ∧ te σ H fun y H1 => rIpO C sp (E σ) x y H1 fun z H2 => D.nx (σ.set i (some z)) H2
theorem ps_augO {i : Nat} {x : Str} {e : Expr} {te : TE} {op : Operator} {E : St → XK} {pos' pos : Pos} (hN : X.N.Nodup) (hi : X.N[i]? = some x) (hx : Loc X.env.scope x) (he : PE X e te)
    (m : Meth X.K C (PySem.dunderI op.info.2) f) (c : OpC X.K C) (F : FnOk X.prog X.w X.K X.mg X.base CX k f fd ps sp) (hr : Room k X.A) (hb : Binds X.K fd ps []) (hE : ∀ σ, PassesAt CX X σ (E σ))
    (hf : X.fn x = true ∨ X.env.scope.names.lookup x = some .local := by first | exact .inl rfl | exact .inr rfl | assumption) :
    PS X (.AugAssign (.Name x pos') op e pos) (tAugO i te C sp E) := by
  refine ⟨fun pins s σ H D I h => ?_⟩
  obtain ⟨v, e1, h⟩ := h
  obtain ⟨m0, hn, hl⟩ := I.loc
  have vis : Vis X.env.scope x := by rcases hx with k | k; exact .inl k; exact .inr (.inl k)
  obtain ⟨u, r, l⟩ := hl i x v hi e1 vis
  refine wpAny_AugAssign_Name ?_
  have go : wpAny (model X.prog X.w) X.A (eval e X.env) (fun w s₂ => wpAny (model X.prog X.w) X.A (inplaceOp op u w) (fun r s₃ => wpAny (model X.prog X.w) X.A (storeName X.env x r) (fun _ => SP X pins D .next) X.xe s₃) X.xe s₂) X.xe s := by
    refine thn (he.run pins s σ H _ I h) fun w s1 ⟨y, H1, I1, r1, q1⟩ => ?_
    have key : wpAny (model X.prog X.w) X.A (inplaceOp op u w) (EP X pins σ (fun z H2 => D.nx (σ.set i (some z)) H2)) X.xe s1 := by
      obtain ⟨a, dx, fs, rfl, ea, q⟩ := q1
      cases r
      obtain ⟨od, J⟩ := I1.instAt ea
      obtain ⟨m1, hF⟩ := I1.fr
      exact PySem.W.ksp_inplace hF I1.ok.mod.kin J c.first m.at_ m.fn (thn (run_two F hr rfl hb (hE σ) I1 r1 q) fun _ _ z => z.back)
    refine thn key fun z s2 ⟨zv, H2, I2, r2, q2⟩ => ?_
    exact store_ok I2 hN hi hx r2 (fun s3 I3 => ⟨_, H2, I3, q2⟩) hf
  rcases l with ⟨hk, hm⟩ | ⟨hk, c, hc, hcell⟩
  · exact wpAny_loadName_local I.ok.kind hk hn hm go
  · rcases hk with hk | hk
    · exact wpAny_loadName_cell I.ok.kind hk hc hcell go
    · rcases hx with k | k
      · have : X.env.scope.names.lookup x = some .free := hk
        rw [k] at this; cases this
      · have : X.env.scope.names.lookup x = some .free := hk
        rw [k] at this; cases this
def ipMul : TIp := fun x y H Q => ∃ i j, x = .int i ∧ y = .int j ∧ CMul i j ∧ Q (.int (i * j)) H
theorem ip_mul : PIp X .Mult ipMul := by
  intro pins s σ H x y v u Q I r1 r2 h
  obtain ⟨i, j, e1, e2, hc, q⟩ := h
  subst e1; subst e2
  obtain ⟨t, rfl⟩ := r1
  obtain ⟨t', rfl⟩ := r2
  exact imul_int ⟨.int _, H, I.tok _, ⟨_, rfl⟩, q⟩ hc.ok
def rSumA (K : PySem.W.Frag) : List V → Hp → VK → Prop := rSum K
theorem c_sum (hc : X.calm = true) : CallR X (.builtin "sum") (rSumA X.K) := cr_sum hc
/-! ### an object that is no longer spoken of -/
def dropH (H : Hp) (it : Addr) : Hp := fun b => if b = it then none else H b
theorem dropH_at {H : Hp} {it : Addr} : dropH H it it = none := if_pos rfl
theorem dropH_ne {H : Hp} {it b : Addr} (h : b ≠ it) : dropH H it b = H b := if_neg h
theorem dropH_none {H : Hp} {it b : Addr} (h : H b = none) : dropH H it b = none := by unfold dropH; split <;> trivial
theorem dropH_upd {H : Hp} {it : Addr} {o : HO} (h : H it = none) : dropH (upd H it o) it = H := by
  funext b
  unfold dropH
  by_cases e : b = it
  · rw [if_pos e, e, h]
  · rw [if_neg e, upd_ne e]
theorem dropH_some {H : Hp} {it b : Addr} {o : HO} {φ : Heap → Prop} (ei : H it = some (.ext φ)) (e : H b = some o) (n : ∀ ψ, o ≠ .ext ψ) : dropH H it b = some o := by
  rw [dropH_ne (fun z => by rw [z, ei] at e; exact n φ (Option.some.inj e).symm)]
  exact e
theorem objOk_drop {P : Program} {w : World} {H : Hp} {h : Heap} {it b : Addr} {φ : Heap → Prop} (ei : H it = some (.ext φ)) : ∀ o : HO, ObjOk P w H h b o → ObjOk P w (dropH H it) h b o
  | .lst _, x => x
  | .tup _, x => x
  | .dK _, x => x
  | .dT _, ⟨a, c, xs, p, r⟩ => ⟨a, c, xs, Paired.mono (fun _ _ ⟨h1, h2, h3⟩ => ⟨h1, dropH_some ei h2 (fun _ z => nomatch z), h3⟩) p, r⟩
  | .set _ _, x => x
  | .ins _ _ _, ⟨a, r⟩ => ⟨dropH_some ei a (fun _ z => nomatch z), r⟩
  | .own _, x => x
  | .xd _, x => x
  | .met _ _, x => x
  | .rng _ _, x => x
  | .frz _ u, ⟨a, r⟩ => ⟨a, objOk_drop ei u r⟩
  | .tbl _, x => x
  | .ext _, x => x
variable {pins : List (Addr × Obj)} {σ : St} {H : Hp} {s : Shared}
theorem Inv.dropped {it : Addr} {φ : Heap → Prop} (I : Inv X pins σ H s) (ei : H it = some (.ext φ)) : Inv X pins σ (dropH H it) s where
  ok := I.ok
  os := I.os
  bare := I.bare
  base := ⟨I.base.keep, I.base.slot, fun b o q n hx => dropH_none (I.base.free b o q n hx), I.base.there, fun b xs q => dropH_some ei (I.base.tups b xs q) (fun _ z => nomatch z), fun b o u q => dropH_some ei (I.base.frzs b o u q) (fun _ z => nomatch z),
    fun b ps q => let ⟨m, e⟩ := I.base.tbls b ps q; ⟨m, dropH_some ei e (fun _ z => nomatch z)⟩⟩
  loc := I.loc
  cell := I.cell
  free := dropH_none I.free
  freeC := fun x c e => dropH_none (I.freeC x c e)
  pin := fun p hp => let ⟨a, b, c⟩ := I.pin p hp; ⟨a, dropH_none b, c⟩
  hok := fun b o e => by
    by_cases z : b = it
    · rw [z, dropH_at] at e; cases e
    · rw [dropH_ne z] at e
      exact objOk_drop ei o (I.hok b o e)
  len := I.len
/-- a def of one argument runs within a built-in; what it puts where nothing was known is new -/
theorem run_oneN {A' : Around} {a : Addr} {Q : VK} {E : XK} (F : FnOk X.prog X.w X.K X.mg X.base CX k f fd ps sp) (hr : Room k A') (hfr : A'.frames = X.A.frames) (hb : Binds X.K fd ps []) (hx : PassesAt CX X σ E) (I : Inv X pins σ H s) (h : sp [.ref a] H Q E) :
    wpAny (model X.prog X.w) A' (call (.ref f) [.ref a]) (EP X pins σ fun v H' => (∀ b, H b = none → H' b ≠ none → s.heap.get? b = none) ∧ Q v H') X.xe s := by
  have e0 := I.env0
  have e1 : Env0 X.prog X.w X.K X.mg X.base A' X.stack s H := ⟨hfr.trans e0.frames, e0.mod, e0.bs, e0.bsz, e0.funs, e0.frf, e0.hok, e0.bare⟩
  have rr : Vals [V.ref a] [Value.ref a] := .cons rfl .nil
  refine wpAny_call (codeAny_mono (F.run A' X.stack s H ⟨[.ref a], []⟩ [.ref a] [.ref a] Q E hr e1 (by simpa using hb s [.ref a] I.kIn (by have := F.len _ _ _ _ h; simpa using this)) rr h) ?_)
  intro res s' hq
  match res, hq with
  | .error e, hq => exact hx pins H s e s' I hq
  | .ok (.ret u), hq =>
    obtain ⟨v, H', os, bare, un, hok, r, q⟩ := hq
    refine I.after ⟨v, H', os, bare, un, hok, r, fun b n1 n2 => ?_, q⟩
    cases e : s.heap.get? b with
    | none => rfl
    | some o => exact absurd (un.free b o e n1 (by simp)) n2
  | .ok .next, hq => exact hq.elim
  | .ok .brk, hq => exact hq.elim
  | .ok .cont, hq => exact hq.elim
end
/-! ### the addresses that were freed when the frame began -/
def freed (h : Heap) : List Addr := (List.range h.objs.size).filter fun b => (h.get? b).isNone
theorem mem_freed {h : Heap} {b : Addr} : b ∈ freed h ↔ b < h.objs.size ∧ h.get? b = none := by
  unfold freed
  rw [List.mem_filter, List.mem_range, Option.isNone_iff_eq_none]
def Cx.yg (X : Cx) : Cx := { X with ex := X.ex ++ freed X.s_0.heap }
section
variable {X : Cx} {CX : CXT} {k : Nat} {f C : Addr} {fd : FuncData} {ps : List Str} {sp : Sp} {pins : List (Addr × Obj)} {σ : St} {H : Hp} {s : Shared}
theorem Cx.Ok.yg (ok : X.Ok) (hc : X.env.cells = []) : X.yg.Ok where
  mod := ok.mod
  kind := ok.kind
  glob := ok.glob
  blt := ok.blt
  above := ok.above
  inj := ok.inj
  has := ok.has
  cab := ok.cab
  hd := ok.hd
  frames := ok.frames
  stk := ok.stk
  exf := fun b hb => by
    refine ⟨fun z => ?_, fun x c e => ?_⟩
    · rcases List.mem_append.mp hb with h | h
      · exact (ok.exf b h).1 z
      · have h1 := (mem_freed.mp h).1
        have h2 : X.s_0.heap.objs.size ≤ X.env.locals := ok.above
        have h3 : b = X.env.locals := z
        rw [h3] at h1
        exact absurd h1 (Nat.not_lt.mpr h2)
    · have e' : X.env.cells.lookup x = some c := e
      rw [hc] at e'
      cases e'
  bs := ok.bs
  bsz := ok.bsz
  noex := fun b o e hb => by
    rcases List.mem_append.mp hb with h | h
    · exact ok.noex b o e h
    · have h1 := (ok.bs b o e).1
      rw [(mem_freed.mp h).2] at h1
      cases h1
  exfs := fun b hb hf => by
    rcases List.mem_append.mp hb with h | h
    · exact ok.exfs b h hf
    · obtain ⟨_, o, h1, _⟩ := ok.funs.mem hf
      rw [(mem_freed.mp h).2] at h1
      cases h1
  funs := ok.funs
  frf := ok.frf
theorem Inv.yg (hc : X.env.cells = []) (I : Inv X pins σ H s) : Inv X.yg pins σ H s where
  ok := I.ok.yg hc
  os := I.os
  bare := I.bare
  base := ⟨fun b o q n h1 h2 => I.base.keep b o q n h1 (fun z => h2 (List.mem_append_left _ z)), fun b o q n h1 h2 => I.base.slot b o q n h1 (fun z => h2 (List.mem_append_left _ z)), fun b o q n h => I.base.free b o q n (fun z => h (List.mem_append_left _ z)),
    fun b o q h => I.base.there b o q (fun z => h (List.mem_append_left _ z)), I.base.tups, I.base.frzs, I.base.tbls⟩
  loc := I.loc
  cell := I.cell
  free := I.free
  freeC := I.freeC
  pin := I.pin
  hok := I.hok
  len := I.len
theorem not_yg {b : Addr} {o : Obj} (q : X.s_0.heap.get? b = some o) (h : b ∉ X.ex) : b ∉ X.yg.ex := fun z => by
  rcases List.mem_append.mp z with z | z
  · exact h z
  · rw [(mem_freed.mp z).2] at q
    cases q
theorem Inv.unyg (ok : X.Ok) (I : Inv X.yg pins σ H s) : Inv X pins σ H s where
  ok := ok
  os := I.os
  bare := I.bare
  base := ⟨fun b o q n h1 h2 => I.base.keep b o q n h1 (not_yg q h2), fun b o q n h1 h2 => I.base.slot b o q n h1 (not_yg q h2), fun b o q n h => I.base.free b o q n (not_yg q h), fun b o q h => I.base.there b o q (not_yg q h), I.base.tups, I.base.frzs, I.base.tbls⟩
  loc := I.loc
  cell := I.cell
  free := I.free
  freeC := I.freeC
  pin := I.pin
  hok := I.hok
  len := I.len
theorem EP.unyg (ok : X.Ok) {Q : VK} {u : Value} (z : EP X.yg pins σ Q u s) : EP X pins σ Q u s := let ⟨v, H', I, r, q⟩ := z; ⟨v, H', I.unyg ok, r, q⟩
theorem PE.young {e : Expr} {te : TE} (hc : X.env.cells = []) (h : PE X.yg e te) : PE X e te := ⟨fun pins s σ H Q I q => thn (h.run pins s σ H Q (I.yg hc) q) fun _ _ z => z.unyg I.ok⟩
theorem SP.unyg (ok : X.Ok) {D : Ends} {fl : Flow} (z : SP X.yg pins D fl s) : SP X pins D fl s := by
  cases fl with
  | next => obtain ⟨σ', H', J, q⟩ := z; exact ⟨σ', H', J.unyg ok, q⟩
  | brk => obtain ⟨σ', H', J, q⟩ := z; exact ⟨σ', H', J.unyg ok, q⟩
  | cont => obtain ⟨σ', H', J, q⟩ := z; exact ⟨σ', H', J.unyg ok, q⟩
  | ret u => obtain ⟨v, σ', H', J, r, q⟩ := z; exact ⟨v, σ', H', J.unyg ok, r, q⟩
theorem PS.young {st : Stmt} {t : TS} (hc : X.env.cells = []) (h : PS X.yg st t) : PS X st t := ⟨fun pins s σ H D I q => wpAny_mono (h.run pins s σ H D (I.yg hc) q) (fun _ _ z => z.unyg I.ok) fun _ _ z => z⟩
theorem fpOk_young (hc : X.env.cells = []) {b : Addr} {H' : Hp} (I : Inv X.yg pins σ H s) (e : s.heap.get? b = none) (hn : H' b = none) : FpOk X.yg pins H' b := by
  refine ⟨hn, fun z => ?_, fun z => ?_, ?_, fun x c q z => ?_, fun p hp z => ?_⟩
  · obtain ⟨m, hN, _⟩ := I.loc
    obtain ⟨_, _, _, ho, _⟩ := hN
    have z' : b = X.env.locals := z
    rw [z'] at e
    have ho' : s.heap.get? X.env.locals = some _ := ho
    rw [e] at ho'
    cases ho'
  · have z' : b ∈ X.fs := z
    obtain ⟨_, o, h1, _⟩ := Cx.Ok.funs (X := X.yg) I.ok |>.mem z'
    have hx : b ∉ X.yg.ex := fun w => I.ok.exfs b w z
    obtain ⟨o', e'⟩ := I.base.there b o h1 hx
    rw [e] at e'
    cases e'
  · cases q : X.s_0.heap.get? b with
    | some o =>
      by_cases hx : b ∈ X.yg.ex
      · exact .inl hx
      · obtain ⟨o', e'⟩ := I.base.there b o q hx
        rw [e] at e'
        cases e'
    | none =>
      rcases Nat.lt_or_ge b X.s_0.heap.objs.size with lt | ge
      · exact .inl (List.mem_append_right _ (mem_freed.mpr ⟨lt, q⟩))
      · exact .inr ge
  · have q' : X.env.cells.lookup x = some c := q
    rw [hc] at q'
    cases q'
  · have := (I.pin p hp).1
    rw [z, e] at this
    cases this
/-- for .. in o: o's __iter__ gives a list's iterator -/
def iOwn (K : PySem.W.Frag) (C : Addr) (sp : Sp) (E : St → XK) (ta : TE) : TI := fun σ H R => ta σ H fun x H1 => ∃ a dx fs, x = .ref a ∧ H1 a = some (.ins C dx fs) ∧
  sp [.ref a] H1 (fun v H2 => ∃ l it, v = .ref it ∧ H1 it = none ∧ H2 it = some (ItO l it 0) ∧ (∃ xs, SqL K H2 l xs) ∧ R (Itl K l) (dropH H2 it)) (E σ)
theorem pi_own {tg e : Expr} {ta : TE} {E : St → XK} (hcl : X.env.cells = []) (m : Meth X.K C "__iter__" f) (F : FnOk X.prog X.w X.K X.mg X.base CX k f fd ps sp) (hr : Room (k + 1) X.A) (hb : Binds X.K fd ps []) (hx : ∀ σ, PassesAt CX X.yg σ (E σ)) (ha : PE X.yg e ta) :
    PI X.yg tg e (iOwn X.K C sp E ta) := by
  refine ⟨fun pins s σ H R I h => ?_⟩
  refine thn (ha.run pins s σ H _ I h) ?_
  rintro v s1 ⟨x, H1, I1, r1, a, dx, fs, rfl, ea, q⟩
  cases r1
  obtain ⟨od, J⟩ := I1.instAt ea
  obtain ⟨m0, hF⟩ := I1.fr
  refine PySem.W.owit_iter hF I1.ok.mod.kin J m.at_ m.fn ?_
  refine thn (run_oneN (X := X.yg) (E := E σ) F (hr.mono (Nat.le_succ k)) rfl hb (hx σ) I1 q) ?_
  rintro u s4 ⟨v, H4, I4, rv, new, l, it, rfl, n1, eit, ⟨xs, hxs⟩, q4⟩
  cases rv
  unfold PySem.W.OwitIt
  have ty4 : s4.TypeIs (.ref it) "list_iterator" := ⟨_, itO_get I4 eit, rfl⟩
  refine wpAny_specialOf ty4 slot_listiter_next.lookup ?_
  dsimp only
  refine ⟨it, [it], _, _, dropH H4 it, rfl, I4.dropped eit, turn_list l it, ⟨_, itO_get I4 eit, rfl, rfl⟩, fun b hb => ?_, q4⟩
  have eb : b = it := by simpa using hb
  rw [eb]
  exact fpOk_young hcl I1 (new it n1 (by rw [eit]; exact fun z => nomatch z)) dropH_at
/-- o.m(e, .., k = v, ..) -/
def tMethK (C : Addr) (m : Str) (n j : Nat) (sp : Sp) (gV : List V → List V → List V) (E : St → XK) (ta : TE) (t tk : TA) : TE := fun σ H Q => ta σ H fun y H1 => ∃ a dx fs, y = .ref a ∧ H1 a = some (.ins C dx fs) ∧ fs.lookup m = none ∧
  t σ H1 fun vs H2 => tk σ H2 fun zs H3 => vs.length = n ∧ zs.length = j ∧ sp (gV (y :: vs) zs) H3 Q (E σ)
theorem pe_methK {o e : Expr} {es : List Expr} {kws : List Keyword} {m : Str} {n : Nat} {ks : List Str} {g : List Value → List Value → List Value} {gV : List V → List V → List V} {E : St → XK} {apos pos : Pos} {ta : TE} {t tk : TA} {pl : Sem Bool} (he : PE X o ta) (c : Cls X.K C) (hm : Meth X.K C m f)
    (F : FnOk X.prog X.w X.K X.mg X.base CX k f fd ps sp) (hr : Room k X.A) (hb : KBn X.K fd ps (n + 1) ks g gV) (hx : ∀ σ, PassesAt CX X σ (E σ)) (ha : PA X (e :: es) t) (hkw : PK X kws tk)
    (hall : (backToKw pos (keywordEach kws X.env)).all (·.1.isSome) = true := by rfl) (hks : (backToKw pos (keywordEach kws X.env)).filterMap (·.1) = ks := by rfl)
    (hst : starEach (e :: es) X.env = (false, eval e X.env) :: starEach es X.env := by rfl) (hpl : ((backTo pos (starEach (e :: es) X.env)).any (·.1) || (backToKw pos (keywordEach kws X.env)).any (·.1.isNone)) = false := by rfl)
    (ht : eval (.Call (.Attribute o m apos) (e :: es) kws pos) X.env = (eval o X.env >>= fun ov => standAt apos.atName >>= fun _ => holding [ov] (getMethod ov m pl) >>= fun ff => callWith pos ff.1 ff.2 (backTo pos (starEach (e :: es) X.env)) (backToKw pos (keywordEach kws X.env))) := by rfl) :
    PE X (.Call (.Attribute o m apos) (e :: es) kws pos) (tMethK C m n ks.length sp gV E ta t tk) := by
  constructor
  intro pins s σ H Q I h
  refine PySem.W.methodCall_KW (pl := pl) (thn (he.run pins s σ H _ I h) ?_) ht
  rintro u s1 ⟨y, H1, I1, ry, a, dx, fs, rfl, ea, l, q⟩
  cases ry
  refine getmeth_ok I1 ea c hm l (PySem.W.callWith_KW (first := [.ref a]) (h₀ := X.base) I.ok.mod.kin hm.kp hall (thn (ha.run pos pins s1 σ H1 _ I1 q) ?_) hpl hst)
  rintro us s2 ⟨vs, H2, I2, r, q2⟩
  refine thn (hkw.run pos pins s2 σ H2 _ I2 q2) fun ws s3 ⟨zs, H3, I3, rz, l1, l2, q3⟩ => ⟨I3.kIn, ?_⟩
  rw [hks]
  exact wpAny_call (run_fnNS (us := .ref a :: us) (vs := .ref a :: vs) F hr hb (hx σ) I3 (.cons rfl r) rz (by rw [List.length_cons, l1]) l2 q3)
end
end L2

/-! x.replace("..."[i], y[j]): both arguments are new texts of one sign. -/
namespace L2
open PySem PySem.Spec PyProof.Rows
def tReplIx (to : TE) (a : Str) (ti tB tj : TE) : TE := fun σ H Q => to σ H fun v H1 => ∃ x, v = .str x ∧ ti σ H1 fun iv H2 => ∃ i c, iv = .int i ∧ a.length ≤ sizeLine ∧ atI a.cps.toList i = some c ∧ tB σ H2 fun bv H3 => tj σ H3 fun jv H4 =>
  ∃ b j d, bv = .str b ∧ jv = .int j ∧ b.length ≤ sizeLine ∧ atI b.cps.toList j = some d ∧ c ≠ d ∧ x.length ≤ 1000000 ∧ Q (.str (Txt.replace x ⟨#[c]⟩ ⟨#[d]⟩)) H4
theorem sub_str {X : Cx} {value slice : Expr} {z : Str} {t t' : Tok} {i : Int} {c : Nat} {s : Shared} {A : Around} {E : Value → Shared → Prop} {Q : Value → Shared → Prop} (hz : z.length ≤ sizeLine) (he : atI z.cps.toList i = some c)
    (hs : subscripted slice false (.str z t) (.int i t') = operate [.str z t, .int i t'] (getItem (.str z t) (.int i t'))) (q : Q (.str ⟨#[c]⟩ s.toks) { s with toks := s.toks + 1 }) :
    wpAny (model X.prog X.w) A (subscriptTail value slice (.str z t) (.int i t')) Q E s := by
  obtain ⟨j, h1, h2, h3, h4, h5⟩ := atI_get he
  have hl : z.cps.toList.length = z.length := by simp [Str.length]
  rw [hl] at h1 h4 h5
  have hn := line63
  exact tail_any (typeIs_str s z t) slot_str_getitem.lookup (getItem_str (c := c) (by
    have e1 : decide (i < -(2 ^ 63 : Int)) = false := decide_eq_false (by omega)
    have e2 : decide (i ≥ 2 ^ 63) = false := decide_eq_false (by omega)
    rw [e1, e2, Bool.or_false]) (by rw [h1]; simpa using h2) q) hs
section
variable {X : Cx} {o i B j : Expr} {to ti tB tj : TE} {a : Str} {k : Nat} {c0 p1 p2 apos pos : Pos}
theorem pe_replIx (ho : PE X o to) (hi : PE X i ti) (hB : PE X B tB) (hj : PE X j tj) (s1 : PlainIx i) (s2 : PlainIx j)
    (hst : starEach [.Subscript (.Constant (.str a) k c0) i p1, .Subscript B j p2] X.env = [(false, eval (.Subscript (.Constant (.str a) k c0) i p1) X.env), (false, eval (.Subscript B j p2) X.env)] := by rfl)
    (hbase : attributeBase o "replace" X.env (eval o X.env) = eval o X.env := by rfl) (hline : (apos.endLine == pos.line) = true := by rfl) :
    PE X (.Call (.Attribute o "replace" apos) [.Subscript (.Constant (.str a) k c0) i p1, .Subscript B j p2] [] pos) (tReplIx to a ti tB tj) := by
  refine ⟨fun pins s σ H Q I h => ?_⟩
  refine PySem.Call_method2 hbase hst hline (thn (ho.run pins s σ H _ I h) ?_)
  rintro v s1' ⟨v', H1, I1, r1, x, rfl, q⟩
  obtain ⟨tx, rfl⟩ := r1
  refine ⟨"str", _, PySem.F.plainAttrs_str, PySem.F.slot_str_replace, PySem.F.type_str_replace, typeIs_str _ _ _, (fun _ e => nomatch e), Calls.callWith_builtin rfl (Calls.evalArgs_plain (Calls.spliced_cons ?_))⟩
  refine Subscript_ (Calls.Constant_str (wpAny_mono (PySem.wpAny_toks (hi.run pins _ σ H1 _ (I1.tok _) q)) ?_ fun _ _ z => z.2))
  rintro u s2' ⟨k1, iv, H2, I2, ri, n, c, rfl, hz, hc, q2⟩
  obtain ⟨ti', rfl⟩ := ri
  have k1 : s1'.toks + 1 ≤ s2'.toks := k1
  refine sub_str (X := X) hz hc (s1 _ _) (Calls.spliced_cons (Subscript_ (wpAny_mono (PySem.wpAny_toks (hB.run pins _ σ H2 _ (I2.tok _) q2)) ?_ fun _ _ z => z.2)))
  rintro w3 s3' ⟨k2, bv, H3, I3, rb, q3⟩
  have k2 : s2'.toks + 1 ≤ s3'.toks := k2
  refine wpAny_mono (PySem.wpAny_toks (hj.run pins _ σ H3 _ I3 q3)) ?_ fun _ _ z => z.2
  rintro w4 s4' ⟨k3, jv, H4, I4, rj, b, m, d, rfl, rfl, hzb, hd, hne, hx, q4⟩
  obtain ⟨tb, rfl⟩ := rb
  obtain ⟨tj', rfl⟩ := rj
  refine sub_str (X := X) hzb hd (s2 _ _) (Calls.spliced_nil ?_)
  have hyz : ((⟨#[c]⟩ : Str) == ⟨#[d]⟩) = false := by
    apply beq_eq_false_iff_ne.mpr
    intro e
    have e2 := congrArg (fun y : Str => y.cps.toList) e
    simp at e2
    exact hne e2
  refine PySem.SC.replace (by show s2'.toks ≠ 0; omega) (by show s4'.toks ≠ 0; omega) (by show s2'.toks ≠ s4'.toks; omega) hyz ?_ fun t' k => ⟨.str (Txt.replace x ⟨#[c]⟩ ⟨#[d]⟩), H4, I4.tok k, ⟨t', rfl⟩, q4⟩
  show x.length + (x.length + 1) * 1 ≤ 16777216
  omega
end
end L2

/-! if and for in a generator's body. -/
namespace L2
open PySem PySem.Spec PyProof.Rows
section
variable {X : Cx}
def tGIf (tc : TT) (ta tb : TGn) : TGn := fun D ys σ H => tc σ H fun k H1 => if k = true then ta D ys σ H1 else tb D ys σ H1
theorem gs_if {c : Expr} {a b : List Stmt} {pos : Pos} {tc : TT} {ta tb : TGn} (hc : PT X c tc) (ha : GSs X a ta) (hb : GSs X b tb) : GS X (.If c a b pos) (tGIf tc ta tb) := by
  refine ⟨fun A S ip R n ys s₀ cd fs K J gd lv s σ H D g hn k hI ht => ?_⟩
  show Seg _ A R _ n s₀ cd (.at pos fun _ => ((isTrue c X.env (eval c X.env)) >>= fun b' => if b' = true then execs a X.env else execs b X.env).wrap K J gd lv) fs s
  refine seg_at ?_
  rw [Sem.bind_eq_wrap', Sem.wrap_wrap]
  refine seg_wrap ?_
  rw [g.over]
  obtain ⟨acc, cc, r, I⟩ := hI
  refine wpAny_mono (hc.run _ s σ H _ I ht) ?_ fun x s' hx => k.exc n s₀ x s' hx
  rintro b' s' ⟨H2, I2, q2⟩
  cases b' with
  | true =>
    rw [if_pos rfl] at q2
    exact ha.run A S ip R n ys s₀ cd fs K J gd lv s' σ H2 D g hn k ⟨acc, cc, r, I2⟩ q2
  | false =>
    rw [if_neg Bool.false_ne_true] at q2
    exact hb.run A S ip R n ys s₀ cd fs K J gd lv s' σ H2 D g hn k ⟨acc, cc, r, I2⟩ q2
end
section
variable {M : Model} {A : Around} {R : GenEnd} {Y : Protocol} {n : Nat} {s₀ : Shared} {c : Code} {fs : List Frame} {s : Shared} {env : Env} {K : Flow → Sem PySem.Fin} {H : Value → Sem PySem.Fin} {gd : Bool → Bool} {lv : List Value → List Value}
theorem seg_For {target iter : Expr} {body orelse : List Stmt} {pos : Pos} (hs : ∀ x, foldedSetIterable iter env x = pure x)
    (h : wpAny M (A.over c fs) (eval iter env) (fun v s1 => wpAny M (A.over c fs) (pyIter v) (fun it s2 => ∀ p, Seg M A R Y n s₀ (.forLoop target it body orelse env) (M.den (.forLoop target it body orelse env))
      (.ret (fun r => ((match r with | .ok f => (.pure f : Sem Flow) | .error e => .raise e).onRaise fun (x : Value) => do
        if (← field x 1) == Value.none then unsupported "frame.own-activation:exception-without-traceback"
        setFlight x env.frame).wrap K H gd lv) none (gd false) (lv []) c p [] :: fs) s2) (fun x s' => Seg M A R Y n s₀ c (H x) fs s') s1) (fun x s' => Seg M A R Y n s₀ c (H x) fs s') s) :
    Seg M A R Y n s₀ c ((exec (.For target iter body orelse pos) env).wrap K H gd lv) fs s := by
  show Seg M A R Y n s₀ c (.at pos fun _ => ((eval iter env) >>= fun v => (foldedSetIterable iter env v >>= fun x => (standAt iter.pos >>= fun _ => (holding [x] (pyIter x) >>= fun it => runOwn (.forLoop target it body orelse env) env)))).wrap K H gd lv) fs s
  refine seg_at ?_
  rw [Sem.bind_eq_wrap', Sem.wrap_wrap]
  refine seg_wrap (wpAny_mono h (fun v s1 h1 => ?_) fun _ _ x => x)
  rw [hs]
  show Seg M A R Y n s₀ c (.at iter.pos fun _ => (holding [v] (pyIter v) >>= fun it => runOwn (.forLoop target it body orelse env) env).wrap K H gd lv) fs s1
  refine seg_at ?_
  rw [Sem.bind_eq_wrap', Sem.wrap_wrap]
  refine seg_wrap (wpAny_mono (wpAny_holding h1) (fun it s2 h2 => ?_) fun _ _ x => x)
  exact seg_call h2
end
section
variable {prog : Program} {w : World} {A : Around} {R : GenEnd} {Y : Protocol} {n : Nat} {s₀ : Shared} {fs : List Frame} {s : Shared} {env : Env}
/-- what a loop's turn does with an exception -/
def errT (env : Env) (x : Value) : Sem PySem.Fin := (do noteFrame x env; theTreesLotGoes x : Sem Unit).wrap (fun _ => .raise x) .raise id id
def bodyK (target : Expr) (it : Value) (body : List Stmt) (env : Env) : Flow → Sem PySem.Fin := fun f => match f with
  | .next | .cont => .pure (.again (.forLoop target it body [] env))
  | .brk => .pure (.done .next)
  | .ret v => .pure (.done (.ret v))
def forG (target : Expr) (it : Value) (body : List Stmt) (env : Env) : Option Value → Sem PySem.Fin := fun r => match r with
  | none => again (.block [] env)
  | some v => letOwnedTupleGo target it v >>= fun _ => assign target env v >>= fun _ => execs body env >>= fun f => match f with
    | .next | .cont => again (.forLoop target it body [] env)
    | .brk => pure (.done .next)
    | .ret v => pure (.done (.ret v))
abbrev errB (env : Env) (e : Value) : Sem PySem.Fin := (do noteFrame e env; theTreesLotGoes e : Sem Unit).bind fun _ => .raise e
theorem errB_eq (env : Env) (e : Value) : errB env e = errT env e := Sem.bind_eq_wrap _ _
theorem seg_forLoop {target : Expr} {it : Value} {body : List Stmt}
    (h : wpAny (model prog w) (A.over (.forLoop target it body [] env) fs) (pyNext it) (fun r s1 => match r with
      | none => Seg (model prog w) A R Y n s₀ (.block [] env) (leafOf (.ok .next)) fs s1
      | some v => wpAny (model prog w) (A.over (.forLoop target it body [] env) fs) (letOwnedTupleGo target it v) (fun _ s2 => wpAny (model prog w) (A.over (.forLoop target it body [] env) fs) (assign target env v) (fun _ s3 =>
          Seg (model prog w) A R Y n s₀ (.forLoop target it body [] env) ((execs body env).wrap (bodyK target it body env) (errT env) id id) fs s3)
        (fun x s' => Seg (model prog w) A R Y n s₀ (.forLoop target it body [] env) (errT env x) fs s') s2) (fun x s' => Seg (model prog w) A R Y n s₀ (.forLoop target it body [] env) (errT env x) fs s') s1)
      (fun x s' => Seg (model prog w) A R Y n s₀ (.forLoop target it body [] env) (errT env x) fs s') s) :
    Seg (model prog w) A R Y n s₀ (.forLoop target it body [] env) ((model prog w).den (.forLoop target it body [] env)) fs s := by
  show Seg _ A R Y n s₀ _ ((forTurn target it body [] env).onRaise (fun x => do noteFrame x env; theTreesLotGoes x)) fs s
  unfold forTurn
  rw [Sem.onRaise_eq_wrap]
  refine seg_at ?_
  show Seg _ A R Y n s₀ _ ((((pyNext it).onRaise (fun _ => standAt { target.pos with line := 0 })) >>= (forG target it body env)).wrap .pure (errB env) id id) fs s
  rw [Sem.bind_eq_wrap', Sem.wrap_wrap]
  refine seg_wrap (wpAny_onRaise (wpAny_mono h (fun r s1 h1 => ?_) fun x s' hx => wpAny_standAt ?_))
  · cases r with
    | none => exact seg_again rfl h1
    | some v =>
      show Seg _ A R Y n s₀ _ ((letOwnedTupleGo target it v >>= fun _ => assign target env v >>= fun _ => execs body env >>= fun f => (match f with
        | .next | .cont => again (.forLoop target it body [] env)
        | .brk => pure (.done .next)
        | .ret v => pure (.done (.ret v)) : Sem PySem.Fin)).wrap .pure (errB env) id id) fs s1
      rw [Sem.bind_eq_wrap', Sem.wrap_wrap]
      refine seg_wrap (wpAny_mono h1 (fun _ s2 h2 => ?_) fun x s' hx => ?_)
      · rw [Sem.bind_eq_wrap', Sem.wrap_wrap]
        refine seg_wrap (wpAny_mono h2 (fun _ s3 h3 => ?_) fun x s' hx => ?_)
        · rw [Sem.bind_eq_wrap', Sem.wrap_wrap]
          have ee : ∀ {K1 K2 : Flow → Sem PySem.Fin} {H1 H2 : Value → Sem PySem.Fin}, K1 = K2 → H1 = H2 → Seg (model prog w) A R Y n s₀ (.forLoop target it body [] env) ((execs body env).wrap K2 H2 id id) fs s3 →
              Seg (model prog w) A R Y n s₀ (.forLoop target it body [] env) ((execs body env).wrap K1 H1 id id) fs s3 := by
            rintro _ _ _ _ rfl rfl h
            exact h
          exact ee (funext fun f => by cases f <;> rfl) (funext fun e => errB_eq env e) h3
        · show Seg _ A R Y n s₀ _ (errB env x) fs s'
          rw [errB_eq]
          exact hx
      · show Seg _ A R Y n s₀ _ (errB env x) fs s'
        rw [errB_eq]
        exact hx
  · show Seg _ A R Y n s₀ _ (errB env x) fs s'
    rw [errB_eq]
    exact hx
end
section
variable {X : Cx}
/-- for in a generator's body: W i n: n bounds the turns that are left -/
def tGFor (wi : TI) (g : TG) (tb : TGn) : TGn := fun D ys σ H => wi σ H fun J H0 => ∃ W : Nat → Nat → List V → St → Hp → Prop, (∃ m, W 0 m ys σ H0) ∧ ∀ i n ys σ H, W i n ys σ H →
  (J.stop i H ∧ D.nx ys σ H) ∨ (J.go i H ∧ ∃ N : List V → St → Hp → Prop, (∀ ys' σ' H', N ys' σ' H' → ∃ m, m < n ∧ W (i + 1) m ys' σ' H') ∧
    ∀ x H', J.yld i H x H' → g x σ H' fun σ1 H1 => tb { D with nx := N, ct := N, bk := D.nx } ys σ1 H1)
theorem gs_for {tg iter : Expr} {body : List Stmt} {wi : TI} {g : TG} {tb : TGn} {pos : Pos} (hp : PassesOwn (model X.prog X.w) X.A X.env X.xe) (hc : X.calm = true) (hi : PI X tg iter wi) (hg : PG X tg g) (hb : GSs X body tb)
    (hs : ∀ x, foldedSetIterable iter X.env x = pure x := by intro _; rfl) : GS X (.For tg iter body [] pos) (tGFor wi g tb) := by
  refine ⟨fun A S ip R n ys s₀ c fs K J' gd lv s σ H D gc hn k hI ht => ?_⟩
  obtain ⟨acc, cc, r, I⟩ := hI
  refine seg_For hs ?_
  rw [gc.over]
  refine wpAny_mono (hi.run _ s σ H _ I ht) (fun v s1 h1 => ?_) fun x s' hx => k.exc n s₀ x s' hx
  refine wpAny_mono h1 (fun itv s2 h2 => ?_) fun x s' hx => k.exc n s₀ x s' hx
  obtain ⟨it, fp, tn, J, H2, rfl, I2, T, st2, f2, W, ⟨m0, w0⟩, turn⟩ := h2
  intro p
  have gl := fun (kk : Result → Sem PySem.Fin) => gc_loop (k := kk) (c' := .forLoop tg (.ref it) body [] X.env) (l := lv []) (kp := []) (p := p) gc rfl rfl
  have stat : ∀ {H' : Hp} {acc' : Array Value} {cc' : Nat}, (∀ b ∈ fp, H' b = none) → ∀ b ∈ fp, FpOk X ((S, lstObj acc' cc') :: ip) H' b := fun {H' acc' cc'} hnn b hb => by
    obtain ⟨a0, a1, a2, a3, a4, a5⟩ := f2 b hb
    refine ⟨hnn b hb, a1, a2, a3, a4, fun q hq => ?_⟩
    rcases List.mem_append.mp hq with z | z
    · exact a5 q (List.mem_append_left _ z)
    · rcases List.mem_cons.mp z with z | z
      · rw [z]
        exact a5 (S, lstObj acc cc) (List.mem_append_right _ List.mem_cons_self)
      · exact a5 q (List.mem_append_right _ (List.mem_cons_of_mem _ z))
  have notS : ∀ b ∈ fp, S ≠ b := fun b hb => (f2 b hb).2.2.2.2.2 (S, lstObj acc cc) (List.mem_append_right _ List.mem_cons_self)
  have glp := fun (kk : Result → Sem PySem.Fin) (h : Heap) => (⟨(gl kk).pn, fun q hq => by
    rcases List.mem_append.mp hq with z | z
    · exact (gl kk).ip q z
    · exact fun e => notS _ (of_pinsAt z).1 e.symm, (gl kk).apart, (gl kk).over, (gl kk).split, (gl kk).guard, (gl kk).gd⟩ : GC X S (ip ++ pinsAt fp h) A (Code.forLoop tg (Value.ref it) body [] X.env) (Frame.ret kk none (gd false) (lv []) c p [] :: fs) id)
  have ee : ∀ (n : Nat) (s₀ : Shared) (x : Value) (s' : Shared), X.xe x s' → Seg (model X.prog X.w) A R (GY X S) n s₀ (.forLoop tg (.ref it) body [] X.env) (errT X.env x)
      (.ret (fun r => ((match r with | .ok f => (.pure f : Sem Flow) | .error e => .raise e).onRaise (cameBack X.env)).wrap K J' gd lv) none (gd false) (lv []) c p [] :: fs) s' := fun n s₀ x s' hx => by
    refine seg_wrap ?_
    rw [(gl _).over]
    refine wpAny_bind (wpAny_mono (hp x s' hx) (fun _ s'' hcb => wpAny_theTreesLotGoes ?_) fun y s'' hcb => ?_)
    · exact seg_leaf (.error x) (seg_cameBack gc k hcb)
    · exact seg_leaf (.error y) (seg_cameBack gc k hcb)
  have loop : ∀ (m i n : Nat) (ys : List V) (s₀ s : Shared) (σ : St) (H : Hp), n + ys.length = sizeLine → W i m ys σ H → GI X S ip ys σ H s → tn i s.heap → (∀ b ∈ fp, H b = none) →
      Seg (model X.prog X.w) A R (GY X S) n s₀ (.forLoop tg (.ref it) body [] X.env) ((model X.prog X.w).den (.forLoop tg (.ref it) body [] X.env))
        (.ret (fun r => ((match r with | .ok f => (.pure f : Sem Flow) | .error e => .raise e).onRaise (cameBack X.env)).wrap K J' gd lv) none (gd false) (lv []) c p [] :: fs) s := by
    intro m
    induction m using Nat.strongRecOn with
    | ind m ih =>
      intro i n ys s₀ s σ H hn w hI st fr
      refine seg_forLoop ?_
      rw [(gl _).over]
      obtain ⟨acc, cc, r, I⟩ := hI
      rcases turn i m ys σ H w with ⟨stop, qn⟩ | ⟨go, N, hN, step⟩
      · refine wpAny_mono (T.done X rfl rfl rfl hc i _ s σ H X.xe I (stat fr) st stop) (fun rr s4 h4 => ?_) fun x s' hx => ee n s₀ x s' hx
        obtain ⟨rfl, I4⟩ := h4
        exact seg_leaf (.ok .next) (k.ok n ys s₀ s4 .next hn ⟨σ, H, ⟨acc, cc, r, I4⟩, qn⟩)
      · refine wpAny_mono (T.item X rfl rfl rfl hc i _ s σ H X.xe I (stat fr) st go) (fun rr s4 h4 => ?_) fun x s' hx => ee n s₀ x s' hx
        obtain ⟨u, rfl, h4⟩ := h4
        refine wpAny_mono h4 (fun _ s5 h5 => ?_) fun x s' hx => ee n s₀ x s' hx
        obtain ⟨x, H5, I5, r5, y5, st5, fr5⟩ := h5
        have I5' := I5.pinned (stat fr5) (T.obj _ _ st5)
        refine wpAny_mono (hg.run _ s5 σ H5 x u _ I5' r5 (step x H5 y5)) (fun _ s6 h6 => ?_) fun x s' hx => ee n s₀ x s' hx
        obtain ⟨σ6, H6, I6, q6⟩ := h6
        refine hb.run A S (ip ++ pinsAt fp s5.heap) R n ys s₀ _ _ _ _ id id s6 σ6 H6 { D with nx := N, ct := N, bk := D.nx } (glp _ _) hn ⟨fun n' ys' s₀' s7 f hn' hs => ?_, fun n' s₀' x s7 hx => ee n' s₀' x s7 hx⟩ ⟨acc, cc, r, I6⟩ q6
        have again : ∀ {σ7 : St} {H7 : Hp}, GI X S (ip ++ pinsAt fp s5.heap) ys' σ7 H7 s7 → N ys' σ7 H7 → Seg (model X.prog X.w) A R (GY X S) n' s₀' (.forLoop tg (.ref it) body [] X.env) (.pure (.again (.forLoop tg (.ref it) body [] X.env)))
            (.ret (fun r => ((match r with | .ok f => (.pure f : Sem Flow) | .error e => .raise e).onRaise (cameBack X.env)).wrap K J' gd lv) none (gd false) (lv []) c p [] :: fs) s7 := by
          rintro σ7 H7 ⟨acc7, cc7, r7, I7⟩ n7
          obtain ⟨m', hm, w7⟩ := hN ys' σ7 H7 n7
          have I7' : Inv X (((S, lstObj acc7 cc7) :: ip) ++ pinsAt fp s5.heap) σ7 H7 s7 := I7
          refine seg_again rfl (ih m' hm (i + 1) n' ys' s₀' s7 σ7 H7 hn' w7 ⟨acc7, cc7, r7, I7'.unpinned⟩ (T.keep _ _ _ st5 fun b hb o e => (I7'.pin (b, o) (List.mem_append_right _ (List.mem_append_right _ (mem_pinsAt hb e)))).1) fun b hb => ?_)
          obtain ⟨o, e, d⟩ := T.obj _ _ st5 b hb
          exact (I7'.pin (b, o) (List.mem_append_right _ (List.mem_append_right _ (mem_pinsAt hb e)))).2.1
        have back : ∀ {σ7 : St} {H7 : Hp}, GI X S (ip ++ pinsAt fp s5.heap) ys' σ7 H7 s7 → GI X S ip ys' σ7 H7 s7 := by
          rintro σ7 H7 ⟨acc7, cc7, r7, I7⟩
          have I7' : Inv X (((S, lstObj acc7 cc7) :: ip) ++ pinsAt fp s5.heap) σ7 H7 s7 := I7
          exact ⟨acc7, cc7, r7, I7'.unpinned⟩
        cases f with
        | next => obtain ⟨σ7, H7, I7, n7⟩ := hs; exact again I7 n7
        | cont => obtain ⟨σ7, H7, I7, n7⟩ := hs; exact again I7 n7
        | brk => obtain ⟨σ7, H7, I7, q7⟩ := hs; exact seg_leaf (.ok .next) (k.ok n' ys' s₀' s7 .next hn' ⟨σ7, H7, back I7, q7⟩)
        | ret v => obtain ⟨x7, σ7, H7, I7, r7, q7⟩ := hs; exact seg_leaf (.ok (.ret v)) (k.ok n' ys' s₀' s7 (.ret v) hn' ⟨x7, σ7, H7, back I7, r7, q7⟩)
  exact loop m0 0 n ys s₀ s2 σ H2 hn w0 ⟨acc, cc, r, I2⟩ st2 fun b hb => (f2 b hb).1
end
section
variable {P : Program} {w : World} {mg : Str → Option Value} {base : Heap} {K : PySem.W.Frag} {x qual : Str} {params : Arguments} {body : List Stmt} {scope : Scope} {dvs : List V} {kws : List (Str × V)} {f : Addr} {fd : FuncData}
theorem FunD.okGen {N ps : List Str} {k : Nat} {sp : SpG} (F : FunD K x qual params body scope dvs kws f fd) (S : GScope N ps scope) (len : ∀ vs H Q E, sp vs H Q E → vs.length = ps.length)
    (hbody : ∀ (cdv : Value) (A : Around) (outer : List Env) (s : Shared) (H : Hp) (vs : List V) (Q : List V → Hp → Prop) (E : XK) (pn : List (Addr × Obj)), Room k (A.deeper (envOfC qual scope s.heap.objs.size f cdv)) → sp vs H Q E →
      ∃ t, GSs (gcxOf P w K mg base N qual scope f cdv A outer s H E pn) body t ∧ t { nx := fun ys _ H' => Q ys H', rt := fun ys v H' => v = .non ∧ Q ys H' } [] (start N vs) H) : GFn P w K mg base (k + 1) f fd ps sp := by
  obtain ⟨oc, od, dV, kV, doc, pm, an, cdv, ct, osl, rfl, lk, hcd, _, _⟩ := F.ex
  exact gfn_of lk hcd S len fun A outer s H vs Q E pn hr hsp => hbody cdv A outer s H vs Q E pn hr hsp
theorem passesE0 {X : Cx} : Passes (CX X.prog X.w) X E0 := fun pins σ H s e s' I c => passE0 σ pins H s e s' I c
theorem nostopE0 {K : PySem.W.Frag} : NoStop K E0 := fun _ _ _ z => False.elim z
end
end L2

/-! try: .. except X as n: raise Y(..) from n. The exceptions of the body have no context (L2N). -/
namespace Rz
open PySem PySem.W PySem.Calls PyProof.Rows PySem.HandSPX
/-- the record of an exception as it is made -/
abbrev xVs (t1 : Addr) : Array Value := #[.ref t1, .none, .none, .none, .bool false, .none]
structure Mk1 (h h' : Heap) (e C d : Addr) (f : Str) (v : Value) : Prop where
  keep : ∀ b o, h.get? b = some o → h'.get? b = some o
  new : h.objs.size ≤ e
  obj : ∃ t1 : Addr, h'.get? e = some { cls := .ref C, dict := some d, data := .fields (xVs t1) }
  dbig : h.objs.size ≤ d
  dne : d ≠ e
  ns : h'.Ns1 d (fun y => if y = f then some v else none)
structure Mk0 (h h' : Heap) (e C : Addr) : Prop where
  keep : ∀ b o, h.get? b = some o → h'.get? b = some o
  new : h.objs.size ≤ e
  obj : ∃ t1 : Addr, h'.get? e = some { cls := .ref C, dict := none, data := .fields (xVs t1) }
section
variable {prog : Program} {w : World} {A : Around} {E : Value → Shared → Prop} {R : Result → Shared → Prop} {s : Shared} {K : Frag} {mg : Str → Option Value} {C : Addr} {f : Str}
theorem exc_mk1 (T : ExOne prog K C f) {v : Value} (X : K.In s.heap) (G : Gls s.heap mg) (hlim : s.heap.NoLimit) (hroom : A.depth + 1 < recursionLimit)
    (hq : ∀ h' tk e d, Mk1 s.heap h' e C d f v → R (.ok (.ret (.ref e))) { s with heap := h', toks := tk }) :
    codeAny (model prog w) A (.call (.ref C) ⟨[v], []⟩) R s := by
  obtain ⟨fI, cc, cda, params, msg, g, j, p0, p1, p2, p3, p4, p5, q0, q1, q2, q3, scope, TF, S, hev, hgen, hco, hbind⟩ := T.ex
  obtain ⟨nm, q, N, bs, bm, sn, sub, ab, col, dd, k0, k1, k2, k3, k5, hC, hbm⟩ := T.c.cls
  obtain ⟨hp, gg, dr, tk, os⟩ := s
  have k : ∀ b o, hp.get? b = some o → ((hp.push (kdv_tup [v])).push (excO C hp.objs.size)).get? b = some o := fun b o e => Heap.get?_push_of_some _ (Heap.get?_push_of_some _ e)
  have hget : ((hp.push (kdv_tup [v])).push (excO C hp.objs.size)).get? (hp.objs.size + 1) = some (excO C hp.objs.size) := by heap_get
  have hnx : K.lookup (hp.objs.size + 1) = none := by
    cases e : K.lookup (hp.objs.size + 1) with
    | none => rfl
    | some o =>
      have z : hp.get? (hp.objs.size + 1) = some o := X _ _ e
      exact absurd (Nat.lt_of_succ_lt (Heap.lt_size z)) (Nat.lt_irrefl _)
  refine call_own F.excBase_ValueError (fun X => refsVE_contains X bm hbm) (X _ _ hC) (looks_findIn X TF.iC) (fun self => bind_fn X self TF.tI) (one_size v) ?_
  refine exc_init1 (mg := mg) (s := ⟨(hp.push (kdv_tup [v])).push (excO C hp.objs.size), gg, dr, tk, os⟩) T.c TF S hev T.no hgen hco (fun name qual body kV doc pm ct an => hbind _ _ name qual body kV doc pm ct an) (X.keeps k) (G.keeps k) (hlim.keeps k) hget hnx ?_ fun h' tk' dx t1 ⟨k', hx, dn, dne, hns⟩ => ?_
  · show A.depth + 1 < recursionLimit
    exact hroom
  · have old : ∀ b o, hp.get? b = some o → h'.get? b = some o := fun b o e => k' b o (Nat.ne_of_lt (Nat.lt_succ_of_lt (Heap.lt_size e))) (k b o e)
    have z : hp.objs.size + 1 + 1 ≤ dx := by
      first
        | (simpa only [Heap.size_push] using dn)
        | exact dn
        | (have q := dn; rw [Heap.size_push, Heap.size_push] at q; exact q)
    exact ⟨rfl, hq h' tk' (hp.objs.size + 1) dx ⟨old, Nat.le_succ _, ⟨t1, hx⟩, Nat.le_trans (Nat.le_trans (Nat.le_succ _) (Nat.le_succ _)) z, dne, hns⟩⟩
theorem exc_mk0 (T : ExZero prog K C) (X : K.In s.heap) (G : Gls s.heap mg) (hlim : s.heap.NoLimit) (hroom : A.depth + 1 < recursionLimit)
    (hq : ∀ h' tk e, Mk0 s.heap h' e C → R (.ok (.ret (.ref e))) { s with heap := h', toks := tk }) :
    codeAny (model prog w) A (.call (.ref C) ⟨[], []⟩) R s := by
  obtain ⟨fI, cc, cda, params, msg, j, p0, p1, p2, p3, p4, p5, scope, TF, S, hev, hgen, hco, hbind⟩ := T.ex
  obtain ⟨nm, q, N, bs, bm, sn, sub, ab, col, dd, k0, k1, k2, k3, k5, hC, hbm⟩ := T.c.cls
  obtain ⟨hp, gg, dr, tk, os⟩ := s
  have k : ∀ b o, hp.get? b = some o → ((hp.push (kdv_tup [])).push (excO C hp.objs.size)).get? b = some o := fun b o e => Heap.get?_push_of_some _ (Heap.get?_push_of_some _ e)
  have hget : ((hp.push (kdv_tup [])).push (excO C hp.objs.size)).get? (hp.objs.size + 1) = some (excO C hp.objs.size) := by heap_get
  have hnx : K.lookup (hp.objs.size + 1) = none := by
    cases e : K.lookup (hp.objs.size + 1) with
    | none => rfl
    | some o =>
      have z : hp.get? (hp.objs.size + 1) = some o := X _ _ e
      exact absurd (Nat.lt_of_succ_lt (Heap.lt_size z)) (Nat.lt_irrefl _)
  refine call_own F.excBase_ValueError (fun X => refsVE_contains X bm hbm) (X _ _ hC) (looks_findIn X TF.iC) (fun self => bind_fn X self TF.tI) (by show 0 ≤ sizeLine; exact Nat.zero_le _) ?_
  refine exc_init0 (mg := mg) (s := ⟨(hp.push (kdv_tup [])).push (excO C hp.objs.size), gg, dr, tk, os⟩) T.c TF S hev hgen hco (fun name qual body kV doc pm ct an => hbind _ name qual body kV doc pm ct an) (X.keeps k) (G.keeps k) (hlim.keeps k) hget hnx ?_ fun h' tk' t1 ⟨k', hx⟩ => ?_
  · show A.depth + 1 < recursionLimit
    exact hroom
  · have old : ∀ b o, hp.get? b = some o → h'.get? b = some o := fun b o e => k' b o (Nat.ne_of_lt (Nat.lt_succ_of_lt (Heap.lt_size e))) (k b o e)
    exact ⟨rfl, hq h' tk' (hp.objs.size + 1) ⟨old, Nat.le_succ _, ⟨t1, hx⟩⟩⟩
end
end Rz

namespace L2
open PySem PySem.Spec PyProof.Rows
/-- an expression that makes an exception, told to its fields -/
def MkF (X : Cx) (pins : List (Addr × Obj)) (σ : St) (Q : XK) (u : Value) (s' : Shared) : Prop :=
  ∃ (a t1 : Addr) (sI : Shared) (H' : Hp) (cls : Value) (d : Option Addr), u = .ref a ∧ Inv X pins σ H' sI ∧ (∀ b o, sI.heap.get? b = some o → s'.heap.get? b = some o) ∧ sI.heap.get? a = none ∧
    s'.heap.get? a = some { cls := cls, dict := d, data := .fields (Rz.xVs t1) } ∧ H' a = none ∧ s'.os = sI.os ∧ AllBare s'.gens ∧ Raises X cls ∧ Q cls d H'
theorem Room.d5 {k : Nat} {A : Around} (r : Room k A) : A.depth + 5 < recursionLimit := by have := r.dp; omega
def PMkF (X : Cx) (e : Expr) (t : St → Hp → XK → Prop) : Prop :=
  ∀ (pins : List (Addr × Obj)) (s : Shared) (σ : St) (H : Hp) (Q : XK), Inv X pins σ H s → t σ H Q → wpAny (model X.prog X.w) X.A (eval e X.env) (MkF X pins σ Q) X.xe s
theorem PMkF.n {X : Cx} {e : Expr} {t : St → Hp → XK → Prop} (h : PMkF X e t) : L2N.PMk X e t := fun pins s σ H Q I q => thn (h pins s σ H Q I q) fun u s' ⟨a, t1, sI, H', cls, d, e, J, k, hne, ha, na, os, ag, r, q⟩ =>
  ⟨a, _, _, sI, H', cls, d, e, J, k, hne, ha, ⟨rfl, rfl, fun vs z => by cases z; rfl⟩, rfl, rfl, na, os, ag, r, q⟩
section
variable {X : Cx} {C : Addr}
theorem pmkF_sup1 {x f : Str} {a : Expr} {ta : TA} {p pos : Pos} (T : Rz.ExOne X.prog X.K C f) (hs : X.mg "super" = none) (hr : X.A.depth + 5 < recursionLimit) (hg : Gl X x) (hm : X.mg x = some (.ref C)) (ha : PA X [a] ta)
    (hdb : (x == ("__debug__" : Str)) = false := by decide)
    (he : starEach (a :: []) X.env = (false, eval a X.env) :: starEach [] X.env := by rfl) (hpl : (backTo pos (starEach [] X.env)).any (·.1) = false := by rfl) :
    PMkF X (.Call (.Name x p) [a] [] pos) (tMkX C f ta) := by
  intro pins s σ H Q I h
  refine wpAny_Call_Name_kw (ld_glob I hg hm ?_ hdb)
  refine PySem.W.callWith_K (h₀ := X.base) I.ok.mod.kin T.c.kC (thn (ha.run pos pins s σ H _ I h) fun us s1 hh => ?_) he hpl
  obtain ⟨vs, H1, I1, r1, v, ev, q1⟩ := hh
  subst ev
  refine ⟨I1.kIn, ?_⟩
  cases r1 with
  | cons rv rn =>
    rename_i v' us'
    cases rn
    show wpAny _ _ (call (.ref C) [v']) _ _ _
    have hlim := I1.nolimit
    have G := I1.gls hs
    obtain ⟨hp, g, dr, tk, os⟩ := s1
    refine wpAny_call (Rz.exc_mk1 (mg := X.mg) T I1.kIn G hlim (by have := hr; omega) fun h' tk' e d M => ?_)
    show MkF X pins σ Q (.ref e) ⟨h', g, dr, tk', os⟩
    obtain ⟨t1, hoe⟩ := M.obj
    have hns := M.ns
    obtain ⟨G', g1, g2⟩ := restrict h' fun b => decide (b ≠ e)
    have gk : ∀ b, b ≠ e → G'.get? b = h'.get? b := fun b hb => g1 b (decide_eq_true hb)
    have ge : G'.get? e = none := g2 e (by simp)
    have old : ∀ b o, hp.get? b = some o → G'.get? b = some o := fun b o q => (gk b (Nat.ne_of_lt (Nat.lt_of_lt_of_le (Heap.lt_size q) M.new))).trans (M.keep b o q)
    have hns' : G'.Ns1 d (fun y => if y = f then some v' else none) := by
      obtain ⟨o, es, ep, ho, r⟩ := hns
      exact ⟨o, es, ep, (gk d M.dne).trans ho, r⟩
    have J : Inv X pins σ (upd H1 d (.xd [(f, v)])) ⟨G', g, dr, tk', os⟩ := I1.laid (t' := tk') old M.dbig ⟨_, hns', relO_one rv f⟩
    refine ⟨e, t1, ⟨G', g, dr, tk', os⟩, _, .ref C, some d, rfl, J, fun b o q => ?_, ge, hoe, ?_, rfl, J.bare, raises_own T.c.exC T.c.tyC, q1 d (I1.hok.fresh M.dbig)⟩
    · by_cases hb : b = e
      · have q' : G'.get? b = some o := q
        rw [hb, ge] at q'; cases q'
      · exact (gk b hb).symm.trans q
    · rw [upd_ne (Ne.symm M.dne)]
      exact I1.hok.fresh M.new
theorem pmkF_sup0 {x : Str} {p pos : Pos} (T : Rz.ExZero X.prog X.K C) (hs : X.mg "super" = none) (hr : X.A.depth + 5 < recursionLimit) (hg : Gl X x) (hm : X.mg x = some (.ref C))
    (hdb : (x == ("__debug__" : Str)) = false := by decide) : PMkF X (.Call (.Name x p) [] [] pos) (tMkX0 C) := by
  intro pins s σ H Q I h
  refine wpAny_Call_Name_kw (ld_glob I hg hm ?_ hdb)
  refine PySem.W.callWith_K0 I.kIn T.c.kC ?_
  have hlim := I.nolimit
  have G := I.gls hs
  obtain ⟨hp, g, dr, tk, os⟩ := s
  refine wpAny_call (Rz.exc_mk0 (mg := X.mg) T I.kIn G hlim (by have := hr; omega) fun h' tk' e M => ?_)
  show MkF X pins σ Q (.ref e) ⟨h', g, dr, tk', os⟩
  obtain ⟨t1, hoe⟩ := M.obj
  obtain ⟨G', g1, g2⟩ := restrict h' fun b => decide (b ≠ e)
  have gk : ∀ b, b ≠ e → G'.get? b = h'.get? b := fun b hb => g1 b (decide_eq_true hb)
  have ge : G'.get? e = none := g2 e (by simp)
  have old : ∀ b o, hp.get? b = some o → G'.get? b = some o := fun b o q => (gk b (Nat.ne_of_lt (Nat.lt_of_lt_of_le (Heap.lt_size q) M.new))).trans (M.keep b o q)
  have J : Inv X pins σ H ⟨G', g, dr, tk', os⟩ := I.kept (t' := tk') old
  refine ⟨e, t1, ⟨G', g, dr, tk', os⟩, H, .ref C, none, rfl, J, fun b o q => ?_, ge, hoe, I.hok.fresh M.new, rfl, J.bare, raises_own T.c.exC T.c.tyC, h⟩
  by_cases hb : b = e
  · have q' : G'.get? b = some o := q
    rw [hb, ge] at q'; cases q'
  · exact (gk b hb).symm.trans q
end
end L2

namespace HotX
open PySem PySem.Spec PyProof.Rows
/-- the heap behind «from x1» -/
def fromAt (h : Heap) (a x1 : Addr) : Heap := (h.update a (Obj.mapFields (·.setIfInBounds 3 (.ref x1)))).update a (Obj.mapFields (·.setIfInBounds 4 (.bool true)))
theorem fromAt_at {h : Heap} {a x1 : Addr} {oe : Obj} {vs : Array Value} (ha : h.get? a = some oe) (hd : oe.data = .fields vs) :
    (fromAt h a x1).get? a = some ((oe.mapFields (·.setIfInBounds 3 (.ref x1))).mapFields (·.setIfInBounds 4 (.bool true))) ∧ ((oe.mapFields (·.setIfInBounds 3 (.ref x1))).mapFields (·.setIfInBounds 4 (.bool true))).data = .fields ((vs.setIfInBounds 3 (.ref x1)).setIfInBounds 4 (.bool true)) := by
  have q3 := Obj.data_mapFields hd (·.setIfInBounds 3 (Value.ref x1))
  have g3 := Heap.get?_update_self (Obj.mapFields (·.setIfInBounds 3 (Value.ref x1))) ha (Obj.isFreed_of_fields q3)
  have q4 := Obj.data_mapFields q3 (·.setIfInBounds 4 (.bool true))
  exact ⟨Heap.get?_update_self (Obj.mapFields (·.setIfInBounds 4 (.bool true))) g3 (Obj.isFreed_of_fields q4), q4⟩
theorem fromAt_other {h : Heap} {a b x1 : Addr} (hne : a ≠ b) : (fromAt h a x1).get? b = h.get? b := by
  unfold fromAt
  rw [Heap.get?_update_other _ _ hne, Heap.get?_update_other _ _ hne]
section
variable {prog : Program} {w : World} {A : Around} {E : Value → Shared → Prop} {s : Shared}
theorem efv {b : Addr} {ob : Obj} {us : Array Value} {msg : String} {Q : Value → Shared → Prop} (hb : s.heap.get? b = some ob) (db : ob.data = .fields us) (L : PySem.W.Looks (model prog w) s.heap (isInstance (.ref b) (.type "BaseException")) true) (q : Q (.ref b) s) :
    wpAny (model prog w) A (excFromValue (.ref b) msg) Q E s := by
  have nt : ∀ {Q' : Bool → Shared → Prop}, Q' false s → wpAny (model prog w) A (isType (.ref b)) Q' E s := by
    intro Q' z
    simp only [isType, loadHead]
    refine wpAny_bind (wpAny_loadPart hb ?_)
    rw [db]
    exact wpAny_pure z
  unfold excFromValue isExcClass
  refine wpAny_bind (wpAny_bind (nt ?_))
  simp only [Bool.false_eq_true, if_false]
  refine wpAny_pure ?_
  simp only [Bool.false_eq_true, if_false]
  refine wpAny_bind (L.here ?_)
  simp only [if_true]
  exact wpAny_pure q
theorem raise_made_from {env : Env} {x c : Sem Value} {Q : Flow → Shared → Prop} {x1 : Addr}
    (h : wpAny (model prog w) A x (fun v s₁ => ∃ a oe vs cls, v = .ref a ∧ s₁.heap.get? a = some oe ∧ oe.cls = cls ∧ oe.data = .fields vs ∧ vs[1]? = some .none ∧ 4 < vs.size ∧ x1 ≠ a ∧ HotAt A x1 s₁.heap ∧
      (∀ Q' : Value → Shared → Prop, Q' (.ref x1) s₁ → wpAny (model prog w) A c Q' E s₁) ∧ PySem.W.Looks (model prog w) s₁.heap (isInstance (.ref x1) (.type "BaseException")) true ∧
      PySem.W.Looks (model prog w) s₁.heap (isSubtype cls (.type "BaseException")) true ∧ PySem.W.Looks (model prog w) (fromAt s₁.heap a x1) (typeOf cls) (.type "type") ∧
      E (.ref a) { s₁ with heap := (fromAt s₁.heap a x1).update a (Obj.mapFields (·.setIfInBounds 2 (.ref x1))) }) E s) :
    wpAny (model prog w) A (raiseStmt env (some x) (some c)) Q E s := by
  unfold raiseStmt
  dsimp only
  refine wpAny_bind (wpAny_mono h (fun v s₁ h₁ => ?_) fun _ _ x => x)
  obtain ⟨a, oe, vs, cls, rfl, ha, hcls, hd, h1, hi, hne, hot, hc, LX, L1, L3, hE⟩ := h₁
  have LT : PySem.W.Looks (model prog w) s₁.heap (typeOf (.ref a)) cls := fun A Q E s k q => wpAny_typeOf_ref (k _ _ ha) (by rw [hcls]; exact q)
  have LI : PySem.W.Looks (model prog w) s₁.heap (isInstance (.ref a) (.type "BaseException")) true := LT.andThen L1
  obtain ⟨hh1, o1, vs1, g1, d1, c1⟩ := id hot
  have q3 := Obj.data_mapFields hd (·.setIfInBounds 3 (Value.ref x1))
  have g3 := Heap.get?_update_self (Obj.mapFields (·.setIfInBounds 3 (Value.ref x1))) ha (Obj.isFreed_of_fields q3)
  obtain ⟨ga, qa⟩ := fromAt_at (x1 := x1) ha hd
  have z3 : 3 < vs.size := by omega
  have z4 : 4 < (vs.setIfInBounds 3 (Value.ref x1)).size := by rw [set_size]; exact hi
  have z2 : 2 < ((vs.setIfInBounds 3 (Value.ref x1)).setIfInBounds 4 (Value.bool true)).size := by rw [set_size, set_size]; omega
  have f1 : ((vs.setIfInBounds 3 (Value.ref x1)).setIfInBounds 4 (Value.bool true))[1]? = some Value.none := set_other (by decide) (set_other (by decide) h1)
  have cA : ((oe.mapFields (·.setIfInBounds 3 (.ref x1))).mapFields (·.setIfInBounds 4 (.bool true))).cls = cls := by rw [Obj.cls_mapFields, Obj.cls_mapFields]; exact hcls
  have LA : PySem.W.Looks (model prog w) (fromAt s₁.heap a x1) (typeOf (.ref a)) cls := fun A Q E s k q => wpAny_typeOf_ref (k _ _ ga) (by rw [cA]; exact q)
  have ntA : ∀ {Q' : Bool → Shared → Prop}, Q' false { s₁ with heap := fromAt s₁.heap a x1 } → wpAny (model prog w) A (isType (.ref a)) Q' E { s₁ with heap := fromAt s₁.heap a x1 } := by
    intro Q' z
    simp only [isType, loadHead]
    refine wpAny_bind (wpAny_loadPart ga ?_)
    rw [qa]
    exact wpAny_pure z
  have hotA : HotAt A x1 (fromAt s₁.heap a x1) := ⟨hh1, o1, vs1, by rw [fromAt_other (Ne.symm hne)]; exact g1, d1, c1⟩
  have rest : wpAny (model prog w) A (do
      let b ← isType (.ref a)
      if b = true then do
        let e ← holding [.ref a] (raisedFor (.ref a) (.ref a))
        setFlight e none
        raiseNew e
      else do
        let e ← raisedInstance (.ref a)
        setFlight e none
        raiseNew e : Sem Flow) Q E { s₁ with heap := fromAt s₁.heap a x1 } := by
    refine wpAny_bind (ntA ?_)
    simp only [Bool.false_eq_true, if_false]
    unfold raisedInstance
    refine wpAny_bind (wpAny_bind (LA.here (wpAny_bind (L3.here ?_))))
    rw [if_pos (beq_self_eq_true _)]
    refine wpAny_pure ?_
    unfold setFlight
    refine wpAny_bind (wpAny_bind (wpAny_field ga qa f1 ?_))
    rw [if_neg (by decide)]
    refine wpAny_pure ?_
    exact raiseNew_hot hotA hne ga qa z2 hE
  refine wpAny_bind (wpAny_holding (hc _ (wpAny_bind (wpAny_pure ?_))))
  dsimp only
  refine wpAny_bind (wpAny_holding (efv ha hd LI ?_))
  have nn : ¬ ((Value.ref x1 == Value.none) = true) := by simp
  first
  | rw [if_neg nn]
  | (show wpAny _ _ (if (Value.ref x1 == Value.none) = true then _ else _) _ _ _; rw [if_neg nn])
  | simp only [nn, if_false]
  refine wpAny_bind (wpAny_holding (efv g1 d1 LX ?_))
  refine wpAny_bind (wpAny_setField ha hd z3 (wpAny_bind (wpAny_setField g3 q3 z4 ?_)))
  first
  | exact rest
  | (dsimp only; exact rest)
  | (refine wpAny_pure ?_; exact rest)
end
end HotX

namespace L2
open PySem PySem.Spec PyProof.Rows HotX
theorem ns_up {h h' : Heap} {L : Addr} {m : Str → Option Value} (n : h.Ns L m) (up : h.UpToSlots h') : h'.Ns L m := by
  obtain ⟨o, es, ep, ho, hd, r⟩ := n
  obtain ⟨sl, e⟩ := up L o ho (fun vs z => by rw [hd] at z; cases z)
  exact ⟨_, es, ep, e, hd, r⟩
section
variable {X : Cx} {pins : List (Addr × Obj)} {σ : St} {H : Hp} {s : Shared}
/-- a name goes from the frame's map -/
theorem Inv.unset {i : Nat} {n : Str} {m : Str → Option Value} {v : Option Value} {h' : Heap} {t' : Nat} (I : Inv X pins σ H s) (hN : X.N.Nodup) (hi : X.N[i]? = some n)
    (hlk : ∀ (j : Nat) (y : Str) (v : V), X.N[j]? = some y → σ[j]? = some (some v) → Vis X.env.scope y → ∃ u, RelV v u ∧ Look X.env s.heap m y u)
    (hoL : ∃ o, s.heap.get? X.env.locals = some o) (hn' : h'.Ns X.env.locals (fun x => if x = n then v else m x)) (hs : Heap.SameBut X.env.locals s.heap h') : Inv X pins (σ.set i none) H { s with heap := h', toks := t' } := by
  have neL : ∀ b o, X.s_0.heap.get? b = some o → b ≠ X.env.locals := fun b o e => Nat.ne_of_lt (Nat.lt_of_lt_of_le (Heap.lt_size e) I.ok.above)
  refine ⟨I.ok, I.os, I.bare, ⟨fun b o e n hb hx => ?_, fun b o e n hb hx => ?_, I.base.free, fun b o e hx => ?_, I.base.tups, I.base.frzs, I.base.tbls⟩, ⟨_, hn', fun j y v' e1 e2 e3 => ?_⟩, fun y c e => ?_, I.free, I.freeC, fun p hp => ?_, fun b ob e => ?_, by simpa using I.len⟩
  · exact (hs.2 b (neL b o e)).trans (I.base.keep b o e n hb hx)
  · obtain ⟨sl, e1⟩ := I.base.slot b o e n hb hx
    exact ⟨sl, (hs.2 b (neL b o e)).trans e1⟩
  · obtain ⟨o', e1⟩ := I.base.there b o e hx
    exact ⟨o', (hs.2 b (neL b o e)).trans e1⟩
  · by_cases hj : j = i
    · subst hj
      by_cases hlt : j < σ.length
      · rw [List.getElem?_set_self hlt] at e2; cases e2
      · rw [List.getElem?_eq_none (by simpa using hlt)] at e2; cases e2
    · rw [List.getElem?_set_ne (Ne.symm hj)] at e2
      obtain ⟨u', r', q⟩ := hlk j y v' e1 e2 e3
      refine ⟨u', r', ?_⟩
      rcases q with ⟨k, e⟩ | ⟨k, c, e, z⟩
      · have ny : y ≠ n := fun e => hj (nodup_ix hN e1 (e ▸ hi))
        exact .inl ⟨k, (if_neg ny).trans e⟩
      · exact .inr ⟨k, c, e, z.sameBut hs (I.cne y c e)⟩
  · obtain ⟨w', z⟩ := I.cell y c e
    exact ⟨w', z.sameBut hs (I.cne y c e)⟩
  · obtain ⟨e, n, ne, nf, d⟩ := I.pin p hp
    exact ⟨(hs.2 p.1 ne).trans e, n, ne, nf, d⟩
  · refine (I.hok b ob e).stay (fun c w' hc q => (hs.2 c ?_).trans q) (fun _ q => q) fun _ _ q => q
    intro z
    have fr := I.free
    rcases hc with hc | hc
    · rw [← z, hc, e] at fr; cases fr
    · rw [← z, hc] at fr; cases fr
/-- an exception leaves a suite whose name goes -/
theorem XE.unnamed {A : Around} {i : Nat} {n : Str} {pos : Pos} {W W' : WX} {u : Value} {s' : Shared} (hs : X.stack = X.env :: X.outer) (hf : X.env.frame = some X.env.locals) (hfr : A.frames = some (X.env :: X.outer)) (hN : X.N.Nodup) (hi : X.N[i]? = some n)
    (hln : X.env.kindOf n = some .local) (x : XE X W u s') (hW : ∀ cls d σ H, W cls d σ H → W' cls d (σ.set i none) H) (tk : Takes X W') :
    AsSuiteRaised (model X.prog X.w) A X.env n pos (notedBy (model X.prog X.w) A X.env (cameBackBy (model X.prog X.w) X.A X.env X.xe)) u s' := by
  obtain ⟨a, B, sI, pins, σ, H, cls, d, rfl, I, nb, up, sky, na, os, ag, w⟩ := x
  rw [hs] at sky
  have hcls : (X.env.scope.kind == .class || (X.env.scope.kind == .module && X.env.locals != X.env.globals)) = false := by rw [I.ok.kind]; rfl
  have land : ∀ {Q : Unit → Shared → Prop} {E : Value → Shared → Prop}, (∀ h1, HandSPX.HeldZ B (X.env :: X.outer) a (Zc cls d) X.env.locals h1 → s'.heap.UpToSlots h1 → Q () { s' with heap := h1 }) → wpAny (model X.prog X.w) A (noteFrame (.ref a) X.env) Q E s' := by
    intro Q E fin
    rcases sky with ⟨hB, hn, hl, oe, vs, he, hz, hd, h1⟩ | fl | hh
    · exact HandSPX.look_newZ Zc.steady hfr hl hf he hB hn hd h1 hz fin
    · exact HandSPX.looks_onZ Zc.steady hfr hf fl fin
    · exact HandSPX.againZ hf hh.2.2.2 (fin s'.heap hh (Heap.UpToSlots.refl _))
  refine land fun h1 hh up1 => ?_
  have up01 := up.trans up1
  obtain ⟨m, hn, hlk⟩ := id I.loc
  have hn1 := ns_up hn up01
  refine wpAny_nameGoes_keeps (s := { s' with heap := h1 }) hln hn1 hcls fun h' v hn' hsb => ?_
  obtain ⟨oL', esL, epL, hoL', hdL', rL⟩ := id hn'
  obtain ⟨oL, _, _, hoL, hdL, _⟩ := id hn
  obtain ⟨o1, _, _, ho1, hd1, _⟩ := id hn1
  have frz : oL'.isFreed = false := by
    cases hfz : oL'.isFreed with
    | false => rfl
    | true => exact absurd (Heap.get?_some_iff.mp hoL').2 (by rw [hfz]; decide)
  obtain ⟨G, eG⟩ : ∃ G : Heap, G = sI.heap.update X.env.locals (fun _ => oL') := ⟨_, rfl⟩
  have gL : G.get? X.env.locals = some oL' := by rw [eG]; exact Heap.get?_update_self (fun _ => oL') hoL frz
  have gO : ∀ b, b ≠ X.env.locals → G.get? b = sI.heap.get? b := fun b hb => by rw [eG]; exact Heap.get?_update_other _ _ (Ne.symm hb)
  have hsG : Heap.SameBut X.env.locals sI.heap G := by rw [eG]; exact Heap.SameBut.update _ _ _
  have hnG : G.Ns X.env.locals (fun x => if x = n then v else m x) := ⟨oL', esL, epL, gL, hdL', rL⟩
  have J := I.unset (t' := sI.toks) hN hi hlk ⟨_, hoL⟩ hnG hsG
  have upG : G.UpToSlots h' := fun b o e hnf => by
    by_cases hb : b = X.env.locals
    · subst hb
      rw [gL] at e
      cases e
      exact ⟨oL'.slots, hoL'⟩
    · rw [gO b hb] at e
      obtain ⟨sl, q⟩ := up01 b o e hnf
      exact ⟨sl, (hsb.2 b hb).trans q⟩
  obtain ⟨k1, k2, k3, oe, vs, T, oT, ts, he, hz, hd, hv1, hnT, hTe, hT, hdT, h3⟩ := hh
  have mL : X.env.locals ∈ frs (X.env :: X.outer) := List.mem_filterMap.mpr ⟨X.env, List.mem_cons_self, hf⟩
  have BL : B.get? X.env.locals = none := (k3.mem mL).1
  have neRec : ∀ {b : Addr} {o : Obj} {us : Array Value}, h1.get? b = some o → o.data = .fields us → b ≠ X.env.locals := fun {b o us} e dd z => by
    rw [z, ho1] at e
    cases e
    rw [hd1] at dd
    cases dd
  have aL := neRec he hd
  have TL := neRec hT hdT
  have ff : h'.FunFrames B (X.env :: X.outer) := by
    have q := J.stack
    rw [hs] at q
    exact funFrames_none (q.of_keeps fun b o e hnf => let ⟨sl, z⟩ := upG b o e hnf; ⟨_, z, rfl⟩) fun b hb => (k3.mem hb).1
  have kB : B.StaysIn h' := fun b o e => (hsb.2 b (fun z => by rw [z, BL] at e; cases e)).trans (k1 b o e)
  have he' := (hsb.2 a aL).trans he
  have tr : HandSPX.TracedZ h' B a (Zc cls d) (rawInt X.env.locals) := ⟨oe, vs, T, oT, ts, he', hz, hd, hv1, hnT, hTe, (hsb.2 T TL).trans hT, hdT, h3⟩
  have nbG : ∀ b o, G.get? b = some o → b ∉ frs X.stack → B.get? b = some o := fun b o e hb => by
    have nz : b ≠ X.env.locals := fun z => hb (by rw [hs, z]; exact mL)
    rw [gO b nz] at e
    exact nb b o e hb
  have nT : ∀ {T : Addr}, ¬ ((Value.ref T == Value.none) = true) := by simp
  -- what comes back to the frame
  have back : ∀ (h4 : Heap) (t4 : Nat), B.StaysIn h4 → h4.FunFrames B (X.env :: X.outer) → HandSPX.TracedZ h4 B a (Zc cls d) (rawInt X.env.locals) → h'.UpToSlots h4 →
      notedBy (model X.prog X.w) A X.env (cameBackBy (model X.prog X.w) X.A X.env X.xe) (.ref a) { s' with heap := h4, toks := t4 } := fun h4 t4 q1 q2 q3 q4 => by
    refine HandSPX.againZ hf q3 ?_
    obtain ⟨oe4, vs4, T4, oT4, ts4, he4, hz4, hd4, hv4, _⟩ := id q3
    show wpAny (model X.prog X.w) X.A (do
      if (← field (.ref a) 1) == .none then unsupported "frame.own-activation:exception-without-traceback"
      setFlight (.ref a) X.env.frame) (fun _ s'' => X.xe (.ref a) s'') X.xe _
    refine wpAny_bind (wpAny_field he4 hd4 hv4 ?_)
    rw [if_neg nT]
    have fin : wpAny (model X.prog X.w) X.A (setFlight (.ref a) X.env.frame) (fun _ s'' => X.xe (.ref a) s'') X.xe { s' with heap := h4, toks := t4 } := by
      rw [hf]
      refine HandSPX.setFlight_anyZ (fr := some X.env.locals) q1 q2 q3 fun h5 p1 p2 p3 p4 => tk _ _ ?_
      exact ⟨a, B, { sI with heap := G, toks := sI.toks }, pins, σ.set i none, H, cls, d, rfl, J, nbG, (upG.trans q4).trans p4, .inr (.inr (by rw [hs]; exact ⟨p1, k2, p2, p3⟩)), na, os, ag, hW _ _ _ _ w⟩
    first
      | exact fin
      | exact wpAny_bind (wpAny_pure fin)
  unfold PySem.passOn
  refine wpAny_bind (wpAny_field he' hd hv1 ?_)
  rw [if_neg nT]
  have fin : wpAny (model X.prog X.w) A (setFlight (.ref a) X.env.frame) (fun _ s4 => wpAny (model X.prog X.w) A (throw (.ref a) : Sem Flow) (fun _ _ => False) (notedBy (model X.prog X.w) A X.env (cameBackBy (model X.prog X.w) X.A X.env X.xe)) s4) (notedBy (model X.prog X.w) A X.env (cameBackBy (model X.prog X.w) X.A X.env X.xe)) { s' with heap := h', toks := s'.toks + 1 } := by
    rw [hf]
    exact HandSPX.setFlight_anyZ (fr := some X.env.locals) kB ff tr fun h4 q1 q2 q3 q4 => wpAny_throw (back h4 _ q1 q2 q3 q4)
  first
    | exact wpAny_bind fin
    | exact wpAny_bind (wpAny_pure (wpAny_bind fin))
end
/-- what is wished of an exception of the body -/
def wFrom (K : PySem.W.Frag) (c : Value) (i : Nat) (tmk : St → Hp → XK → Prop) (Wout : WX) : WX := fun cls d σ H => ∃ b, PySem.W.exmOne K cls c = some b ∧
  (b = true → PySem.W.subIn K cls (.type "BaseException") = some true ∧ ∀ a : Addr, H a = none → tmk (σ.set i (some (.ref a))) H fun cls' d' H' => Wout cls' d' (σ.set i none) H') ∧ (b = false → Wout cls d σ H)
def tTryF (K : PySem.W.Frag) (c : Value) (i : Nat) (tmk : St → Hp → XK → Prop) (Wout : WX) (tb : WX → TS) : TS := fun D σ H => tb (wFrom K c i tmk Wout) D σ H
theorem ps_try_from {X : Cx} {body : List Stmt} {x n : Str} {c : Value} {i : Nat} {e : Expr} {tmk : St → Hp → XK → Prop} {tb : WX → TS} {Wout : WX} {np p2 rp pos' pos : Pos} (hs : X.stack = X.env :: X.outer) (hf : X.env.frame = some X.env.locals) (hN : X.N.Nodup) (tk : Takes X Wout)
    (hi : X.N[i]? = some n) (hln : X.env.kindOf n = some .local) (hc : Names X x c) (hnd : (n == ("__debug__" : Str)) = false)
    (hb : ∀ (W : WX) (pn : List (Addr × Obj)) (xe : Value → Shared → Prop), L2N.Takes (X.tr pn xe) W → PassesOwn (model X.prog X.w) X.A X.env xe → PSs (X.tr pn xe) body (tb W))
    (hmk : ∀ (a : Addr) (pn : List (Addr × Obj)), PMkF (X.suite a pn) e tmk) :
    PS X (.Try body [.ExceptHandler (some (.Name x np)) (some n) [.Raise (some e) (some (.Name n p2)) rp] pos'] [] [] pos) (tTryF X.K c i tmk Wout tb) := by
  constructor
  intro pins s σ H D I h
  have ok := I.ok
  have hfr : X.A.frames = some (X.env :: X.outer) := by rw [ok.frames, hs]
  refine wpAny_Try_except (wpAny_mono ((hb (wFrom X.K c i tmk Wout) (X.pn ++ pins) _ ?_ PassesOwn.looking).run [] s σ H D (I.toTry _) h) (fun f s1 z => ?_) fun _ _ z => z)
  · rintro u s' ⟨a, B, sI, pins', σ', H', cls, d, rfl, J', nb, up, sky, na, os, ag, b, hb1, hyes, hno⟩
    have J : Inv X pins σ' H' sI := J'.ofTry ok
    have sky' : Sky B (X.env :: X.outer) a (L2N.Zn cls d) X.env.locals s'.heap := by
      rw [← hs]
      exact sky
    show wpAny (model X.prog X.w) X.A (noteFrame (.ref a) X.env) _ _ _
    refine L2N.Sky.land L2N.Zn.steady hfr hf sky' fun h3 fl3 up3 => ?_
    have g : Got X pins σ' H' B sI { s' with heap := h3 } a cls d := ⟨J, nb, L2H.flyingZ_imp (fun o z => z.zc) fl3, up.trans up3, na, os, ag⟩
    refine wpAny_handleBy_cons (codeAny_handlers_test (g.asked hf hc hb1 ?_)) (by intro q; cases q)
    cases b with
    | false => exact g.passes hs hf tk (hno rfl)
    | true =>
      obtain ⟨sub, yes⟩ := hyes rfl
      refine codeAny_handlers_suite_as ?_
      refine HandSPX.lands_againZ fl3 fun h4 fl4 up4 => ?_
      have J4 : Inv X pins σ' H' { s' with heap := h4 } := J.landed nb fl4.1 ((up.trans up3).trans up4) os ag
      obtain ⟨oe4, vs4, he4, hz4, hd4⟩ := fl4.there
      obtain ⟨nL, nF⟩ := g.apart hf
      have S4 := J4.suite he4 hd4 na nL nF
      refine store_ok (X := X.suite a ((a, oe4) :: (X.pn ++ pins))) (v := .ref a) S4 hN hi (.inl hln) rfl (fun s5 S5 => ?_) (.inr hln)
      have hiσ : i < σ'.length := by rw [J.len]; exact (List.getElem?_eq_some_iff.mp hi).1
      refine wpAny_execs_cons ?_
      show wpAny _ _ (do standAt rp; raiseStmt X.env (some (do let v ← eval e X.env; standAt rp; pure v)) (some (do let v ← eval (.Name n p2) X.env; standAt rp; pure v))) _ _ _
      refine wpAny_bind (wpAny_standAt (raise_made_from (x1 := a) (wpAny_bind (wpAny_mono (hmk a ((a, oe4) :: (X.pn ++ pins)) [] s5 _ H' _ S5 (yes a na)) (fun u s6 hu => wpAny_bind (wpAny_standAt (wpAny_pure ?_))) fun _ _ z => z.elim))))
      obtain ⟨eb, t1, sI6, H6, cls6, d6, rfl, J6, k6, hne, hb6, na6, os6, ag6, r6, q6⟩ := hu
      have P := J6.pin (a, oe4) (List.mem_append_left _ List.mem_cons_self)
      have ga : s6.heap.get? a = some oe4 := k6 _ _ P.1
      have nab : a ≠ eb := fun z => by
        have p1 : sI6.heap.get? a = some oe4 := P.1
        rw [z, hne] at p1
        cases p1
      obtain ⟨gb, qb⟩ := fromAt_at (x1 := a) hb6 rfl
      have K6 : X.K.In s6.heap := J6.kIn.keeps k6
      have kA : ∀ b o, sI6.heap.get? b = some o → (fromAt s6.heap eb a).get? b = some o := fun b o z => by
        have nz : eb ≠ b := fun y => by
          rw [← y, hne] at z
          cases z
        rw [fromAt_other nz]
        exact k6 b o z
      have LT : PySem.W.Looks (model X.prog X.w) s6.heap (typeOf (.ref a)) cls := fun A Q E s k q => wpAny_typeOf_ref (k _ _ ga) (by rw [hz4.1]; exact q)
      refine ⟨eb, _, _, cls6, rfl, hb6, rfl, rfl, rfl, (by show (4 : Nat) < 6; decide), nab, ⟨rfl, oe4, vs4, ga, hd4, hz4.2.2 vs4 hd4⟩, fun Q' q' => ?_, LT.andThen (PySem.W.looks_subIn K6 sub), (r6 _ _ K6).1, (r6 _ _ (J6.kIn.keeps kA)).2, ?_⟩
      · obtain ⟨m6, hn6, hlk6⟩ := J6.loc
        obtain ⟨u', r', lk⟩ := hlk6 i n (.ref a) hi (by rw [List.getElem?_set_self hiσ]) (.inl hln)
        cases r'
        rcases lk with ⟨_, e6⟩ | ⟨kk, _⟩
        · exact wpAny_bind (Rz.ldX (hn6.keeps k6) e6 (wpAny_bind (wpAny_standAt (wpAny_pure q'))) ok.kind hln hnd)
        · rcases kk with kk | kk
          · have kk' : X.env.kindOf n = some .cell := kk
            rw [hln] at kk'
            cases kk'
          · have kk' : X.env.kindOf n = some .free := kk
            rw [hln] at kk'
            cases kk'
      · have e7 := Heap.get?_update_self (Obj.mapFields (·.setIfInBounds 2 (Value.ref a))) gb (Obj.isFreed_of_fields (Obj.data_mapFields qb _))
        refine XE.unnamed (i := i) (W := fun cls' d' σ7 H7 => σ7 = σ'.set i (some (.ref a)) ∧ Wout cls' d' (σ'.set i none) H7) hs hf hfr hN hi hln ?_ (fun cls' d' σ7 H7 z => ?_) tk
        · refine XE.new (s' := { s6 with heap := (fromAt s6.heap eb a).update eb (Obj.mapFields (·.setIfInBounds 2 (.ref a))) }) (J6.unsuite ok) (fun b o z => ?_) hne e7 ⟨by rw [Obj.cls_mapFields, Obj.cls_mapFields, Obj.cls_mapFields], by rw [HandSPX.dict_mapFields, HandSPX.dict_mapFields, HandSPX.dict_mapFields]⟩ (Obj.data_mapFields qb _) (set_other (by decide) (set_other (by decide) (set_other (by decide) rfl))) na6 os6 ag6 ⟨rfl, q6⟩
          have nz : eb ≠ b := fun y => by
            rw [← y, hne] at z
            cases z
          show ((fromAt s6.heap eb a).update eb (Obj.mapFields (·.setIfInBounds 2 (.ref a)))).get? b = some o
          rw [Heap.get?_update_other _ _ nz]
          exact kA b o z
        · obtain ⟨e7, z⟩ := z
          rw [e7, List.set_set]
          exact z
  · have z' := z.ofTry ok
    cases f with
    | next => exact wpAny_execs_nil z'
    | brk => exact z'
    | cont => exact z'
    | ret u => exact z'
/-- promises over L2N.CX, passed on where any exception is taken -/
theorem Takes.toN {X : Cx} {W : WX} (t : Takes X W) : L2N.Takes X W := fun u s' ⟨a, B, sI, pins, σ, H, cls, d, e, I, nb, up, sky, na, os, ag, w⟩ =>
  t u s' ⟨a, B, sI, pins, σ, H, cls, d, e, I, nb, up, by
    rcases sky with ⟨hB, hn, hl, oe, vs, he, hz, r⟩ | fl | ⟨q1, q2, q3, q4⟩
    · exact .inl ⟨hB, hn, hl, oe, vs, he, hz.zc, r⟩
    · exact .inr (.inl (L2H.flyingZ_imp (fun o z => z.zc) fl))
    · exact .inr (.inr ⟨q1, q2, q3, L2H.tracedZ_imp (fun o z => z.zc) q4⟩), na, os, ag, w⟩
theorem passN {X : Cx} {W : WX} (tk : Takes X W) (σ : St) : PassesAt (L2N.CX X.prog X.w) X σ (WE W σ) := L2N.passAt tk.toN σ
end L2
namespace L2
open PySem PySem.Spec PyProof.Rows
theorem ps_raiseN {X : Cx} {W : WX} {e : Expr} {t : St → Hp → XK → Prop} {pos : Pos} (hc : X.calm = true) (tk : L2N.Takes X W) (he : PMkF X e t) : PS X (.Raise (some e) none pos) (tRaise t W) := L2N.ps_raise hc tk he.n
theorem passE0N {X : Cx} (σ : St) : PassesAt (L2N.CX X.prog X.w) X σ E0 := fun _ _ _ _ _ _ h => by
  obtain ⟨_, _, _, _, _, _, _, _, _, _, _, _, z⟩ := h
  exact z.elim
theorem passLN {X : Cx} : Passes (L2N.CX X.prog X.w) X E0 := fun _ _ _ _ _ _ _ h => by
  obtain ⟨_, _, _, _, _, _, _, _, _, _, _, _, z⟩ := h
  exact z.elim
theorem shut_CXN {P : Program} {w : World} : Shut (L2N.CX P w) := fun _ _ _ _ _ ⟨_, _, _, _, _, _, _, _, _, _, _, _, z⟩ => z
end L2

/-! text.encode(), data.decode("ascii"), replace and find of written texts. -/
namespace Rz
open PySem PySem.W PySem.Calls PyProof.Rows Builtin
section
variable {b : Array UInt8} {c : UInt8} {cs : List UInt8} {t t1 : Tok} {x : PySem.Str} {n : Nat}
theorem ascii_at {p : Nat} (h : (b.getD p 0).toNat < 128) : _codecs.asciiDecoder.find true b p = .text [(b.getD p 0).toNat] (p + 1) := by
  show (if (b.getD p 0).toNat < 128 then _codecs.Found.char (b.getD p 0).toNat (p + 1) else _) = _
  rw [if_pos h]
  rfl
theorem ascii_run (low : ∀ p, p < b.size → (b.getD p 0).toNat < 128) (hz : b.size ≤ 16777216) (id : String) : _codecs.runDecoder id _codecs.asciiDecoder none true b 0 [] = pure ((b.toList.map UInt8.toNat).toArray, b.size) := by
  have small : ∀ p, ¬ ((KBdo.out b p).size > sizeLine) := fun p => by
    have q := KBdo.out_size b p
    rw [sizeLine_eq]
    omega
  unfold _codecs.runDecoder
  refine (KBdo.loop_bind (mk := fun p => ((p, KBdo.out b p, ({} : _codecs.Faults)) : Nat × Array Nat × _codecs.Faults)) (n := b.size) (fun y p hp => ?_)).trans ?_
  · simp only [if_neg (small p), if_neg (Nat.not_le.mpr hp), ascii_at (low p hp), KBdo.out_next hp]
  · show pure (KBdo.out b b.size, b.size) = _
    rw [KBdo.out_whole]
theorem ascii_road {id : String} : _codecs.decodeRoad id b (PySem.Str.ofString "ascii") none [] = (_codecs.runDecoder id _codecs.asciiDecoder none true b 0 [] >>= fun r => mkStr ⟨r.1⟩) := by kernel_rfl
theorem ascii_text {t2 : Tok} {d : PySem.Str} (hd : ∀ id, _codecs.runDecoder id _codecs.asciiDecoder none true b 0 [] = pure (x.cps, n)) :
    Meets («_codecs.decode.text» ⟨[.bytes b t, .str (PySem.Str.ofString "ascii") t1, .none, .str d t2], []⟩) (fun _ R s => x.length ≤ sizeLine ∧ R (.ok (.ret (.str x s.toks))) { s with toks := s.toks + 1 }) := by
  refine .of_wp fun prog w A R s q => ?_
  show wpAny _ _ (Bytes.bytesLike _ (.bytes b t) >>= fun r => _) _ _ s
  refine wpAny_bind (wpAny_of_eq KBd.like_eq (wpAny_bind (wpAny_of_eq KBd.held_eq ?_)))
  show wpAny _ _ (_codecs.decodeRoad _ b (PySem.Str.ofString "ascii") none [] >>= fun v => _) _ _ s
  rw [ascii_road, hd]
  exact wpAny_bind (wpAny_bind (wpAny_pure (wpAny_mkStr (wpAny_pure ⟨_, rfl, q.2⟩) q.1)))
theorem ascii_entry : «bytes.decode» ⟨[.bytes (c :: cs).toArray t, .str (PySem.Str.ofString "ascii") t1], []⟩ = (mkStr (PySem.Str.ofString "utf-8") >>= fun _ => mkStr (PySem.Str.ofString "ascii") >>= fun e => mkStr (PySem.Str.ofString "bytes.decode") >>= fun d =>
    call (.builtin "_codecs.decode.text") [.bytes (c :: cs).toArray t, e, .none, d] >>= fun v => ret v) := by kernel_rfl
theorem ascii_none : «bytes.decode» ⟨[.bytes #[] t, .str (PySem.Str.ofString "ascii") t1], []⟩ = (rule "bytes.decode.empty" >>= fun _ => mkStr PySem.Str.empty >>= fun v => ret v) := by kernel_rfl
theorem ascii_args (a d : Value) : argsOk "bytes.decode" ⟨[a, d], []⟩ := by
  unfold argsOk; rw [signature?_of (id := "bytes.decode") (n := ['e', 'd', 'o', 'c', 'e', 'd']) (o := ['s', 'e', 't', 'y', 'b']) (by kernel_rfl) FB.owner_bytes]; kernel_rfl
end
/-- the text of bytes -/
def txtOf (b : Array UInt8) : PySem.Str := ⟨(b.toList.map UInt8.toNat).toArray⟩
theorem txtOf_len (b : Array UInt8) : (txtOf b).length = b.size := by
  show (b.toList.map UInt8.toNat).toArray.size = b.size
  simp
theorem txtOf_enc {x : PySem.Str} (h : KSb.Asc x) : txtOf (KSb.enc x) = x := by
  obtain ⟨l⟩ := x
  show (⟨((l.toList.map Nat.toUInt8).toArray.toList.map UInt8.toNat).toArray⟩ : PySem.Str) = ⟨l⟩
  congr 1
  apply Array.toList_inj.mp
  rw [List.map_map]
  refine (List.map_congr_left fun c hc => ?_).trans (List.map_id _)
  have q := h c hc
  show c % 256 = c
  omega
section
variable {prog : Program} {w : World} {A : Around} {E : Value → Shared → Prop} {s : Shared} {b : Array UInt8} {t t1 : Tok}
theorem ascii_call {Q : Value → Shared → Prop} (low : ∀ p, p < b.size → (b.getD p 0).toNat < 128) (hz : b.size ≤ 16777216) (h : ∀ t' k, Q (.str (txtOf b) t') { s with toks := k }) :
    wpAny (model prog w) A (call (.builtin "bytes.decode") [.bytes b t, .str (PySem.Str.ofString "ascii") t1]) Q E s := by
  have run := ascii_run low hz
  have len := txtOf_len b
  obtain ⟨l⟩ := b
  refine call_meets (S := fun _ R s => ∀ t' k, R (.ok (.ret (.str (txtOf ⟨l⟩) t'))) { s with toks := k }) FB.slot_bytes_decode (typeIs_bytes _ _ _) FB.entry_bytes_decode (ascii_args _ _) ?_ h
  refine .of_wp fun prog w A R s q => ?_
  cases l with
  | nil =>
    rw [ascii_none]
    exact wpAny_bind (wpAny_rule (wpAny_bind (wpAny_mkStr (wpAny_pure ⟨_, rfl, q _ _⟩) (by decide))))
  | cons c r =>
    rw [ascii_entry]
    refine wpAny_bind (wpAny_mkStr (wpAny_bind (wpAny_mkStr (wpAny_bind (wpAny_mkStr ?_ (by decide))) (by decide))) (by decide))
    exact wpAny_bind (call_function_meets KBd.kind_text KBd.plain_text KBd.entry_text (KBd.args_text _ _ _ _) (ascii_text (x := txtOf (List.toArray (c :: r))) (n := (List.toArray (c :: r)).size) run) ⟨by rw [len, sizeLine_eq]; exact hz, wpAny_pure ⟨_, rfl, q _ _⟩⟩)
end
end Rz

namespace L2
open PySem PySem.Spec PyProof.Rows
section
variable {X : Cx} {o e : Expr} {es : List Expr} {to : TE} {t : TA} {apos cpos : Pos}
def rDec : V → List V → Hp → VK → Prop := fun x xs H Q => ∃ b : Array UInt8, x = .byt b ∧ xs = [.str (PySem.Str.ofString "ascii")] ∧ (∀ p, p < b.size → (b.getD p 0).toNat < 128) ∧ b.size ≤ 16777216 ∧ Q (.str (Rz.txtOf b)) H
theorem mt_dec : MtR X "bytes.decode" rDec := by
  intro pins s σ H x xs v us Q I rx rs h
  obtain ⟨b, rfl, rfl, low, hz, q⟩ := h
  obtain ⟨t, rfl⟩ := rx
  cases rs with
  | cons r1 rn =>
    cases rn
    obtain ⟨t2, rfl⟩ := r1
    exact Rz.ascii_call low hz fun t' k => ⟨.str (Rz.txtOf b), H, I.tok k, ⟨_, rfl⟩, q⟩
def rEnc : V → List V → Hp → VK → Prop := fun x xs H Q => ∃ a : Str, x = .str a ∧ xs = [] ∧ PySem.W.KSb.Asc a ∧ a.length ≤ 16777216 ∧ Q (.byt (PySem.W.KSb.enc a)) H
theorem mt_enc : MtR X "str.encode" rEnc := by
  intro pins s σ H x xs v us Q I rx rs h
  obtain ⟨a, rfl, rfl, ha, hz, q⟩ := h
  obtain ⟨t, rfl⟩ := rx
  cases rs
  refine PySem.W.KSb.encode_K ha hz fun c t' k e _ _ => ?_
  have z : c = PySem.W.KSb.enc a := bi_inj (e.trans (PySem.W.KSb.enc_ints ha).symm)
  subst z
  exact ⟨.byt _, H, I.tok k, ⟨_, rfl⟩, q⟩
/-- a method of bytes -/
def tBMB (r : V → List V → Hp → VK → Prop) (to : TE) (t : TA) : TE := fun σ H Q => to σ H fun x H1 => (∃ b, x = .byt b) ∧ t σ H1 fun xs H2 => r x xs H2 Q
theorem pe_bmB {name : Str} {id : String} {r : V → List V → Hp → VK → Prop} (slot : Slot "bytes" name id) (hty : typeOf (.builtin id) = pure (.type "method_descriptor")) (hm : MtR X id r) (ho : PE X o to) (ha : PA X (e :: es) t)
    (hbase : attributeBase o name X.env (eval o X.env) = eval o X.env := by rfl)
    (hfew : ((backTo cpos (starEach (e :: es) X.env)).all (fun x => !x.1) && (backToKw cpos (keywordEach [] X.env)).all (fun x => x.1.isSome)
      && decide ((e :: es).length + ([] : List Keyword).length + (if ([] : List Keyword).isEmpty then 0 else 1) < 30)) = true := by rfl)
    (hline : (apos.endLine == cpos.line) = true := by rfl) (hs : starEach (e :: es) X.env = (false, eval e X.env) :: starEach es X.env := by rfl) (hplain : (backTo cpos (starEach es X.env)).any (·.1) = false := by rfl) :
    PE X (.Call (.Attribute o name apos) (e :: es) [] cpos) (tBMB r to t) := by
  refine ⟨fun pins s σ H Q I h => ?_⟩
  refine wpAny_Call_method_late hbase hfew hline rfl (thn (ho.run pins s σ H _ I h) fun v s1 ⟨x, H1, I1, r1, ⟨b, eb⟩, q1⟩ => ?_)
  subst eb
  obtain ⟨tk, rfl⟩ := r1
  refine ⟨"bytes", id, PySem.W.FB.plainAttrs_bytes, slot, hty, PySem.W.typeIs_bytes _ _ _, (fun _ z => nomatch z), ?_⟩
  have hA := ha.run cpos pins s1 σ H1 _ I1 q1
  rw [hs] at hA ⊢
  refine Calls.callWith_builtin (by show (false || (backTo cpos (starEach es X.env)).any (·.1)) = false; rw [hplain] <;> rfl) (Calls.evalArgs_plain ?_)
  exact thn hA fun us s2 ⟨vs, H2, I2, r2, q2⟩ => hm pins s2 σ H2 (.byt b) vs _ us Q I2 ⟨tk, rfl⟩ r2 q2
/-- a written text stands ahead: behind it a token is out -/
theorem pa_strT {c : Str} {j : Nat} {p : Pos} {es : List Expr} {ta : TA} (hr : PAT X es ta) (hs : starEach (.Constant (.str c) j p :: es) X.env = (false, eval (.Constant (.str c) j p) X.env) :: starEach es X.env := by rfl) :
    PA X (.Constant (.str c) j p :: es) (tCons (tC (.str c)) ta) := by
  constructor
  intro pos pins s σ H Q I h
  rw [hs]
  show wpAny _ _ (spliced ((false, eval (.Constant (.str c) j p) X.env) :: backTo pos (starEach es X.env))) _ _ s
  refine Calls.spliced_cons (Calls.Constant_str ?_)
  have q := hr pos pins { s with toks := s.toks + 1 } σ H _ (Nat.le_add_left 1 s.toks) (I.tok (s.toks + 1)) h
  exact thn q fun us s2 ⟨vs, H2, I2, r2, q2⟩ => ⟨.str c :: vs, H2, I2, .cons ⟨_, rfl⟩ r2, q2⟩
theorem pat_of {es : List Expr} {ta : TA} (h : PA X es ta) : PAT X es ta := fun pos pins s σ H Q _ I q => h.run pos pins s σ H Q I q
def rFind : V → List V → Hp → VK → Prop := fun x xs H Q => ∃ a b, x = .str a ∧ xs = [.str b] ∧ Q (.int (Txt.find a b)) H
theorem mt_findA : MtR X "str.find" rFind := mt_find
def rOrd : RC := fun xs H Q => ∃ x : Str, xs = [.str x] ∧ x.length = 1 ∧ Q (.int (x.cps.getD 0 0 : Nat)) H
theorem c_ord : CallR X (.builtin "ord") rOrd := call_ord
end
end L2

namespace Lw
open PySem PySem.Spec PyProof.Rows L2
def top (i : Nat) : Stmt := PySem.Challenge.pw_risensigns_k10_book_read.main.body.getD i (.Pass ⟨0, 0, 0, 0⟩)
abbrev PROG : Program := PySem.Challenge.pw_risensigns_k10_book_read
abbrev s_law_pool : Stmt := top 28
abbrev s_law_pick : Stmt := top 29
abbrev s_law_alphabet : Stmt := top 30
abbrev s_law_word_of : Stmt := top 31
abbrev s_law_odd_sign : Stmt := top 33
abbrev s_law_change : Stmt := top 40
abbrev s_law_first_odd : Stmt := top 34
abbrev s_law_is_text : Stmt := top 35
abbrev s_law_due_of : Stmt := top 36
abbrev s_as_string : Stmt := top 17
abbrev s_check_text : Stmt := top 18
abbrev s_Rule_init : Stmt := inClass (top 25) 0
abbrev s_Book_add : Stmt := inClass (top 26) 7
abbrev s_Book_init : Stmt := inClass (top 26) 0
abbrev s_Book_read : Stmt := inClass (top 26) 1
abbrev s_law_try_make : Stmt := top 37
abbrev s_law_is_int : Stmt := top 32
abbrev s_Book_iter : Stmt := inClass (top 26) 3
abbrev s_Rule_str : Stmt := inClass (top 25) 1
abbrev s_Book_written : Stmt := inClass (top 26) 9
abbrev s_law_same : Stmt := top 38
abbrev s_Book_data : Stmt := inClass (top 26) 10
abbrev s_Row_len : Stmt := inClass (top 20) 3
abbrev s_Row_init : Stmt := inClass (top 20) 0
abbrev s_law_first_bad : Stmt := top 39
abbrev s_law : Stmt := top 41
abbrev s_BadLine_init : Stmt := inClass (top 10) 0
abbrev s_BadSign_init : Stmt := inClass (top 3) 0
abbrev s_BadRule_init : Stmt := inClass (top 7) 0
abbrev s_BookFull_init : Stmt := inClass (top 8) 0
abbrev s_Uneven_init : Stmt := inClass (top 4) 0
abbrev s_BadHeight_init : Stmt := inClass (top 5) 0
structure Txt (P : Program) (K : Frg) (mg : Str → Option Value) : Prop where
  f_abs : mg "abs" = none
  f_int : mg "int" = none
  f_range : mg "range" = none
  F_law_pool : ∃ fd, FunD K "_law_pool" "_law_pool" (defArgs s_law_pool) (defBody s_law_pool) (defScope s_law_pool) [] [] (Rz.pG "_law_pool" K) fd
  g__law_pool : mg "_law_pool" = some (.ref (He.ga K "_law_pool"))
  F_law_pick : ∃ fd, FunD K "_law_pick" "_law_pick" (defArgs s_law_pick) (defBody s_law_pick) (defScope s_law_pick) [] [] (Rz.pG "_law_pick" K) fd
  f_len : mg "len" = none
  g__law_pick : mg "_law_pick" = some (.ref (He.ga K "_law_pick"))
  F_law_alphabet : ∃ fd, FunD K "_law_alphabet" "_law_alphabet" (defArgs s_law_alphabet) (defBody s_law_alphabet) (defScope s_law_alphabet) [] [] (Rz.pG "_law_alphabet" K) fd
  g__law_alphabet : mg "_law_alphabet" = some (.ref (He.ga K "_law_alphabet"))
  F_law_word_of : ∃ fd, FunD K "_law_word_of" "_law_word_of" (defArgs s_law_word_of) (defBody s_law_word_of) (defScope s_law_word_of) [] [] (Rz.pG "_law_word_of" K) fd
  g__law_word_of : mg "_law_word_of" = some (.ref (He.ga K "_law_word_of"))
  F_law_odd_sign : ∃ fd, FunD K "_law_odd_sign" "_law_odd_sign" (defArgs s_law_odd_sign) (defBody s_law_odd_sign) (defScope s_law_odd_sign) [] [] (Rz.pG "_law_odd_sign" K) fd
  g__law_odd_sign : mg "_law_odd_sign" = some (.ref (He.ga K "_law_odd_sign"))
  F_law_change : ∃ fd, FunD K "_law_change" "_law_change" (defArgs s_law_change) (defBody s_law_change) (defScope s_law_change) [] [] (Rz.pG "_law_change" K) fd
  g__law_change : mg "_law_change" = some (.ref (He.ga K "_law_change"))
  F_law_first_odd : ∃ fd, FunD K "_law_first_odd" "_law_first_odd" (defArgs s_law_first_odd) (defBody s_law_first_odd) (defScope s_law_first_odd) [] [] (Rz.pG "_law_first_odd" K) fd
  g__law_first_odd : mg "_law_first_odd" = some (.ref (He.ga K "_law_first_odd"))
  F_law_is_text : ∃ fd, FunD K "_law_is_text" "_law_is_text" (defArgs s_law_is_text) (defBody s_law_is_text) (defScope s_law_is_text) [] [] (Rz.pG "_law_is_text" K) fd
  g__law_is_text : mg "_law_is_text" = some (.ref (He.ga K "_law_is_text"))
  F_law_due_of : ∃ fd, FunD K "_law_due_of" "_law_due_of" (defArgs s_law_due_of) (defBody s_law_due_of) (defScope s_law_due_of) [] [] (Rz.pG "_law_due_of" K) fd
  g__law_due_of : mg "_law_due_of" = some (.ref (He.ga K "_law_due_of"))
  ty_Row : C8.InsC K (He.ga K "Row")
  f_bytes : mg "bytes" = none
  f_isinstance : mg "isinstance" = none
  F_as_string : ∃ fd, FunD K "as_string" "as_string" (defArgs s_as_string) (defBody s_as_string) (defScope s_as_string) [] [] (Rz.pG "as_string" K) fd
  g_as_string : mg "as_string" = some (.ref (He.ga K "as_string"))
  f_enumerate : mg "enumerate" = none
  xb_BadLine : Rz.ExC K (He.ga K "BadLine") ∧ XfC K (He.ga K "BadLine")
  n_BadLine_line : NoAttr K (He.ga K "BadLine") "line"
  x_BadLine : Rz.ExOne P K (He.ga K "BadLine") "line"
  f_super : mg "super" = none
  g_BadLine : mg "BadLine" = some (.ref (He.ga K "BadLine"))
  k_SIGNS : ∃ t, mg "SIGNS" = some (.str "abcdefghijklmnopqrstuvwxyz" t)
  xb_BadSign : Rz.ExC K (He.ga K "BadSign") ∧ XfC K (He.ga K "BadSign")
  n_BadSign_at : NoAttr K (He.ga K "BadSign") "at"
  x_BadSign : Rz.ExOne P K (He.ga K "BadSign") "at"
  g_BadSign : mg "BadSign" = some (.ref (He.ga K "BadSign"))
  F_check_text : ∃ fd, FunD K "check_text" "check_text" (defArgs s_check_text) (defBody s_check_text) (defScope s_check_text) [] [] (Rz.pG "check_text" K) fd
  g_check_text : mg "check_text" = some (.ref (He.ga K "check_text"))
  k_MOST_SIGNS : ∃ t, mg "MOST_SIGNS" = some (.int 4 t)
  xb_BadRule : Rz.ExC K (He.ga K "BadRule") ∧ XfC K (He.ga K "BadRule")
  x_BadRule : Rz.ExZero P K (He.ga K "BadRule")
  g_BadRule : mg "BadRule" = some (.ref (He.ga K "BadRule"))
  n_Rule_left : NoAttr K (He.ga K "Rule") "left"
  c_Rule : Cls K (He.ga K "Rule")
  n_Rule_right : NoAttr K (He.ga K "Rule") "right"
  F_Rule_init : ∃ fd, FunD K "__init__" "Rule.__init__" (defArgs s_Rule_init) (defBody s_Rule_init) (defScope s_Rule_init) [.str ""] [] (Rz.pM "Rule" "__init__" K) fd
  mk_Rule : Mk K (He.ga K "Rule") (Rz.pM "Rule" "__init__" K)
  g_Rule : mg "Rule" = some (.ref (He.ga K "Rule"))
  g_RiseError : mg "RiseError" = some (.ref (He.ga K "RiseError"))
  n_Book_rules : NoAttr K (He.ga K "Book") "rules"
  c_Book : Cls K (He.ga K "Book")
  k_MOST_RULES : ∃ t, mg "MOST_RULES" = some (.int 6 t)
  xb_BookFull : Rz.ExC K (He.ga K "BookFull") ∧ XfC K (He.ga K "BookFull")
  x_BookFull : Rz.ExZero P K (He.ga K "BookFull")
  g_BookFull : mg "BookFull" = some (.ref (He.ga K "BookFull"))
  F_Book_add : ∃ fd, FunD K "add" "Book.add" (defArgs s_Book_add) (defBody s_Book_add) (defScope s_Book_add) [] [] (Rz.pM "Book" "add" K) fd
  m_Book_add : Meth K (He.ga K "Book") "add" (Rz.pM "Book" "add" K)
  F_Book_init : ∃ fd, FunD K "__init__" "Book.__init__" (defArgs s_Book_init) (defBody s_Book_init) (defScope s_Book_init) [] [] (Rz.pM "Book" "__init__" K) fd
  mk_Book : Mk K (He.ga K "Book") (Rz.pM "Book" "__init__" K)
  F_Book_read : ∃ fd, FunD K "read" "Book.read" (defArgs s_Book_read) (defBody s_Book_read) (defScope s_Book_read) [] [] (Rz.pC "Book" "read" K) fd
  cm_Book_read : CmC K (He.ga K "Book") "read" (Rz.recAt "Book" "read" K) (Rz.pC "Book" "read" K)
  g_Book : mg "Book" = some (.ref (He.ga K "Book"))
  F_law_try_make : ∃ fd, FunD K "_law_try_make" "_law_try_make" (defArgs s_law_try_make) (defBody s_law_try_make) (defScope s_law_try_make) [] [] (Rz.pG "_law_try_make" K) fd
  g__law_try_make : mg "_law_try_make" = some (.ref (He.ga K "_law_try_make"))
  f_bool : mg "bool" = none
  F_law_is_int : ∃ fd, FunD K "_law_is_int" "_law_is_int" (defArgs s_law_is_int) (defBody s_law_is_int) (defScope s_law_is_int) [] [] (Rz.pG "_law_is_int" K) fd
  g__law_is_int : mg "_law_is_int" = some (.ref (He.ga K "_law_is_int"))
  f_iter : mg "iter" = none
  F_Book_iter : ∃ fd, FunD K "__iter__" "Book.__iter__" (defArgs s_Book_iter) (defBody s_Book_iter) (defScope s_Book_iter) [] [] (Rz.pM "Book" "__iter__" K) fd
  m_Book___iter__ : Meth K (He.ga K "Book") "__iter__" (Rz.pM "Book" "__iter__" K)
  f_str : mg "str" = none
  F_Rule_str : ∃ fd, FunD K "__str__" "Rule.__str__" (defArgs s_Rule_str) (defBody s_Rule_str) (defScope s_Rule_str) [] [] (Rz.pM "Rule" "__str__" K) fd
  m_Rule___str__ : Meth K (He.ga K "Rule") "__str__" (Rz.pM "Rule" "__str__" K)
  F_Book_written : ∃ fd, FunD K "written" "Book.written" (defArgs s_Book_written) (defBody s_Book_written) (defScope s_Book_written) [] [] (Rz.pM "Book" "written" K) fd
  m_Book_written : Meth K (He.ga K "Book") "written" (Rz.pM "Book" "written" K)
  F_law_same : ∃ fd, FunD K "_law_same" "_law_same" (defArgs s_law_same) (defBody s_law_same) (defScope s_law_same) [] [] (Rz.pG "_law_same" K) fd
  g__law_same : mg "_law_same" = some (.ref (He.ga K "_law_same"))
  F_Book_data : ∃ fd, FunD K "data" "Book.data" (defArgs s_Book_data) (defBody s_Book_data) (defScope s_Book_data) [] [] (Rz.pM "Book" "data" K) fd
  m_Book_data : Meth K (He.ga K "Book") "data" (Rz.pM "Book" "data" K)
  f_list : mg "list" = none
  f_ord : mg "ord" = none
  c_Row : Cls K (He.ga K "Row")
  n_Row_pairs : NoAttr K (He.ga K "Row") "pairs"
  F_Row_len : ∃ fd, FunD K "__len__" "Row.__len__" (defArgs s_Row_len) (defBody s_Row_len) (defScope s_Row_len) [] [] (Rz.pM "Row" "__len__" K) fd
  xb_Uneven : Rz.ExC K (He.ga K "Uneven") ∧ XfC K (He.ga K "Uneven")
  x_Uneven : Rz.ExZero P K (He.ga K "Uneven")
  g_Uneven : mg "Uneven" = some (.ref (He.ga K "Uneven"))
  k_TOP : ∃ t, mg "TOP" = some (.int 9 t)
  xb_BadHeight : Rz.ExC K (He.ga K "BadHeight") ∧ XfC K (He.ga K "BadHeight")
  n_BadHeight_height : NoAttr K (He.ga K "BadHeight") "height"
  x_BadHeight : Rz.ExOne P K (He.ga K "BadHeight") "height"
  g_BadHeight : mg "BadHeight" = some (.ref (He.ga K "BadHeight"))
  f_zip : mg "zip" = none
  F_Row_init : ∃ fd, FunD K "__init__" "Row.__init__" (defArgs s_Row_init) (defBody s_Row_init) (defScope s_Row_init) [.str "", .non] [] (Rz.pM "Row" "__init__" K) fd
  mk_Row : Mk K (He.ga K "Row") (Rz.pM "Row" "__init__" K)
  g_Row : mg "Row" = some (.ref (He.ga K "Row"))
  m_Row___len__ : Meth K (He.ga K "Row") "__len__" (Rz.pM "Row" "__len__" K)
  F_law_first_bad : ∃ fd, FunD K "_law_first_bad" "_law_first_bad" (defArgs s_law_first_bad) (defBody s_law_first_bad) (defScope s_law_first_bad) [] [] (Rz.pG "_law_first_bad" K) fd
  g__law_first_bad : mg "_law_first_bad" = some (.ref (He.ga K "_law_first_bad"))
  F_law : ∃ fd, FunD K "law" "law" (defArgs s_law) (defBody s_law) (defScope s_law) [] [] (Rz.pG "law" K) fd
  g_law : mg "law" = some (.ref (He.ga K "law"))
  e_BadLine_RiseError : PySem.W.exmOne K (.ref (He.ga K "BadLine")) (.ref (He.ga K "RiseError")) = some true
  e_BadLine_BadLine : PySem.W.exmOne K (.ref (He.ga K "BadLine")) (.ref (He.ga K "BadLine")) = some true
  e_BadLine_BookFull : PySem.W.exmOne K (.ref (He.ga K "BadLine")) (.ref (He.ga K "BookFull")) = some false
  e_BadLine_BadSign : PySem.W.exmOne K (.ref (He.ga K "BadLine")) (.ref (He.ga K "BadSign")) = some false
  e_BadSign_RiseError : PySem.W.exmOne K (.ref (He.ga K "BadSign")) (.ref (He.ga K "RiseError")) = some true
  e_BadSign_BadLine : PySem.W.exmOne K (.ref (He.ga K "BadSign")) (.ref (He.ga K "BadLine")) = some false
  e_BadSign_BookFull : PySem.W.exmOne K (.ref (He.ga K "BadSign")) (.ref (He.ga K "BookFull")) = some false
  e_BadSign_BadSign : PySem.W.exmOne K (.ref (He.ga K "BadSign")) (.ref (He.ga K "BadSign")) = some true
  e_BadRule_RiseError : PySem.W.exmOne K (.ref (He.ga K "BadRule")) (.ref (He.ga K "RiseError")) = some true
  e_BadRule_BadLine : PySem.W.exmOne K (.ref (He.ga K "BadRule")) (.ref (He.ga K "BadLine")) = some false
  e_BadRule_BookFull : PySem.W.exmOne K (.ref (He.ga K "BadRule")) (.ref (He.ga K "BookFull")) = some false
  e_BadRule_BadSign : PySem.W.exmOne K (.ref (He.ga K "BadRule")) (.ref (He.ga K "BadSign")) = some false
  e_BookFull_RiseError : PySem.W.exmOne K (.ref (He.ga K "BookFull")) (.ref (He.ga K "RiseError")) = some true
  e_BookFull_BadLine : PySem.W.exmOne K (.ref (He.ga K "BookFull")) (.ref (He.ga K "BadLine")) = some false
  e_BookFull_BookFull : PySem.W.exmOne K (.ref (He.ga K "BookFull")) (.ref (He.ga K "BookFull")) = some true
  e_BookFull_BadSign : PySem.W.exmOne K (.ref (He.ga K "BookFull")) (.ref (He.ga K "BadSign")) = some false
  e_Uneven_RiseError : PySem.W.exmOne K (.ref (He.ga K "Uneven")) (.ref (He.ga K "RiseError")) = some true
  e_Uneven_BadLine : PySem.W.exmOne K (.ref (He.ga K "Uneven")) (.ref (He.ga K "BadLine")) = some false
  e_Uneven_BookFull : PySem.W.exmOne K (.ref (He.ga K "Uneven")) (.ref (He.ga K "BookFull")) = some false
  e_Uneven_BadSign : PySem.W.exmOne K (.ref (He.ga K "Uneven")) (.ref (He.ga K "BadSign")) = some false
  e_BadHeight_RiseError : PySem.W.exmOne K (.ref (He.ga K "BadHeight")) (.ref (He.ga K "RiseError")) = some true
  e_BadHeight_BadLine : PySem.W.exmOne K (.ref (He.ga K "BadHeight")) (.ref (He.ga K "BadLine")) = some false
  e_BadHeight_BookFull : PySem.W.exmOne K (.ref (He.ga K "BadHeight")) (.ref (He.ga K "BookFull")) = some false
  e_BadHeight_BadSign : PySem.W.exmOne K (.ref (He.ga K "BadHeight")) (.ref (He.ga K "BadSign")) = some false
def fa0 : List (Rz.Fg → Bool) := [
  fun K => (He.Fa.free "abs").ok K,
  fun K => (He.Fa.free "int").ok K,
  fun K => (He.Fa.free "range").ok K,
  fun K => (He.Fa.glo "_law_pool").ok K,
  fun K => (He.Fa.free "len").ok K,
  fun K => (He.Fa.glo "_law_pick").ok K,
  fun K => (He.Fa.glo "_law_alphabet").ok K,
  fun K => (He.Fa.glo "_law_word_of").ok K,
  fun K => (He.Fa.glo "_law_odd_sign").ok K,
  fun K => (He.Fa.glo "_law_change").ok K,
  fun K => (He.Fa.glo "_law_first_odd").ok K,
  fun K => (He.Fa.glo "_law_is_text").ok K,
  fun K => (He.Fa.glo "_law_due_of").ok K,
  Rz.tyB "Row",
  fun K => (He.Fa.free "bytes").ok K,
  fun K => (He.Fa.free "isinstance").ok K,
  fun K => (He.Fa.glo "as_string").ok K,
  fun K => (He.Fa.free "enumerate").ok K,
  Rz.excB "BadLine",
  fun K => (He.Fa.noat "BadLine" "line").ok K,
  Rz.iniB PROG "BadLine",
  fun K => (He.Fa.free "super").ok K,
  fun K => (He.Fa.glo "BadLine").ok K,
  fun K => (He.Fa.str "SIGNS" "abcdefghijklmnopqrstuvwxyz").ok K,
  Rz.excB "BadSign",
  fun K => (He.Fa.noat "BadSign" "at").ok K,
  Rz.iniB PROG "BadSign",
  fun K => (He.Fa.glo "BadSign").ok K,
  fun K => (He.Fa.glo "check_text").ok K,
  fun K => (He.Fa.int "MOST_SIGNS" 4).ok K,
  Rz.excB "BadRule",
  Rz.iniB PROG "BadRule",
  fun K => (He.Fa.glo "BadRule").ok K,
  fun K => (He.Fa.noat "Rule" "left").ok K,
  fun K => (He.Fa.cls "Rule").ok K,
  fun K => (He.Fa.noat "Rule" "right").ok K,
  fun K => (He.Fa.mkr "Rule").ok K,
  fun K => (He.Fa.glo "Rule").ok K,
  fun K => (He.Fa.glo "RiseError").ok K,
  fun K => (He.Fa.noat "Book" "rules").ok K,
  fun K => (He.Fa.cls "Book").ok K,
  fun K => (He.Fa.int "MOST_RULES" 6).ok K,
  Rz.excB "BookFull",
  Rz.iniB PROG "BookFull",
  fun K => (He.Fa.glo "BookFull").ok K,
  fun K => (He.Fa.meth "Book" "add").ok K,
  fun K => (He.Fa.mkr "Book").ok K,
  Rz.cmB "Book" "read"]
def fa1 : List (Rz.Fg → Bool) := [
  fun K => (He.Fa.glo "Book").ok K,
  fun K => (He.Fa.glo "_law_try_make").ok K,
  fun K => (He.Fa.free "bool").ok K,
  fun K => (He.Fa.glo "_law_is_int").ok K,
  fun K => (He.Fa.free "iter").ok K,
  fun K => (He.Fa.meth "Book" "__iter__").ok K,
  fun K => (He.Fa.free "str").ok K,
  fun K => (He.Fa.meth "Rule" "__str__").ok K,
  fun K => (He.Fa.meth "Book" "written").ok K,
  fun K => (He.Fa.glo "_law_same").ok K,
  fun K => (He.Fa.meth "Book" "data").ok K,
  fun K => (He.Fa.free "list").ok K,
  fun K => (He.Fa.free "ord").ok K,
  fun K => (He.Fa.cls "Row").ok K,
  fun K => (He.Fa.noat "Row" "pairs").ok K,
  Rz.excB "Uneven",
  Rz.iniB PROG "Uneven",
  fun K => (He.Fa.glo "Uneven").ok K,
  fun K => (He.Fa.int "TOP" 9).ok K,
  Rz.excB "BadHeight",
  fun K => (He.Fa.noat "BadHeight" "height").ok K,
  Rz.iniB PROG "BadHeight",
  fun K => (He.Fa.glo "BadHeight").ok K,
  fun K => (He.Fa.free "zip").ok K,
  fun K => (He.Fa.mkr "Row").ok K,
  fun K => (He.Fa.glo "Row").ok K,
  fun K => (He.Fa.meth "Row" "__len__").ok K,
  fun K => (He.Fa.glo "_law_first_bad").ok K,
  fun K => (He.Fa.glo "law").ok K,
  fun K => (He.Fa.exm "BadLine" "RiseError" true).ok K,
  fun K => (He.Fa.exm "BadLine" "BadLine" true).ok K,
  fun K => (He.Fa.exm "BadLine" "BookFull" false).ok K,
  fun K => (He.Fa.exm "BadLine" "BadSign" false).ok K,
  fun K => (He.Fa.exm "BadSign" "RiseError" true).ok K,
  fun K => (He.Fa.exm "BadSign" "BadLine" false).ok K,
  fun K => (He.Fa.exm "BadSign" "BookFull" false).ok K,
  fun K => (He.Fa.exm "BadSign" "BadSign" true).ok K,
  fun K => (He.Fa.exm "BadRule" "RiseError" true).ok K,
  fun K => (He.Fa.exm "BadRule" "BadLine" false).ok K,
  fun K => (He.Fa.exm "BadRule" "BookFull" false).ok K,
  fun K => (He.Fa.exm "BadRule" "BadSign" false).ok K,
  fun K => (He.Fa.exm "BookFull" "RiseError" true).ok K,
  fun K => (He.Fa.exm "BookFull" "BadLine" false).ok K,
  fun K => (He.Fa.exm "BookFull" "BookFull" true).ok K,
  fun K => (He.Fa.exm "BookFull" "BadSign" false).ok K,
  fun K => (He.Fa.exm "Uneven" "RiseError" true).ok K,
  fun K => (He.Fa.exm "Uneven" "BadLine" false).ok K,
  fun K => (He.Fa.exm "Uneven" "BookFull" false).ok K]
def fa2 : List (Rz.Fg → Bool) := [
  fun K => (He.Fa.exm "Uneven" "BadSign" false).ok K,
  fun K => (He.Fa.exm "BadHeight" "RiseError" true).ok K,
  fun K => (He.Fa.exm "BadHeight" "BadLine" false).ok K,
  fun K => (He.Fa.exm "BadHeight" "BookFull" false).ok K,
  fun K => (He.Fa.exm "BadHeight" "BadSign" false).ok K]
def d_law_pool : Rz.Dq := ⟨Rz.pG "_law_pool", "_law_pool", "_law_pool", defArgs s_law_pool, defBody s_law_pool, defScope s_law_pool, [], [], []⟩
def d_law_pick : Rz.Dq := ⟨Rz.pG "_law_pick", "_law_pick", "_law_pick", defArgs s_law_pick, defBody s_law_pick, defScope s_law_pick, [], [], []⟩
def d_law_alphabet : Rz.Dq := ⟨Rz.pG "_law_alphabet", "_law_alphabet", "_law_alphabet", defArgs s_law_alphabet, defBody s_law_alphabet, defScope s_law_alphabet, [], [], []⟩
def d_law_word_of : Rz.Dq := ⟨Rz.pG "_law_word_of", "_law_word_of", "_law_word_of", defArgs s_law_word_of, defBody s_law_word_of, defScope s_law_word_of, [], [], []⟩
def d_law_odd_sign : Rz.Dq := ⟨Rz.pG "_law_odd_sign", "_law_odd_sign", "_law_odd_sign", defArgs s_law_odd_sign, defBody s_law_odd_sign, defScope s_law_odd_sign, [], [], []⟩
def d_law_change : Rz.Dq := ⟨Rz.pG "_law_change", "_law_change", "_law_change", defArgs s_law_change, defBody s_law_change, defScope s_law_change, [], [], []⟩
def d_law_first_odd : Rz.Dq := ⟨Rz.pG "_law_first_odd", "_law_first_odd", "_law_first_odd", defArgs s_law_first_odd, defBody s_law_first_odd, defScope s_law_first_odd, [], [], []⟩
def d_law_is_text : Rz.Dq := ⟨Rz.pG "_law_is_text", "_law_is_text", "_law_is_text", defArgs s_law_is_text, defBody s_law_is_text, defScope s_law_is_text, [], [], []⟩
def d_law_due_of : Rz.Dq := ⟨Rz.pG "_law_due_of", "_law_due_of", "_law_due_of", defArgs s_law_due_of, defBody s_law_due_of, defScope s_law_due_of, [], [], []⟩
def d_as_string : Rz.Dq := ⟨Rz.pG "as_string", "as_string", "as_string", defArgs s_as_string, defBody s_as_string, defScope s_as_string, [], [], []⟩
def d_check_text : Rz.Dq := ⟨Rz.pG "check_text", "check_text", "check_text", defArgs s_check_text, defBody s_check_text, defScope s_check_text, [], [], []⟩
def d_Rule_init : Rz.Dq := ⟨Rz.pM "Rule" "__init__", "__init__", "Rule.__init__", defArgs s_Rule_init, defBody s_Rule_init, defScope s_Rule_init, [], [.str ""], []⟩
def d_Book_add : Rz.Dq := ⟨Rz.pM "Book" "add", "add", "Book.add", defArgs s_Book_add, defBody s_Book_add, defScope s_Book_add, [], [], []⟩
def d_Book_init : Rz.Dq := ⟨Rz.pM "Book" "__init__", "__init__", "Book.__init__", defArgs s_Book_init, defBody s_Book_init, defScope s_Book_init, [], [], []⟩
def d_Book_read : Rz.Dq := ⟨Rz.pC "Book" "read", "read", "Book.read", defArgs s_Book_read, defBody s_Book_read, defScope s_Book_read, [], [], []⟩
def d_law_try_make : Rz.Dq := ⟨Rz.pG "_law_try_make", "_law_try_make", "_law_try_make", defArgs s_law_try_make, defBody s_law_try_make, defScope s_law_try_make, [], [], []⟩
def d_law_is_int : Rz.Dq := ⟨Rz.pG "_law_is_int", "_law_is_int", "_law_is_int", defArgs s_law_is_int, defBody s_law_is_int, defScope s_law_is_int, [], [], []⟩
def d_Book_iter : Rz.Dq := ⟨Rz.pM "Book" "__iter__", "__iter__", "Book.__iter__", defArgs s_Book_iter, defBody s_Book_iter, defScope s_Book_iter, [], [], []⟩
def d_Rule_str : Rz.Dq := ⟨Rz.pM "Rule" "__str__", "__str__", "Rule.__str__", defArgs s_Rule_str, defBody s_Rule_str, defScope s_Rule_str, [], [], []⟩
def d_Book_written : Rz.Dq := ⟨Rz.pM "Book" "written", "written", "Book.written", defArgs s_Book_written, defBody s_Book_written, defScope s_Book_written, [], [], []⟩
def d_law_same : Rz.Dq := ⟨Rz.pG "_law_same", "_law_same", "_law_same", defArgs s_law_same, defBody s_law_same, defScope s_law_same, [], [], []⟩
def d_Book_data : Rz.Dq := ⟨Rz.pM "Book" "data", "data", "Book.data", defArgs s_Book_data, defBody s_Book_data, defScope s_Book_data, [], [], []⟩
def d_Row_len : Rz.Dq := ⟨Rz.pM "Row" "__len__", "__len__", "Row.__len__", defArgs s_Row_len, defBody s_Row_len, defScope s_Row_len, [], [], []⟩
def d_Row_init : Rz.Dq := ⟨Rz.pM "Row" "__init__", "__init__", "Row.__init__", defArgs s_Row_init, defBody s_Row_init, defScope s_Row_init, [], [.str "", .non], []⟩
def d_law_first_bad : Rz.Dq := ⟨Rz.pG "_law_first_bad", "_law_first_bad", "_law_first_bad", defArgs s_law_first_bad, defBody s_law_first_bad, defScope s_law_first_bad, [], [], []⟩
def d_law : Rz.Dq := ⟨Rz.pG "law", "law", "law", defArgs s_law, defBody s_law, defScope s_law, [], [], []⟩
def d_BadLine_init : Rz.Dq := ⟨Rz.pM "BadLine" "__init__", "__init__", "BadLine.__init__", defArgs s_BadLine_init, defBody s_BadLine_init, defScope s_BadLine_init, ["__class__"], [], []⟩
def d_BadSign_init : Rz.Dq := ⟨Rz.pM "BadSign" "__init__", "__init__", "BadSign.__init__", defArgs s_BadSign_init, defBody s_BadSign_init, defScope s_BadSign_init, ["__class__"], [], []⟩
def d_BadRule_init : Rz.Dq := ⟨Rz.pM "BadRule" "__init__", "__init__", "BadRule.__init__", defArgs s_BadRule_init, defBody s_BadRule_init, defScope s_BadRule_init, ["__class__"], [], []⟩
def d_BookFull_init : Rz.Dq := ⟨Rz.pM "BookFull" "__init__", "__init__", "BookFull.__init__", defArgs s_BookFull_init, defBody s_BookFull_init, defScope s_BookFull_init, ["__class__"], [], []⟩
def d_Uneven_init : Rz.Dq := ⟨Rz.pM "Uneven" "__init__", "__init__", "Uneven.__init__", defArgs s_Uneven_init, defBody s_Uneven_init, defScope s_Uneven_init, ["__class__"], [], []⟩
def d_BadHeight_init : Rz.Dq := ⟨Rz.pM "BadHeight" "__init__", "__init__", "BadHeight.__init__", defArgs s_BadHeight_init, defBody s_BadHeight_init, defScope s_BadHeight_init, ["__class__"], [], []⟩
def fn0 : List Rz.Dq := [d_law_pool, d_law_pick, d_law_alphabet, d_law_word_of, d_law_odd_sign, d_law_change, d_law_first_odd, d_law_is_text, d_law_due_of, d_as_string, d_check_text, d_Rule_init, d_Book_add, d_Book_init]
def fn1 : List Rz.Dq := [d_Book_read, d_law_try_make, d_law_is_int, d_Book_iter, d_Rule_str, d_Book_written, d_law_same, d_Book_data, d_Row_len, d_Row_init, d_law_first_bad, d_law, d_BadLine_init, d_BadSign_init]
def fn2 : List Rz.Dq := [d_BadRule_init, d_BookFull_init, d_Uneven_init, d_BadHeight_init]
def fa : List (Rz.Fg → Bool) := fa0 ++ fa1 ++ fa2
def fn : List Rz.Dq := fn0 ++ fn1 ++ fn2
abbrev R : PySem.W.OpenRow := PySem.W.OpenLaw.row PySem.Challenge.rw_risensigns_k10_book_read
abbrev hk : PySem.W.Hook := Rz.hookR 6 fa fn
def ob (s : PySem.W.SharedT) : Rz.AlR := Rz.obsRG 6 fa fn (HandSHeadRun.getT s)
theorem ob_eq (s : PySem.W.SharedT) : ob s = hk.obs s.abs := Rz.obsRG_eq (HandSHeadRun.getT_eq s)
def loose0 : List PySem.Str := ["_wall", "RiseError", "BadSign", "Uneven", "BadHeight", "NoPlace", "BadRule", "BookFull", "NoRule", "BadLine", "Mismatch", "Beyond", "BadBound", "TOP", "SIGNS", "as_string", "check_text", "is_sign", "Row", "MOST_SIGNS"]
def loose1 : List PySem.Str := ["MOST_RULES", "check_bound", "Rule", "Book", "_law_pool", "_law_pick", "_law_alphabet", "_law_word_of", "_law_is_int", "_law_odd_sign", "_law_first_odd", "_law_is_text", "_law_due_of", "_law_try_make", "_law_same", "_law_first_bad", "_law_change"]
def loose : List PySem.Str := loose0 ++ loose1
theorem runL (w : World) : Rz.LkEq R 6000 w := by
  intro os
  kernel_rfl
theorem runS (w : World) : Rz.SnEq R (PySem.W.view R.prog [41]) 6000 loose w := by
  intro os
  kernel_rfl
theorem run0 (w : World) : Rz.ObEq R 6000 6 fa0 fn0 w := by
  intro os
  kernel_rfl
theorem run1 (w : World) : Rz.ObEq R 6000 6 fa1 fn1 w := by
  intro os
  kernel_rfl
theorem run2 (w : World) : Rz.ObEq R 6000 6 fa2 fn2 w := by
  intro os
  kernel_rfl
theorem run (w : World) : HandSHeadRun.RunEq R (PySem.W.view R.prog [41]) hk ob 6000 loose w := Rz.run_all (runL w) (runS w) (Rz.ObEq.app (Rz.ObEq.app (run0 w) (run1 w)) (run2 w))
section
variable {w : World} {K : Frg} {mg : Str → Option Value} {base : Heap}
/-! _law_pool -/
abbrev N_law_pool : List Str := ["_law_script", "_law_draws", "_law_seed", "_law_cell", "_law_k", "_law_rest", "_law_value"]
def t_law_pool (K : Frg) (E : XK) : TS :=
  (tSeq (tAsg (tLst tNil) (gName 1)) (tSeq (tAsg (tC (.int 0)) (gName 2)) (tSeq (tFor (iList K (tVar 0)) (gName 3) (tSeq (tAsg (tCB (rAbsA) (tCons (tVar 3) tNil)) (gName 5)) (tSeq (tAsg (tOp rModA (tCB (rIntA) (tCons (tOp rAddA (tOp rMulA (tVar 2) (tC (.int 31))) (tVar 5)) tNil)) (tC (.int 1009))) (gName 2)) (tIfS (tTest (tOp rLtA (tVar 5) (tOp rPowA (tC (.int 10)) (tC (.int 18))))) (tDrop (tBM K "list" rAppend (tVar 1) (tCons (tVar 5) tNil))) (tFor (iRng1 (tCons (tC (.int 60)) tNil)) (gName 4) (tIfS (tTest (tOp rGtA (tVar 5) (tC (.int 0)))) (tSeq (tDrop (tBM K "list" rAppend (tVar 1) (tCons (tOp rModA (tCB (rIntA) (tCons (tVar 5) tNil)) (tC (.int 1000))) tNil))) (tAsg (tOp rDivA (tVar 5) (tC (.int 1000))) (gName 5))) tNext)))))) (tSeq (tFor (iRng1 (tCons (tC (.int 90)) tNil)) (gName 4) (tSeq (tAsg (tOp rModA (tCB (rIntA) (tCons (tOp rMulA (tOp rAddA (tVar 2) (tC (.int 1))) (tOp rAddA (tOp rDivA (tOp rAddA (tOp rMulA (tOp rMulA (tC (.int 3)) (tVar 4)) (tVar 4)) (tOp rMulA (tC (.int 5)) (tVar 4))) (tC (.int 2))) (tC (.int 7)))) tNil)) (tC (.int 1009))) (gName 6)) (tDrop (tBM K "list" rAppend (tVar 1) (tCons (tOp rModA (tCB (rIntA) (tCons (tOp rAddA (tOp rMulA (tVar 6) (tVar 6)) (tVar 4)) tNil)) (tC (.int 1013))) tNil))))) (tRet (tVar 1))))))
def sp_law_pool (K : Frg) : Sp := fun vs H Q E => vs.length = 1 ∧ t_law_pool K E { nx := fun _ H' => Q .non H', rt := Q } (start N_law_pool vs) H
theorem sc_law_pool : FnScope N_law_pool ["_law_script"] (defScope s_law_pool) := ⟨rfl, rfl, rfl, by decide +kernel, rfl, by decide +kernel, by decide +kernel⟩
theorem ok_law_pool (T : Txt PROG K mg) : ∃ fd, FnOk PROG w K mg base (L2.CX PROG w) 1 (Rz.pG "_law_pool" K) fd ["_law_script"] (sp_law_pool K) ∧ FunD K "_law_pool" "_law_pool" (defArgs s_law_pool) (defBody s_law_pool) (defScope s_law_pool) [] [] (Rz.pG "_law_pool" K) fd := by
  obtain ⟨fd, F⟩ := T.F_law_pool
  refine ⟨fd, F.ok sc_law_pool (fun vs H Q E h => h.1) (fun cdv A outer s H vs Q E hr h => ⟨t_law_pool K E, ?_, h.2⟩), F⟩
  exact (pss_cons (ps_set (i := 1) sc_law_pool.nd rfl (by first | exact Or.inl rfl | exact Or.inr rfl) (pe_lst pa_nil)) (pss_cons (ps_set (i := 2) sc_law_pool.nd rfl (by first | exact Or.inl rfl | exact Or.inr rfl) pe_int) (pss_cons (ps_for (passes_of rfl) rfl (pi_list (pv 0)) (pg_name (i := 3) sc_law_pool.nd rfl (by first | exact Or.inl rfl | exact Or.inr rfl)) (pss_cons (ps_set (i := 5) sc_law_pool.nd rfl (by first | exact Or.inl rfl | exact Or.inr rfl) (pe_callB c_abs rfl T.f_abs (by decide +kernel) (pa_cons (pv 3) pa_nil))) (pss_cons (ps_set (i := 2) sc_law_pool.nd rfl (by first | exact Or.inl rfl | exact Or.inr rfl) (pe_op op_modA (pe_callTy c_int rfl T.f_int (by decide +kernel) (pa_cons (pe_op op_addA (pe_op op_mulA (pv 2) pe_int) (pv 5)) pa_nil)) pe_int)) (pss_one (ps_if (pt_cmpR op_ltA (pv 5) (pe_op op_powA pe_int pe_int) (nomark _)) (pss_one (ps_expr (pe_bm PySem.F.plainAttrs_list PySem.F.slot_list_append PySem.F.type_list_append mt_append (pv 1) (pa_cons (pv 5) pa_nil)))) (pss_one (ps_for (passes_of rfl) rfl (pi_range1 rfl T.f_range (pa_cons pe_int pa_nil)) (pg_name (i := 4) sc_law_pool.nd rfl (by first | exact Or.inl rfl | exact Or.inr rfl)) (pss_one (ps_if (pt_cmpR op_gtA (pv 5) pe_int (nomark _)) (pss_cons (ps_expr (pe_bm PySem.F.plainAttrs_list PySem.F.slot_list_append PySem.F.type_list_append mt_append (pv 1) (pa_cons (pe_op op_modA (pe_callTy c_int rfl T.f_int (by decide +kernel) (pa_cons (pv 5) pa_nil)) pe_int) pa_nil))) (pss_one (ps_set (i := 5) sc_law_pool.nd rfl (by first | exact Or.inl rfl | exact Or.inr rfl) (pe_op op_divA (pv 5) pe_int)))) pss_nil))))))))) (pss_cons (ps_for (passes_of rfl) rfl (pi_range1 rfl T.f_range (pa_cons pe_int pa_nil)) (pg_name (i := 4) sc_law_pool.nd rfl (by first | exact Or.inl rfl | exact Or.inr rfl)) (pss_cons (ps_set (i := 6) sc_law_pool.nd rfl (by first | exact Or.inl rfl | exact Or.inr rfl) (pe_op op_modA (pe_callTy c_int rfl T.f_int (by decide +kernel) (pa_cons (pe_op op_mulA (pe_op op_addA (pv 2) pe_int) (pe_op op_addA (pe_op op_divA (pe_op op_addA (pe_op op_mulA (pe_op op_mulA pe_int (pv 4)) (pv 4)) (pe_op op_mulA pe_int (pv 4))) pe_int) pe_int)) pa_nil)) pe_int)) (pss_one (ps_expr (pe_bm PySem.F.plainAttrs_list PySem.F.slot_list_append PySem.F.type_list_append mt_append (pv 1) (pa_cons (pe_op op_modA (pe_callTy c_int rfl T.f_int (by decide +kernel) (pa_cons (pe_op op_addA (pe_op op_mulA (pv 6) (pv 6)) (pv 4)) pa_nil)) pe_int) pa_nil)))))) (pss_one (ps_ret (pv 1)))))))
/-! _law_pick -/
abbrev N_law_pick : List Str := ["_law_draws", "_law_many"]
def t_law_pick (K : Frg) (E : XK) : TS :=
  (tSeq (tIfS (tTest (tOp (rEqA K) (tVar 0) (tLst tNil))) (tRet (tC (.int 0))) tNext) (tRet (tOp rModA (tCB (rIntA) (tCons (tBM K "list" rPopAt (tVar 0) (tCons (tC (.int 0)) tNil)) tNil)) (tVar 1))))
def sp_law_pick (K : Frg) : Sp := fun vs H Q E => vs.length = 2 ∧ t_law_pick K E { nx := fun _ H' => Q .non H', rt := Q } (start N_law_pick vs) H
theorem sc_law_pick : FnScope N_law_pick ["_law_draws", "_law_many"] (defScope s_law_pick) := ⟨rfl, rfl, rfl, by decide +kernel, rfl, by decide +kernel, by decide +kernel⟩
theorem ok_law_pick (T : Txt PROG K mg) : ∃ fd, FnOk PROG w K mg base (L2.CX PROG w) 1 (Rz.pG "_law_pick" K) fd ["_law_draws", "_law_many"] (sp_law_pick K) ∧ FunD K "_law_pick" "_law_pick" (defArgs s_law_pick) (defBody s_law_pick) (defScope s_law_pick) [] [] (Rz.pG "_law_pick" K) fd := by
  obtain ⟨fd, F⟩ := T.F_law_pick
  refine ⟨fd, F.ok sc_law_pick (fun vs H Q E h => h.1) (fun cdv A outer s H vs Q E hr h => ⟨t_law_pick K E, ?_, h.2⟩), F⟩
  exact (pss_cons (ps_if (pt_cmpR (op_eqA hr) (pv 0) (pe_lst pa_nil) (nomark _)) (pss_one (ps_ret pe_int)) pss_nil) (pss_one (ps_ret (pe_op op_modA (pe_callTy c_int rfl T.f_int (by decide +kernel) (pa_cons (pe_bm PySem.F.plainAttrs_list PySem.F.slot_list_pop PySem.F.type_list_pop mt_popAt (pv 0) (pa_cons pe_int pa_nil)) pa_nil)) (pv 1)))))
/-! _law_alphabet -/
abbrev N_law_alphabet : List Str := ["_law_draws", "_law_many", "_law_letters", "_law_signs", "_law_k", "_law_left", "_law_letter"]
def t_law_alphabet (K : Frg) (E : XK) : TS :=
  (tSeq (tAsg (tC (.str "abcdefghijklmnopqrstuvwxyz")) (gName 2)) (tSeq (tAsg (tC (.str "")) (gName 3)) (tSeq (tFor (iRng1 (tCons (tVar 1) tNil)) (gName 4) (tSeq (tAsg (tLc (iStr (tVar 2)) (gName 6) (tTest (tOp (rNotInA K) (tVar 6) (tVar 3))) (tVar 6) [6]) (gName 5)) (tAsg (tOp rAddA (tVar 3) (tOp (rIx K) (tVar 5) (tCallSD (sp_law_pick K) [] (WE (W0 E)) (tCons (tVar 0) (tCons (tCB (rLenA K) (tCons (tVar 5) tNil)) tNil))))) (gName 3)))) (tRet (tVar 3)))))
def sp_law_alphabet (K : Frg) : Sp := fun vs H Q E => vs.length = 2 ∧ t_law_alphabet K E { nx := fun _ H' => Q .non H', rt := Q } (start N_law_alphabet vs) H
theorem sc_law_alphabet : FnScope N_law_alphabet ["_law_draws", "_law_many"] (defScope s_law_alphabet) := ⟨rfl, rfl, rfl, by decide +kernel, rfl, by decide +kernel, by decide +kernel⟩
theorem ok_law_alphabet (T : Txt PROG K mg) : ∃ fd, FnOk PROG w K mg base (L2.CX PROG w) 2 (Rz.pG "_law_alphabet" K) fd ["_law_draws", "_law_many"] (sp_law_alphabet K) ∧ FunD K "_law_alphabet" "_law_alphabet" (defArgs s_law_alphabet) (defBody s_law_alphabet) (defScope s_law_alphabet) [] [] (Rz.pG "_law_alphabet" K) fd := by
  obtain ⟨fd_law_pick, G_law_pick, D_law_pick⟩ := ok_law_pick (w := w) (base := base) T
  have b_law_pick_2 : Binds K fd_law_pick _ [] := D_law_pick.bindsN (ps := ["_law_draws", "_law_many"]) (fun _ _ _ _ _ _ us hl => match us, hl with | [_, _], _ => rfl)
  obtain ⟨fd, F⟩ := T.F_law_alphabet
  refine ⟨fd, F.ok sc_law_alphabet (fun vs H Q E h => h.1) (fun cdv A outer s H vs Q E hr h => ⟨t_law_alphabet K E, ?_, h.2⟩), F⟩
  exact (pss_cons (ps_set (i := 2) sc_law_alphabet.nd rfl (by first | exact Or.inl rfl | exact Or.inr rfl) pe_str) (pss_cons (ps_set (i := 3) sc_law_alphabet.nd rfl (by first | exact Or.inl rfl | exact Or.inr rfl) pe_str) (pss_cons (ps_for (passes_of rfl) rfl (pi_range1 rfl T.f_range (pa_cons (pv 1) pa_nil)) (pg_name (i := 4) sc_law_alphabet.nd rfl (by first | exact Or.inl rfl | exact Or.inr rfl)) (pss_cons (by first | (refine ps_setLc (i := 5) (own := [("_law_letter", 6)]) rfl sc_law_alphabet.nd rfl rfl ?e ?f ?g ?h ?i ?j; (case e => exact sw_true rfl rfl rfl (by decide +kernel)); (case f => exact (pi_str (pv 2))); (case g => exact (blkOk_by (own := [("_law_letter", 6)]) (N := N_law_alphabet) (sc := defScope s_law_alphabet) (by decide +kernel))); (case h => exact (fun _ _ _ _ _ => (pg_name (i := 6) sc_law_alphabet.nd rfl (by first | exact Or.inl rfl | exact Or.inr rfl)))); (case i => exact (fun _ _ _ _ _ => (pts_one (pt_cmpR op_notInA (pv 6) (pv 3) (by rfl))))); (case j => exact (fun _ _ _ _ _ => (pv 6)))) | exact (ps_set (i := 5) sc_law_alphabet.nd rfl (by first | exact Or.inl rfl | exact Or.inr rfl) (pe_lc (own := [("_law_letter", 6)]) rfl sc_law_alphabet.nd (pi_str (pv 2)) (blkOk_by (own := [("_law_letter", 6)]) (N := N_law_alphabet) (sc := defScope s_law_alphabet) (by decide +kernel)) (fun _ _ _ _ _ => (pg_name (i := 6) sc_law_alphabet.nd rfl (by first | exact Or.inl rfl | exact Or.inr rfl))) (fun _ _ _ _ _ => (pts_one (pt_cmpR op_notInA (pv 6) (pv 3) (by rfl)))) (fun _ _ _ _ _ => (pv 6))))) (pss_one (ps_set (i := 3) sc_law_alphabet.nd rfl (by first | exact Or.inl rfl | exact Or.inr rfl) (pe_op op_addA (pv 3) (pe_ix ix_seq (pv 5) (pe_callSD G_law_pick (hr.mono (by decide)) rfl T.g__law_pick D_law_pick.kp b_law_pick_2 .nil (fun σ => passAt (takes_of rfl rfl rfl rfl) σ) (pa_cons (pv 0) (pa_cons (pe_callB c_len rfl T.f_len (by decide +kernel) (pa_cons (pv 5) pa_nil)) pa_nil))) (fun _ _ => rfl))))))) (pss_one (ps_ret (pv 3))))))
/-! _law_word_of -/
abbrev N_law_word_of : List Str := ["_law_draws", "_law_signs", "_law_least", "_law_greatest", "_law_size", "_law_k"]
def t_law_word_of (K : Frg) (E : XK) : TS :=
  (tSeq (tAsg (tOp rAddA (tVar 2) (tCallSD (sp_law_pick K) [] (WE (W0 E)) (tCons (tVar 0) (tCons (tOp rAddA (tOp rSubA (tVar 3) (tVar 2)) (tC (.int 1))) tNil)))) (gName 4)) (tRet (tM1 (rJoinA K) (tC (.str "")) (tLc (iRng1 (tCons (tVar 4) tNil)) (gName 5) tYes (tOp (rIx K) (tVar 1) (tCallSD (sp_law_pick K) [] (WE WN) (tCons (tVar 0) (tCons (tCB (rLenA K) (tCons (tVar 1) tNil)) tNil)))) [5]))))
def sp_law_word_of (K : Frg) : Sp := fun vs H Q E => vs.length = 4 ∧ t_law_word_of K E { nx := fun _ H' => Q .non H', rt := Q } (start N_law_word_of vs) H
theorem sc_law_word_of : FnScope N_law_word_of ["_law_draws", "_law_signs", "_law_least", "_law_greatest"] (defScope s_law_word_of) := ⟨rfl, rfl, rfl, by decide +kernel, rfl, by decide +kernel, by decide +kernel⟩
theorem ok_law_word_of (T : Txt PROG K mg) : ∃ fd, FnOk PROG w K mg base (L2.CX PROG w) 2 (Rz.pG "_law_word_of" K) fd ["_law_draws", "_law_signs", "_law_least", "_law_greatest"] (sp_law_word_of K) ∧ FunD K "_law_word_of" "_law_word_of" (defArgs s_law_word_of) (defBody s_law_word_of) (defScope s_law_word_of) [] [] (Rz.pG "_law_word_of" K) fd := by
  obtain ⟨fd_law_pick, G_law_pick, D_law_pick⟩ := ok_law_pick (w := w) (base := base) T
  have b_law_pick_2 : Binds K fd_law_pick _ [] := D_law_pick.bindsN (ps := ["_law_draws", "_law_many"]) (fun _ _ _ _ _ _ us hl => match us, hl with | [_, _], _ => rfl)
  obtain ⟨fd, F⟩ := T.F_law_word_of
  refine ⟨fd, F.ok sc_law_word_of (fun vs H Q E h => h.1) (fun cdv A outer s H vs Q E hr h => ⟨t_law_word_of K E, ?_, h.2⟩), F⟩
  exact (pss_cons (ps_set (i := 4) sc_law_word_of.nd rfl (by first | exact Or.inl rfl | exact Or.inr rfl) (pe_op op_addA (pv 2) (pe_callSD G_law_pick (hr.mono (by decide)) rfl T.g__law_pick D_law_pick.kp b_law_pick_2 .nil (fun σ => passAt (takes_of rfl rfl rfl rfl) σ) (pa_cons (pv 0) (pa_cons (pe_op op_addA (pe_op op_subA (pv 3) (pv 2)) pe_int) pa_nil))))) (pss_one (ps_ret (pe_joinA pe_str (pe_lc (own := [("_law_k", 5)]) rfl sc_law_word_of.nd (pi_range1 rfl T.f_range (pa_cons (pv 4) pa_nil)) (blkOk_by (own := [("_law_k", 5)]) (N := N_law_word_of) (sc := defScope s_law_word_of) (by decide +kernel)) (fun _ _ _ _ _ => (pg_name (i := 5) sc_law_word_of.nd rfl (by first | exact Or.inl rfl | exact Or.inr rfl))) (fun _ _ _ _ _ => pts_nil) (fun _ _ _ _ _ => (pe_ix ix_seq (pv 1) (pe_callSD G_law_pick (hr.mono (by decide)) rfl T.g__law_pick D_law_pick.kp b_law_pick_2 .nil (fun σ => passAt takes0 σ) (pa_cons (pv 0) (pa_cons (pe_callB c_len rfl T.f_len (by decide +kernel) (pa_cons (pv 1) pa_nil)) pa_nil))) (fun _ _ => rfl))))))))
/-! _law_odd_sign -/
abbrev N_law_odd_sign : List Str := ["_law_draws", "_law_odd"]
def t_law_odd_sign (K : Frg) (E : XK) : TS :=
  (tSeq (tAsg (tC (.str " !\"#$&'()*+,-./0123456789:;<=>?@ABCDEFGHIJKLMNOPQRSTUVWXYZ[\\]^_`{|}~\n\t")) (gName 1)) (tRet (tOp (rIx K) (tVar 1) (tCallSD (sp_law_pick K) [] (WE (W0 E)) (tCons (tVar 0) (tCons (tCB (rLenA K) (tCons (tVar 1) tNil)) tNil))))))
def sp_law_odd_sign (K : Frg) : Sp := fun vs H Q E => vs.length = 1 ∧ t_law_odd_sign K E { nx := fun _ H' => Q .non H', rt := Q } (start N_law_odd_sign vs) H
theorem sc_law_odd_sign : FnScope N_law_odd_sign ["_law_draws"] (defScope s_law_odd_sign) := ⟨rfl, rfl, rfl, by decide +kernel, rfl, by decide +kernel, by decide +kernel⟩
theorem ok_law_odd_sign (T : Txt PROG K mg) : ∃ fd, FnOk PROG w K mg base (L2.CX PROG w) 2 (Rz.pG "_law_odd_sign" K) fd ["_law_draws"] (sp_law_odd_sign K) ∧ FunD K "_law_odd_sign" "_law_odd_sign" (defArgs s_law_odd_sign) (defBody s_law_odd_sign) (defScope s_law_odd_sign) [] [] (Rz.pG "_law_odd_sign" K) fd := by
  obtain ⟨fd_law_pick, G_law_pick, D_law_pick⟩ := ok_law_pick (w := w) (base := base) T
  have b_law_pick_2 : Binds K fd_law_pick _ [] := D_law_pick.bindsN (ps := ["_law_draws", "_law_many"]) (fun _ _ _ _ _ _ us hl => match us, hl with | [_, _], _ => rfl)
  obtain ⟨fd, F⟩ := T.F_law_odd_sign
  refine ⟨fd, F.ok sc_law_odd_sign (fun vs H Q E h => h.1) (fun cdv A outer s H vs Q E hr h => ⟨t_law_odd_sign K E, ?_, h.2⟩), F⟩
  exact (pss_cons (ps_set (i := 1) sc_law_odd_sign.nd rfl (by first | exact Or.inl rfl | exact Or.inr rfl) pe_str) (pss_one (ps_ret (pe_ix ix_seq (pv 1) (pe_callSD G_law_pick (hr.mono (by decide)) rfl T.g__law_pick D_law_pick.kp b_law_pick_2 .nil (fun σ => passAt (takes_of rfl rfl rfl rfl) σ) (pa_cons (pv 0) (pa_cons (pe_callB c_len rfl T.f_len (by decide +kernel) (pa_cons (pv 1) pa_nil)) pa_nil))) (fun _ _ => rfl)))))
/-! _law_change -/
abbrev N_law_change : List Str := ["_law_draws", "_law_line", "_law_signs", "_law_at", "_law_odd", "_law_far", "_law_kinds"]
def t_law_change (K : Frg) (E : XK) : TS :=
  (tSeq (tAsg (tCallSD (sp_law_pick K) [] (WE (W0 E)) (tCons (tVar 0) (tCons (tOp rAddA (tCB (rLenA K) (tCons (tVar 1) tNil)) (tC (.int 1))) tNil))) (gName 3)) (tSeq (tAsg (tCallSD (sp_law_odd_sign K) [] (WE (W0 E)) (tCons (tVar 0) tNil)) (gName 4)) (tSeq (tAsg (tCallSD (sp_law_word_of K) [] (WE (W0 E)) (tCons (tVar 0) (tCons (tVar 2) (tCons (tC (.int 5)) (tCons (tC (.int 7)) tNil))))) (gName 5)) (tSeq (tAsg (tLst (tCons (tC (.str "")) (tCons (CwR.tReplC (tVar 1) ":" "") (tCons (tOp rAddA (tOp rAddA (tSl (rSlA K) (tVar 1) tNoPart (tPart (tVar 3))) (tC (.str ":"))) (tSl (rSlA K) (tVar 1) (tPart (tVar 3)) tNoPart)) (tCons (tC (.str ":")) (tCons (tOp rAddA (tVar 5) (tC (.str ":"))) (tCons (tOp rAddA (tVar 1) (tVar 5)) (tCons (tOp rAddA (tC (.str ":")) (tVar 5)) tNil)))))))) (gName 6)) (tSeq (tAsg (tOp rAddA (tVar 6) (tLst (tCons (tOp rAddA (tOp rAddA (tSl (rSlA K) (tVar 1) tNoPart (tPart (tVar 3))) (tVar 4)) (tSl (rSlA K) (tVar 1) (tPart (tVar 3)) tNoPart)) (tCons (tOp rAddA (tVar 1) (tC (.str " "))) (tCons (tOp rAddA (tVar 1) (tC (.str "\n"))) tNil))))) (gName 6)) (tRet (tOp (rIx K) (tVar 6) (tCallSD (sp_law_pick K) [] (WE (W0 E)) (tCons (tVar 0) (tCons (tCB (rLenA K) (tCons (tVar 6) tNil)) tNil))))))))))
def sp_law_change (K : Frg) : Sp := fun vs H Q E => vs.length = 3 ∧ t_law_change K E { nx := fun _ H' => Q .non H', rt := Q } (start N_law_change vs) H
theorem sc_law_change : FnScope N_law_change ["_law_draws", "_law_line", "_law_signs"] (defScope s_law_change) := ⟨rfl, rfl, rfl, by decide +kernel, rfl, by decide +kernel, by decide +kernel⟩
theorem ok_law_change (T : Txt PROG K mg) : ∃ fd, FnOk PROG w K mg base (L2.CX PROG w) 3 (Rz.pG "_law_change" K) fd ["_law_draws", "_law_line", "_law_signs"] (sp_law_change K) ∧ FunD K "_law_change" "_law_change" (defArgs s_law_change) (defBody s_law_change) (defScope s_law_change) [] [] (Rz.pG "_law_change" K) fd := by
  obtain ⟨fd_law_pick, G_law_pick, D_law_pick⟩ := ok_law_pick (w := w) (base := base) T
  obtain ⟨fd_law_odd_sign, G_law_odd_sign, D_law_odd_sign⟩ := ok_law_odd_sign (w := w) (base := base) T
  obtain ⟨fd_law_word_of, G_law_word_of, D_law_word_of⟩ := ok_law_word_of (w := w) (base := base) T
  have b_law_pick_2 : Binds K fd_law_pick _ [] := D_law_pick.bindsN (ps := ["_law_draws", "_law_many"]) (fun _ _ _ _ _ _ us hl => match us, hl with | [_, _], _ => rfl)
  have b_law_odd_sign_1 : Binds K fd_law_odd_sign _ [] := D_law_odd_sign.bindsN (ps := ["_law_draws"]) (fun _ _ _ _ _ _ us hl => match us, hl with | [_], _ => rfl)
  have b_law_word_of_4 : Binds K fd_law_word_of _ [] := D_law_word_of.bindsN (ps := ["_law_draws", "_law_signs", "_law_least", "_law_greatest"]) (fun _ _ _ _ _ _ us hl => match us, hl with | [_, _, _, _], _ => rfl)
  obtain ⟨fd, F⟩ := T.F_law_change
  refine ⟨fd, F.ok sc_law_change (fun vs H Q E h => h.1) (fun cdv A outer s H vs Q E hr h => ⟨t_law_change K E, ?_, h.2⟩), F⟩
  exact (pss_cons (ps_set (i := 3) sc_law_change.nd rfl (by first | exact Or.inl rfl | exact Or.inr rfl) (pe_callSD G_law_pick (hr.mono (by decide)) rfl T.g__law_pick D_law_pick.kp b_law_pick_2 .nil (fun σ => passAt (takes_of rfl rfl rfl rfl) σ) (pa_cons (pv 0) (pa_cons (pe_op op_addA (pe_callB c_len rfl T.f_len (by decide +kernel) (pa_cons (pv 1) pa_nil)) pe_int) pa_nil)))) (pss_cons (ps_set (i := 4) sc_law_change.nd rfl (by first | exact Or.inl rfl | exact Or.inr rfl) (pe_callSD G_law_odd_sign (hr.mono (by decide)) rfl T.g__law_odd_sign D_law_odd_sign.kp b_law_odd_sign_1 .nil (fun σ => passAt (takes_of rfl rfl rfl rfl) σ) (pa_cons (pv 0) pa_nil))) (pss_cons (ps_set (i := 5) sc_law_change.nd rfl (by first | exact Or.inl rfl | exact Or.inr rfl) (pe_callSD G_law_word_of (hr.mono (by decide)) rfl T.g__law_word_of D_law_word_of.kp b_law_word_of_4 .nil (fun σ => passAt (takes_of rfl rfl rfl rfl) σ) (pa_cons (pv 0) (pa_cons (pv 2) (pa_cons pe_int (pa_cons pe_int pa_nil)))))) (pss_cons (ps_set (i := 6) sc_law_change.nd rfl (by first | exact Or.inl rfl | exact Or.inr rfl) (pe_lst (pa_strT (pat_cons (CwR.pet_replC (pv 1)) (pat_cons (CwR.PET.of (pe_op op_addA (pe_op op_addA (pe_slice sl_A (pv 1) po_none (po_some (pv 3))) pe_str) (pe_slice sl_A (pv 1) (po_some (pv 3)) po_none))) (pat_cons (CwR.PET.of pe_str) (pat_cons (CwR.PET.of (pe_op op_addA (pv 5) pe_str)) (pat_cons (CwR.PET.of (pe_op op_addA (pv 1) (pv 5))) (pat_cons (CwR.PET.of (pe_op op_addA pe_str (pv 5))) pat_nil))))))))) (pss_cons (ps_set (i := 6) sc_law_change.nd rfl (by first | exact Or.inl rfl | exact Or.inr rfl) (pe_op op_addA (pv 6) (pe_lst (pa_cons (pe_op op_addA (pe_op op_addA (pe_slice sl_A (pv 1) po_none (po_some (pv 3))) (pv 4)) (pe_slice sl_A (pv 1) (po_some (pv 3)) po_none)) (pa_cons (pe_op op_addA (pv 1) pe_str) (pa_cons (pe_op op_addA (pv 1) pe_str) pa_nil)))))) (pss_one (ps_ret (pe_ix ix_seq (pv 6) (pe_callSD G_law_pick (hr.mono (by decide)) rfl T.g__law_pick D_law_pick.kp b_law_pick_2 .nil (fun σ => passAt (takes_of rfl rfl rfl rfl) σ) (pa_cons (pv 0) (pa_cons (pe_callB c_len rfl T.f_len (by decide +kernel) (pa_cons (pv 6) pa_nil)) pa_nil))) (fun _ _ => rfl)))))))))
/-! _law_first_odd -/
abbrev N_law_first_odd : List Str := ["_law_text", "_law_at"]
def t_law_first_odd (K : Frg) (E : XK) : TS :=
  (tSeq (tFor (iRng1 (tCons (tCB (rLenA K) (tCons (tVar 0) tNil)) tNil)) (gName 1) (tIfS (tTest (tOp (rNotInA K) (tOp (rIx K) (tVar 0) (tVar 1)) (tC (.str "abcdefghijklmnopqrstuvwxyz")))) (tRet (tVar 1)) tNext)) (tRet (tUn rNegA (tC (.int 1)))))
def sp_law_first_odd (K : Frg) : Sp := fun vs H Q E => vs.length = 1 ∧ t_law_first_odd K E { nx := fun _ H' => Q .non H', rt := Q } (start N_law_first_odd vs) H
theorem sc_law_first_odd : FnScope N_law_first_odd ["_law_text"] (defScope s_law_first_odd) := ⟨rfl, rfl, rfl, by decide +kernel, rfl, by decide +kernel, by decide +kernel⟩
theorem ok_law_first_odd (T : Txt PROG K mg) : ∃ fd, FnOk PROG w K mg base (L2.CX PROG w) 1 (Rz.pG "_law_first_odd" K) fd ["_law_text"] (sp_law_first_odd K) ∧ FunD K "_law_first_odd" "_law_first_odd" (defArgs s_law_first_odd) (defBody s_law_first_odd) (defScope s_law_first_odd) [] [] (Rz.pG "_law_first_odd" K) fd := by
  obtain ⟨fd, F⟩ := T.F_law_first_odd
  refine ⟨fd, F.ok sc_law_first_odd (fun vs H Q E h => h.1) (fun cdv A outer s H vs Q E hr h => ⟨t_law_first_odd K E, ?_, h.2⟩), F⟩
  exact (pss_cons (ps_for (passes_of rfl) rfl (pi_range1 rfl T.f_range (pa_cons (pe_callB c_len rfl T.f_len (by decide +kernel) (pa_cons (pv 0) pa_nil)) pa_nil)) (pg_name (i := 1) sc_law_first_odd.nd rfl (by first | exact Or.inl rfl | exact Or.inr rfl)) (pss_one (ps_if (pt_cmpR op_notInA (pe_ix ix_seq (pv 0) (pv 1) (fun _ _ => rfl)) pe_str (by rfl)) (pss_one (ps_ret (pv 1))) pss_nil))) (pss_one (ps_ret (pe_un un_neg pe_int))))
/-! _law_is_text -/
abbrev N_law_is_text : List Str := ["_law_text", "_law_least", "_law_greatest"]
def t_law_is_text (K : Frg) (E : XK) : TS :=
  (tRet (tAndV (tOp rLtA (tCallSD (sp_law_first_odd K) [] (WE (W0 E)) (tCons (tVar 0) tNil)) (tC (.int 0))) (tChain rLeA rLeA (tVar 1) (tCB (rLenA K) (tCons (tVar 0) tNil)) (tVar 2))))
def sp_law_is_text (K : Frg) : Sp := fun vs H Q E => vs.length = 3 ∧ t_law_is_text K E { nx := fun _ H' => Q .non H', rt := Q } (start N_law_is_text vs) H
theorem sc_law_is_text : FnScope N_law_is_text ["_law_text", "_law_least", "_law_greatest"] (defScope s_law_is_text) := ⟨rfl, rfl, rfl, by decide +kernel, rfl, by decide +kernel, by decide +kernel⟩
theorem ok_law_is_text (T : Txt PROG K mg) : ∃ fd, FnOk PROG w K mg base (L2.CX PROG w) 2 (Rz.pG "_law_is_text" K) fd ["_law_text", "_law_least", "_law_greatest"] (sp_law_is_text K) ∧ FunD K "_law_is_text" "_law_is_text" (defArgs s_law_is_text) (defBody s_law_is_text) (defScope s_law_is_text) [] [] (Rz.pG "_law_is_text" K) fd := by
  obtain ⟨fd_law_first_odd, G_law_first_odd, D_law_first_odd⟩ := ok_law_first_odd (w := w) (base := base) T
  have b_law_first_odd_1 : Binds K fd_law_first_odd _ [] := D_law_first_odd.bindsN (ps := ["_law_text"]) (fun _ _ _ _ _ _ us hl => match us, hl with | [_], _ => rfl)
  obtain ⟨fd, F⟩ := T.F_law_is_text
  refine ⟨fd, F.ok sc_law_is_text (fun vs H Q E h => h.1) (fun cdv A outer s H vs Q E hr h => ⟨t_law_is_text K E, ?_, h.2⟩), F⟩
  exact (pss_one (ps_ret (pe_and (pe_cmpR op_ltA (pe_callSD G_law_first_odd (hr.mono (by decide)) rfl T.g__law_first_odd D_law_first_odd.kp b_law_first_odd_1 .nil (fun σ => passAt (takes_of rfl rfl rfl rfl) σ) (pa_cons (pv 0) pa_nil)) pe_int (nomark _)) (pe_one (pe_chain op_leA op_leA (pv 1) (pe_callB c_len rfl T.f_len (by decide +kernel) (pa_cons (pv 0) pa_nil)) (pv 2))))))
/-! _law_due_of -/
abbrev N_law_due_of : List Str := ["_law_text", "_law_lines", "_law_rules", "_law_k", "_law_parts"]
def t_law_due_of (K : Frg) (E : XK) : TS :=
  (tSeq (tAsg (tIf (tTest (tOp (rEqA K) (tVar 0) (tC (.str "")))) (tLst tNil) (tSplit (tVar 0) (tC (.str "\n")))) (gName 1)) (tSeq (tAsg (tLst tNil) (gName 2)) (tSeq (tFor (iRng1 (tCons (tCB (rLenA K) (tCons (tVar 1) tNil)) tNil)) (gName 3) (tSeq (tAsg (tSplit (tOp (rIx K) (tVar 1) (tVar 3)) (tC (.str ":"))) (gName 4)) (tSeq (tIfS (tOr (tTest (tOp (rNeA K) (tCB (rLenA K) (tCons (tVar 4) tNil)) (tC (.int 2)))) (tOr (tNot (tTruth K (tCallSD (sp_law_is_text K) [] (WE (W0 E)) (tCons (tOp (rIx K) (tVar 4) (tC (.int 0))) (tCons (tC (.int 1)) (tCons (tC (.int 4)) tNil)))))) (tNot (tTruth K (tCallSD (sp_law_is_text K) [] (WE (W0 E)) (tCons (tOp (rIx K) (tVar 4) (tC (.int 1))) (tCons (tC (.int 0)) (tCons (tC (.int 4)) tNil)))))))) (tRet (tTup (tCons (tC (.str "line")) (tCons (tOp rAddA (tVar 3) (tC (.int 1))) tNil)))) tNext) (tDrop (tBM K "list" rAppend (tVar 2) (tCons (tTup (tCons (tOp (rIx K) (tVar 4) (tC (.int 0))) (tCons (tOp (rIx K) (tVar 4) (tC (.int 1))) tNil))) tNil)))))) (tSeq (tIfS (tTest (tOp rGtA (tCB (rLenA K) (tCons (tVar 2) tNil)) (tC (.int 6)))) (tRet (tTup (tCons (tC (.str "full")) (tCons (tC (.int 0)) tNil)))) tNext) (tRet (tTup (tCons (tC (.str "book")) (tCons (tVar 2) tNil))))))))
def sp_law_due_of (K : Frg) : Sp := fun vs H Q E => vs.length = 1 ∧ t_law_due_of K E { nx := fun _ H' => Q .non H', rt := Q } (start N_law_due_of vs) H
theorem sc_law_due_of : FnScope N_law_due_of ["_law_text"] (defScope s_law_due_of) := ⟨rfl, rfl, rfl, by decide +kernel, rfl, by decide +kernel, by decide +kernel⟩
theorem ok_law_due_of (T : Txt PROG K mg) : ∃ fd, FnOk PROG w K mg base (L2.CX PROG w) 3 (Rz.pG "_law_due_of" K) fd ["_law_text"] (sp_law_due_of K) ∧ FunD K "_law_due_of" "_law_due_of" (defArgs s_law_due_of) (defBody s_law_due_of) (defScope s_law_due_of) [] [] (Rz.pG "_law_due_of" K) fd := by
  obtain ⟨fd_law_is_text, G_law_is_text, D_law_is_text⟩ := ok_law_is_text (w := w) (base := base) T
  have b_law_is_text_3 : Binds K fd_law_is_text _ [] := D_law_is_text.bindsN (ps := ["_law_text", "_law_least", "_law_greatest"]) (fun _ _ _ _ _ _ us hl => match us, hl with | [_, _, _], _ => rfl)
  obtain ⟨fd, F⟩ := T.F_law_due_of
  refine ⟨fd, F.ok sc_law_due_of (fun vs H Q E h => h.1) (fun cdv A outer s H vs Q E hr h => ⟨t_law_due_of K E, ?_, h.2⟩), F⟩
  exact (pss_cons (ps_set (i := 1) sc_law_due_of.nd rfl (by first | exact Or.inl rfl | exact Or.inr rfl) (pe_ifExp (pt_cmpR (op_eqA hr) (pv 0) pe_str (nomark _)) (pe_lst pa_nil) (pe_splitS (pv 0) pe_str))) (pss_cons (ps_set (i := 2) sc_law_due_of.nd rfl (by first | exact Or.inl rfl | exact Or.inr rfl) (pe_lst pa_nil)) (pss_cons (ps_for (passes_of rfl) rfl (pi_range1 rfl T.f_range (pa_cons (pe_callB c_len rfl T.f_len (by decide +kernel) (pa_cons (pv 1) pa_nil)) pa_nil)) (pg_name (i := 3) sc_law_due_of.nd rfl (by first | exact Or.inl rfl | exact Or.inr rfl)) (pss_cons (ps_set (i := 4) sc_law_due_of.nd rfl (by first | exact Or.inl rfl | exact Or.inr rfl) (pe_splitS (pe_ix ix_seq (pv 1) (pv 3) (fun _ _ => rfl)) pe_str)) (pss_cons (ps_if (PW.pt (pw_or (pt_cmpR (op_neA hr) (pe_callB c_len rfl T.f_len (by decide +kernel) (pa_cons (pv 4) pa_nil)) pe_int (nomark _)) (pw_or (pt_not (pt_truth (pe_callSD G_law_is_text (hr.mono (by decide)) rfl T.g__law_is_text D_law_is_text.kp b_law_is_text_3 .nil (fun σ => passAt (takes_of rfl rfl rfl rfl) σ) (pa_cons (pe_ix ix_seq (pv 4) pe_int (fun _ _ => rfl)) (pa_cons pe_int (pa_cons pe_int pa_nil)))) (by intro _; rfl))) (pw_or1 (pt_not (pt_truth (pe_callSD G_law_is_text (hr.mono (by decide)) rfl T.g__law_is_text D_law_is_text.kp b_law_is_text_3 .nil (fun σ => passAt (takes_of rfl rfl rfl rfl) σ) (pa_cons (pe_ix ix_seq (pv 4) pe_int (fun _ _ => rfl)) (pa_cons pe_int (pa_cons pe_int pa_nil)))) (by intro _; rfl))))))) (pss_one (ps_ret (pe_tup (pa_cons pe_str (pa_cons (pe_op op_addA (pv 3) pe_int) pa_nil))))) pss_nil) (pss_one (ps_expr (pe_bm PySem.F.plainAttrs_list PySem.F.slot_list_append PySem.F.type_list_append mt_append (pv 2) (pa_cons (pe_tup (pa_cons (pe_ix ix_seq (pv 4) pe_int (fun _ _ => rfl)) (pa_cons (pe_ix ix_seq (pv 4) pe_int (fun _ _ => rfl)) pa_nil))) pa_nil))))))) (pss_cons (ps_if (pt_cmpR op_gtA (pe_callB c_len rfl T.f_len (by decide +kernel) (pa_cons (pv 2) pa_nil)) pe_int (nomark _)) (pss_one (ps_ret (pe_tup (pa_cons pe_str (pa_cons pe_int pa_nil))))) pss_nil) (pss_one (ps_ret (pe_tup (pa_cons pe_str (pa_cons (pv 2) pa_nil)))))))))
/-! as_string -/
abbrev N_as_string : List Str := ["text"]
def t_as_string (K : Frg) (E : XK) : TS :=
  (tSeq (tIfS (tB (tCB (rIsiA K) (tCons (tVar 0) (tCons (tC (.ty "bytes")) tNil)))) (tRet (tBMB rDec (tVar 0) (tCons (tC (.str "ascii")) tNil))) tNext) (tRet (tVar 0)))
def sp_as_string (K : Frg) : Sp := fun vs H Q E => vs.length = 1 ∧ t_as_string K E { nx := fun _ H' => Q .non H', rt := Q } (start N_as_string vs) H
theorem sc_as_string : FnScope N_as_string ["text"] (defScope s_as_string) := ⟨rfl, rfl, rfl, by decide +kernel, rfl, by decide +kernel, by decide +kernel⟩
theorem ok_as_string (T : Txt PROG K mg) : ∃ fd, FnOk PROG w K mg base (L2N.CX PROG w) 1 (Rz.pG "as_string" K) fd ["text"] (sp_as_string K) ∧ FunD K "as_string" "as_string" (defArgs s_as_string) (defBody s_as_string) (defScope s_as_string) [] [] (Rz.pG "as_string" K) fd := by
  obtain ⟨fd, F⟩ := T.F_as_string
  refine ⟨fd, F.ok sc_as_string (fun vs H Q E h => h.1) (fun cdv A outer s H vs Q E hr h => ⟨t_as_string K E, ?_, h.2⟩), F⟩
  exact (pss_cons (ps_if (pt_val (pe_callB c_isi rfl T.f_isinstance (by decide +kernel) (pa_cons (pv 0) (pa_cons (pe_bltn rfl T.f_bytes (by decide +kernel) rfl) pa_nil)))) (pss_one (ps_ret (pe_bmB PySem.W.FB.slot_bytes_decode PySem.W.FB.type_bytes_decode mt_dec (pv 0) (pa_cons pe_str pa_nil)))) pss_nil) (pss_one (ps_ret (pv 0))))
/-! check_text -/
abbrev N_check_text : List Str := ["text", "at", "sign"]
def t_check_text (K : Frg) (E : XK) : TS :=
  (tFor (iEnumS (tCons (tVar 0) tNil)) (gTup K 2 (gCons (gName 1) (gCons (gName 2) gNil))) (tIfS (tTest (tOp (rNotInA K) (tVar 2) (tC (.str "abcdefghijklmnopqrstuvwxyz")))) (tRaise (tMkX (He.ga K "BadSign") "at" (tCons (tVar 1) tNil)) (W0 E)) tNext))
def sp_check_text (K : Frg) : Sp := fun vs H Q E => vs.length = 1 ∧ t_check_text K E { nx := fun _ H' => Q .non H', rt := Q } (start N_check_text vs) H
theorem sc_check_text : FnScope N_check_text ["text"] (defScope s_check_text) := ⟨rfl, rfl, rfl, by decide +kernel, rfl, by decide +kernel, by decide +kernel⟩
theorem ok_check_text (T : Txt PROG K mg) : ∃ fd, FnOk PROG w K mg base (L2N.CX PROG w) 1 (Rz.pG "check_text" K) fd ["text"] (sp_check_text K) ∧ FunD K "check_text" "check_text" (defArgs s_check_text) (defBody s_check_text) (defScope s_check_text) [] [] (Rz.pG "check_text" K) fd := by
  obtain ⟨fd, F⟩ := T.F_check_text
  refine ⟨fd, F.ok sc_check_text (fun vs H Q E h => h.1) (fun cdv A outer s H vs Q E hr h => ⟨t_check_text K E, ?_, h.2⟩), F⟩
  exact (pss_one (ps_for (passes_of rfl) rfl (pi_enumS rfl T.f_enumerate (pa_cons (pv 0) pa_nil)) (pg_tup rfl (pgs_cons (pg_name (i := 1) sc_check_text.nd rfl (by first | exact Or.inl rfl | exact Or.inr rfl)) (pgs_cons (pg_name (i := 2) sc_check_text.nd rfl (by first | exact Or.inl rfl | exact Or.inr rfl)) pgs_nil))) (pss_one (ps_if (pt_cmpR op_notInA (pv 2) (pe_gstr rfl T.k_SIGNS) (by rfl)) (pss_one (ps_raiseN rfl (L2N.takes_of rfl rfl rfl rfl) (pmkF_sup1 T.x_BadSign T.f_super hr.d5 rfl T.g_BadSign (pa_cons (pv 1) pa_nil)))) pss_nil))))
/-! Rule.__init__ -/
abbrev N_Rule_init : List Str := ["self", "left", "right"]
def t_Rule_init (K : Frg) (E : XK) : TS :=
  (tSeq (tDrop (tCallSD (sp_check_text K) [] (WE (W0 E)) (tCons (tVar 1) tNil))) (tSeq (tDrop (tCallSD (sp_check_text K) [] (WE (W0 E)) (tCons (tVar 2) tNil))) (tSeq (tIfS (tOr (tNot (tTest (tChain rLeA rLeA (tC (.int 1)) (tCB (rLenA K) (tCons (tVar 1) tNil)) (tC (.int 4))))) (tTest (tOp rGtA (tCB (rLenA K) (tCons (tVar 2) tNil)) (tC (.int 4))))) (tRaise (tMkX0 (He.ga K "BadRule")) (W0 E)) tNext) (tSeq (sFld K (tVar 0) (tVar 1) "left") (sFld K (tVar 0) (tVar 2) "right")))))
def sp_Rule_init (K : Frg) : Sp := fun vs H Q E => vs.length = 3 ∧ t_Rule_init K E { nx := fun _ H' => Q .non H', rt := Q } (start N_Rule_init vs) H
theorem sc_Rule_init : FnScope N_Rule_init ["self", "left", "right"] (defScope s_Rule_init) := ⟨rfl, rfl, rfl, by decide +kernel, rfl, by decide +kernel, by decide +kernel⟩
theorem ok_Rule_init (T : Txt PROG K mg) : ∃ fd, FnOk PROG w K mg base (L2N.CX PROG w) 2 (Rz.pM "Rule" "__init__" K) fd ["self", "left", "right"] (sp_Rule_init K) ∧ FunD K "__init__" "Rule.__init__" (defArgs s_Rule_init) (defBody s_Rule_init) (defScope s_Rule_init) [.str ""] [] (Rz.pM "Rule" "__init__" K) fd := by
  obtain ⟨fd_check_text, G_check_text, D_check_text⟩ := ok_check_text (w := w) (base := base) T
  have b_check_text_1 : Binds K fd_check_text _ [] := D_check_text.bindsN (ps := ["text"]) (fun _ _ _ _ _ _ us hl => match us, hl with | [_], _ => rfl)
  obtain ⟨fd, F⟩ := T.F_Rule_init
  refine ⟨fd, F.ok sc_Rule_init (fun vs H Q E h => h.1) (fun cdv A outer s H vs Q E hr h => ⟨t_Rule_init K E, ?_, h.2⟩), F⟩
  exact (pss_cons (ps_expr (pe_callSD G_check_text (hr.mono (by decide)) rfl T.g_check_text D_check_text.kp b_check_text_1 .nil (fun σ => L2N.passAt (L2N.takes_of rfl rfl rfl rfl) σ) (pa_cons (pv 1) pa_nil))) (pss_cons (ps_expr (pe_callSD G_check_text (hr.mono (by decide)) rfl T.g_check_text D_check_text.kp b_check_text_1 .nil (fun σ => L2N.passAt (L2N.takes_of rfl rfl rfl rfl) σ) (pa_cons (pv 2) pa_nil))) (pss_cons (ps_if (PW.pt (pw_or (pt_not (pt_chain op_leA op_leA pe_int (pe_callB c_len rfl T.f_len (by decide +kernel) (pa_cons (pv 1) pa_nil)) (pe_gint rfl T.k_MOST_SIGNS))) (pw_or1 (pt_cmpR op_gtA (pe_callB c_len rfl T.f_len (by decide +kernel) (pa_cons (pv 2) pa_nil)) (pe_gint rfl T.k_MOST_SIGNS) (nomark _))))) (pss_one (ps_raiseN rfl (L2N.takes_of rfl rfl rfl rfl) (pmkF_sup0 T.x_BadRule T.f_super hr.d5 rfl T.g_BadRule))) pss_nil) (pss_cons (ps_fld (pv 0) (pv 1) rfl) (pss_one (ps_fld (pv 0) (pv 2) rfl))))))
/-! Book.add -/
abbrev N_Book_add : List Str := ["self", "rule"]
def t_Book_add (K : Frg) (E : XK) : TS :=
  (tSeq (tIfS (tTest (tOp (rEqA K) (tCB (rLenA K) (tCons (tFld K (tVar 0) "rules") tNil)) (tC (.int 6)))) (tRaise (tMkX0 (He.ga K "BookFull")) (W0 E)) tNext) (tDrop (tBM K "list" rAppend (tFld K (tVar 0) "rules") (tCons (tVar 1) tNil))))
def sp_Book_add (K : Frg) : Sp := fun vs H Q E => vs.length = 2 ∧ t_Book_add K E { nx := fun _ H' => Q .non H', rt := Q } (start N_Book_add vs) H
theorem sc_Book_add : FnScope N_Book_add ["self", "rule"] (defScope s_Book_add) := ⟨rfl, rfl, rfl, by decide +kernel, rfl, by decide +kernel, by decide +kernel⟩
theorem ok_Book_add (T : Txt PROG K mg) : ∃ fd, FnOk PROG w K mg base (L2.CX PROG w) 1 (Rz.pM "Book" "add" K) fd ["self", "rule"] (sp_Book_add K) ∧ FunD K "add" "Book.add" (defArgs s_Book_add) (defBody s_Book_add) (defScope s_Book_add) [] [] (Rz.pM "Book" "add" K) fd := by
  obtain ⟨fd, F⟩ := T.F_Book_add
  refine ⟨fd, F.ok sc_Book_add (fun vs H Q E h => h.1) (fun cdv A outer s H vs Q E hr h => ⟨t_Book_add K E, ?_, h.2⟩), F⟩
  exact (pss_cons (ps_if (pt_cmpR (op_eqA hr) (pe_callB c_len rfl T.f_len (by decide +kernel) (pa_cons (pe_fld (pv 0) rfl) pa_nil)) (pe_gint rfl T.k_MOST_RULES) (nomark _)) (pss_one (ps_raise rfl (takes_of rfl rfl rfl rfl) (pmk_sup0 T.x_BookFull T.f_super hr rfl T.g_BookFull))) pss_nil) (pss_one (ps_expr (pe_bm PySem.F.plainAttrs_list PySem.F.slot_list_append PySem.F.type_list_append mt_append (pe_fld (pv 0) rfl) (pa_cons (pv 1) pa_nil)))))
/-! Book.__init__ -/
abbrev N_Book_init : List Str := ["self", "rules", "rule"]
def t_Book_init (K : Frg) (E : XK) : TS :=
  (tSeq (sFld K (tVar 0) (tLst tNil) "rules") (tFor (iTup K (tVar 1)) (gName 2) (tDrop (tMethZ (He.ga K "Book") "add" (sp_Book_add K) [] (WE (W0 E)) (tVar 0) (tCons (tVar 2) tNil)))))
def sp_Book_init (K : Frg) : Sp := fun vs H Q E => vs.length = 2 ∧ t_Book_init K E { nx := fun _ H' => Q .non H', rt := Q } (start N_Book_init vs) H
theorem sc_Book_init : FnScope N_Book_init ["self", "rules"] (defScope s_Book_init) := ⟨rfl, rfl, rfl, by decide +kernel, rfl, by decide +kernel, by decide +kernel⟩
theorem ok_Book_init (T : Txt PROG K mg) : ∃ fd, FnR PROG w K mg base (L2.CX PROG w) 2 (Rz.pM "Book" "__init__" K) (spStar 1 (sp_Book_init K)) ∧ FunD K "__init__" "Book.__init__" (defArgs s_Book_init) (defBody s_Book_init) (defScope s_Book_init) [] [] (Rz.pM "Book" "__init__" K) fd := by
  obtain ⟨fd_Book_add, G_Book_add, D_Book_add⟩ := ok_Book_add (w := w) (base := base) T
  have b_Book_add_2 : Binds K fd_Book_add _ [] := D_Book_add.bindsN (ps := ["self", "rule"]) (fun _ _ _ _ _ _ us hl => match us, hl with | [_, _], _ => rfl)
  obtain ⟨fd, F⟩ := T.F_Book_init
  refine ⟨fd, F.okStar (ps := ["self"]) (pv := "rules") sc_Book_init StX.cxUp (fun _ _ _ _ _ _ us rest hl => match us, hl, rest with | [_], _, [] => rfl | [_], _, _ :: _ => rfl) (fun cdv A outer s H vs Q E hr h => ⟨t_Book_init K E, ?_, h.2⟩), F⟩
  exact (pss_cons (ps_fld (pv 0) (pe_lst pa_nil) rfl) (pss_one (ps_for (passes_of rfl) rfl (pi_tup (pv 1)) (pg_name (i := 2) sc_Book_init.nd rfl (by first | exact Or.inl rfl | exact Or.inr rfl)) (pss_one (ps_expr (pe_methZ (pv 0) T.c_Book T.m_Book_add G_Book_add (hr.mono (by decide)) b_Book_add_2 .nil (fun σ => passAt (takes_of rfl rfl rfl rfl) σ) (pa_cons (pv 2) pa_nil)))))))
/-! Book.read -/
abbrev N_Book_read : List Str := ["cls", "text", "string", "rules", "lines", "index", "line", "parts", "why"]
def t_Book_read (K : Frg) (E : XK) : TS :=
  (tSeq (tAsg (tCallSD (sp_as_string K) [] (WE (W0 E)) (tCons (tVar 1) tNil)) (gName 2)) (tSeq (tAsg (tLst tNil) (gName 3)) (tSeq (tAsg (tIf (tTest (tOp (rNeA K) (tVar 2) (tC (.str "")))) (tSplit (tVar 2) (tC (.str "\n"))) (tLst tNil)) (gName 4)) (tSeq (tFor (iEnum K (tCons (tVar 4) tNil)) (gTup K 2 (gCons (gName 5) (gCons (gName 6) gNil))) (tSeq (tAsg (tSplit (tVar 6) (tC (.str ":"))) (gName 7)) (tSeq (tIfS (tTest (tOp (rNeA K) (tCB (rLenA K) (tCons (tVar 7) tNil)) (tC (.int 2)))) (tRaise (tMkX (He.ga K "BadLine") "line" (tCons (tOp rAddA (tVar 5) (tC (.int 1))) tNil)) (W0 E)) tNext) (tTryF K (.ref (He.ga K "RiseError")) 8 (tMkX (He.ga K "BadLine") "line" (tCons (tOp rAddA (tVar 5) (tC (.int 1))) tNil)) (W0 E) (fun W => (tDrop (tBM K "list" rAppend (tVar 3) (tCons (tMakeS (He.ga K "Rule") (sp_Rule_init K) (List.drop 1 [.str ""]) (WE W) (tCons (tOp (rIx K) (tVar 7) (tC (.int 0))) (tCons (tOp (rIx K) (tVar 7) (tC (.int 1))) tNil))) tNil)))))))) (tRet (tMakeSt K (He.ga K "Book") (spStar 1 (sp_Book_init K)) (WE (W0 E)) (tVar 0) (tVar 3)))))))
def sp_Book_read (K : Frg) : Sp := fun vs H Q E => vs.length = 2 ∧ t_Book_read K E { nx := fun _ H' => Q .non H', rt := Q } (start N_Book_read vs) H
theorem sc_Book_read : FnScope N_Book_read ["cls", "text"] (defScope s_Book_read) := ⟨rfl, rfl, rfl, by decide +kernel, rfl, by decide +kernel, by decide +kernel⟩
theorem ok_Book_read (T : Txt PROG K mg) : ∃ fd, FnOk PROG w K mg base (L2.CX PROG w) 4 (Rz.pC "Book" "read" K) fd ["cls", "text"] (sp_Book_read K) ∧ FunD K "read" "Book.read" (defArgs s_Book_read) (defBody s_Book_read) (defScope s_Book_read) [] [] (Rz.pC "Book" "read" K) fd := by
  obtain ⟨fd_as_string, G_as_string, D_as_string⟩ := ok_as_string (w := w) (base := base) T
  obtain ⟨fd_Rule_init, G_Rule_init, D_Rule_init⟩ := ok_Rule_init (w := w) (base := base) T
  obtain ⟨fd_Book_init, G_Book_init, D_Book_init⟩ := ok_Book_init (w := w) (base := base) T
  have b_as_string_1 : Binds K fd_as_string _ [] := D_as_string.bindsN (ps := ["text"]) (fun _ _ _ _ _ _ us hl => match us, hl with | [_], _ => rfl)
  obtain ⟨ds_Rule_init_3, V_Rule_init_3, b_Rule_init_3⟩ := D_Rule_init.binds1 (ps := ["self", "left", "right"]) 3 1 (by simp) rfl (fun _ _ _ _ _ _ _ us its h1 h2 => match us, its, h1, h2 with | [_, _, _], [_], _, _ => ⟨_, rfl, rfl⟩)
  obtain ⟨fd, F⟩ := T.F_Book_read
  refine ⟨fd, F.ok sc_Book_read (fun vs H Q E h => h.1) (fun cdv A outer s H vs Q E hr h => ⟨t_Book_read K E, ?_, h.2⟩), F⟩
  exact (pss_cons (ps_set (i := 2) sc_Book_read.nd rfl (by first | exact Or.inl rfl | exact Or.inr rfl) (pe_callSD G_as_string (hr.mono (by decide)) rfl T.g_as_string D_as_string.kp b_as_string_1 .nil (fun σ => passN (takes_of rfl rfl rfl rfl) σ) (pa_cons (pv 1) pa_nil))) (pss_cons (ps_set (i := 3) sc_Book_read.nd rfl (by first | exact Or.inl rfl | exact Or.inr rfl) (pe_lst pa_nil)) (pss_cons (ps_set (i := 4) sc_Book_read.nd rfl (by first | exact Or.inl rfl | exact Or.inr rfl) (pe_ifExp (pt_cmpR (op_neA hr) (pv 2) pe_str (nomark _)) (pe_splitS (pv 2) pe_str) (pe_lst pa_nil))) (pss_cons (ps_for (passes_of rfl) rfl (pi_enum rfl T.f_enumerate (pa_cons (pv 4) pa_nil)) (pg_tup rfl (pgs_cons (pg_name (i := 5) sc_Book_read.nd rfl (by first | exact Or.inl rfl | exact Or.inr rfl)) (pgs_cons (pg_name (i := 6) sc_Book_read.nd rfl (by first | exact Or.inl rfl | exact Or.inr rfl)) pgs_nil))) (pss_cons (ps_set (i := 7) sc_Book_read.nd rfl (by first | exact Or.inl rfl | exact Or.inr rfl) (pe_splitS (pv 6) pe_str)) (pss_cons (ps_if (pt_cmpR (op_neA hr) (pe_callB c_len rfl T.f_len (by decide +kernel) (pa_cons (pv 7) pa_nil)) pe_int (nomark _)) (pss_one (ps_raise rfl (takes_of rfl rfl rfl rfl) (pmk_sup1 T.x_BadLine T.f_super hr rfl T.g_BadLine (pa_cons (pe_op op_addA (pv 5) pe_int) pa_nil)))) pss_nil) (pss_one (ps_try_from (i := 8) rfl rfl sc_Book_read.nd (takes_of rfl rfl rfl rfl) rfl rfl ⟨rfl, by decide, Or.inl T.g_RiseError⟩ (by decide) (fun W pn xe tk po => by exact (pss_one (ps_expr (pe_bm PySem.F.plainAttrs_list PySem.F.slot_list_append PySem.F.type_list_append mt_append (pv 3) (pa_cons (pe_makeS T.mk_Rule G_Rule_init (hr.mono (by decide)) rfl T.g_Rule b_Rule_init_3 V_Rule_init_3 (fun σ => L2N.passAt tk σ) (pa_cons (pe_ix ix_seq (pv 7) pe_int (fun _ _ => rfl)) (pa_cons (pe_ix ix_seq (pv 7) pe_int (fun _ _ => rfl)) pa_nil))) pa_nil))))) (fun a pn => by exact (pmkF_sup1 T.x_BadLine T.f_super hr.d5 rfl T.g_BadLine (pa_cons (pe_op op_addA (pv 5) pe_int) pa_nil)))))))) (pss_one (ps_ret (pe_makeSt (pv 0) T.mk_Book G_Book_init (hr.mono (by decide)) (fun σ => passAt (takes_of rfl rfl rfl rfl) σ) (pv 3))))))))
/-! _law_try_make -/
abbrev N_law_try_make : List Str := ["_law_text", "e", "_law_book"]
def t_law_try_make (K : Frg) (E : XK) : TS :=
  (tSeq (tTry K (W0 E) (fun W => (tAsg (tCMS (He.ga K "Book") (sp_Book_read K) (WE W) (tC (.ref (He.ga K "Book"))) (tCons (tVar 0) tNil)) (gName 2))) [⟨.ref (He.ga K "BadLine"), some 1, fun a cls d => (tRet (tTup (tCons (tC (.str "line")) (tCons (tXf a cls d (He.ga K "BadLine") "line" (tVar 1)) tNil))))⟩, ⟨.ref (He.ga K "BookFull"), none, fun a cls d => (tRet (tTup (tCons (tC (.str "full")) (tCons (tC (.int 0)) tNil))))⟩]) (tRet (tTup (tCons (tC (.str "book")) (tCons (tVar 2) tNil)))))
def sp_law_try_make (K : Frg) : Sp := fun vs H Q E => vs.length = 1 ∧ t_law_try_make K E { nx := fun _ H' => Q .non H', rt := Q } (start N_law_try_make vs) H
theorem sc_law_try_make : FnScope N_law_try_make ["_law_text"] (defScope s_law_try_make) := ⟨rfl, rfl, rfl, by decide +kernel, rfl, by decide +kernel, by decide +kernel⟩
theorem ok_law_try_make (T : Txt PROG K mg) : ∃ fd, FnOk PROG w K mg base (L2.CX PROG w) 5 (Rz.pG "_law_try_make" K) fd ["_law_text"] (sp_law_try_make K) ∧ FunD K "_law_try_make" "_law_try_make" (defArgs s_law_try_make) (defBody s_law_try_make) (defScope s_law_try_make) [] [] (Rz.pG "_law_try_make" K) fd := by
  obtain ⟨fd_Book_read, G_Book_read, D_Book_read⟩ := ok_Book_read (w := w) (base := base) T
  have b_Book_read_2 : Binds K fd_Book_read _ [] := D_Book_read.bindsN (ps := ["cls", "text"]) (fun _ _ _ _ _ _ us hl => match us, hl with | [_, _], _ => rfl)
  obtain ⟨fd, F⟩ := T.F_law_try_make
  refine ⟨fd, F.ok sc_law_try_make (fun vs H Q E h => h.1) (fun cdv A outer s H vs Q E hr h => ⟨t_law_try_make K E, ?_, h.2⟩), F⟩
  exact (pss_cons (ps_tryM rfl rfl sc_law_try_make.nd (takes_of rfl rfl rfl rfl) (fun W pn xe tk po => by exact (pss_one (ps_set (i := 2) sc_law_try_make.nd rfl (by first | exact Or.inl rfl | exact Or.inr rfl) (pe_cmS (pe_glob rfl T.g_Book rfl) T.cm_Book_read (G_Book_read.rawN b_Book_read_2) (hr.mono (by decide)) (fun σ => passAt tk σ) (pa_cons (pv 0) pa_nil))))) (HdsMix.consA (i := 1) rfl rfl ⟨rfl, by decide, Or.inl T.g_BadLine⟩ (fun a oe cls d pn hz hf => by exact (pss_one (ps_ret (pe_tup (pa_cons pe_str (pa_cons (pe_xf (T.xb_BadLine).2 T.n_BadLine_line hz hf (pv 1)) pa_nil)))))) (HdsMix.cons ⟨rfl, by decide, Or.inl T.g_BookFull⟩ (fun a oe cls d pn hz hf => by exact (pss_one (ps_ret (pe_tup (pa_cons pe_str (pa_cons pe_int pa_nil)))))) HdsMix.nil))) (pss_one (ps_ret (pe_tup (pa_cons pe_str (pa_cons (pv 2) pa_nil))))))
/-! _law_is_int -/
abbrev N_law_is_int : List Str := ["_law_value"]
def t_law_is_int (K : Frg) (E : XK) : TS :=
  (tRet (tAndV (tCB (rIsiA K) (tCons (tVar 0) (tCons (tC (.ty "int")) tNil))) (tNotV (tCB (rIsiA K) (tCons (tVar 0) (tCons (tC (.ty "bool")) tNil))))))
def sp_law_is_int (K : Frg) : Sp := fun vs H Q E => vs.length = 1 ∧ t_law_is_int K E { nx := fun _ H' => Q .non H', rt := Q } (start N_law_is_int vs) H
theorem sc_law_is_int : FnScope N_law_is_int ["_law_value"] (defScope s_law_is_int) := ⟨rfl, rfl, rfl, by decide +kernel, rfl, by decide +kernel, by decide +kernel⟩
theorem ok_law_is_int (T : Txt PROG K mg) : ∃ fd, FnOk PROG w K mg base (L2.CX PROG w) 1 (Rz.pG "_law_is_int" K) fd ["_law_value"] (sp_law_is_int K) ∧ FunD K "_law_is_int" "_law_is_int" (defArgs s_law_is_int) (defBody s_law_is_int) (defScope s_law_is_int) [] [] (Rz.pG "_law_is_int" K) fd := by
  obtain ⟨fd, F⟩ := T.F_law_is_int
  refine ⟨fd, F.ok sc_law_is_int (fun vs H Q E h => h.1) (fun cdv A outer s H vs Q E hr h => ⟨t_law_is_int K E, ?_, h.2⟩), F⟩
  exact (pss_one (ps_ret (pe_and (pe_callB c_isi rfl T.f_isinstance (by decide +kernel) (pa_cons (pv 0) (pa_cons (pe_bltn rfl T.f_int (by decide +kernel) rfl) pa_nil))) (pe_one (pe_not (pe_callB c_isi rfl T.f_isinstance (by decide +kernel) (pa_cons (pv 0) (pa_cons (pe_bltn rfl T.f_bool (by decide +kernel) rfl) pa_nil))))))))
/-! Book.__iter__ -/
abbrev N_Book_iter : List Str := ["self"]
def t_Book_iter (K : Frg) (E : XK) : TS :=
  (tRet (tCB (rIterA K) (tCons (tFld K (tVar 0) "rules") tNil)))
def sp_Book_iter (K : Frg) : Sp := fun vs H Q E => vs.length = 1 ∧ t_Book_iter K E { nx := fun _ H' => Q .non H', rt := Q } (start N_Book_iter vs) H
theorem sc_Book_iter : FnScope N_Book_iter ["self"] (defScope s_Book_iter) := ⟨rfl, rfl, rfl, by decide +kernel, rfl, by decide +kernel, by decide +kernel⟩
theorem ok_Book_iter (T : Txt PROG K mg) : ∃ fd, FnOk PROG w K mg base (L2N.CX PROG w) 1 (Rz.pM "Book" "__iter__" K) fd ["self"] (sp_Book_iter K) ∧ FunD K "__iter__" "Book.__iter__" (defArgs s_Book_iter) (defBody s_Book_iter) (defScope s_Book_iter) [] [] (Rz.pM "Book" "__iter__" K) fd := by
  obtain ⟨fd, F⟩ := T.F_Book_iter
  refine ⟨fd, F.ok sc_Book_iter (fun vs H Q E h => h.1) (fun cdv A outer s H vs Q E hr h => ⟨t_Book_iter K E, ?_, h.2⟩), F⟩
  exact (pss_one (ps_ret (pe_callB c_iter rfl T.f_iter (by decide +kernel) (pa_cons (pe_fld (pv 0) rfl) pa_nil))))
/-! Rule.__str__ -/
abbrev N_Rule_str : List Str := ["self"]
def t_Rule_str (K : Frg) (E : XK) : TS :=
  (tRet (tJoined [(tFmt (tFld K (tVar 0) "left")), (tC (.str ":")), (tFmt (tFld K (tVar 0) "right"))]))
def sp_Rule_str (K : Frg) : Sp := fun vs H Q E => vs.length = 1 ∧ t_Rule_str K E { nx := fun _ H' => Q .non H', rt := Q } (start N_Rule_str vs) H
theorem sc_Rule_str : FnScope N_Rule_str ["self"] (defScope s_Rule_str) := ⟨rfl, rfl, rfl, by decide +kernel, rfl, by decide +kernel, by decide +kernel⟩
theorem ok_Rule_str (T : Txt PROG K mg) : ∃ fd, FnOk PROG w K mg base (L2.CX PROG w) 1 (Rz.pM "Rule" "__str__" K) fd ["self"] (sp_Rule_str K) ∧ FunD K "__str__" "Rule.__str__" (defArgs s_Rule_str) (defBody s_Rule_str) (defScope s_Rule_str) [] [] (Rz.pM "Rule" "__str__" K) fd := by
  obtain ⟨fd, F⟩ := T.F_Rule_str
  refine ⟨fd, F.ok sc_Rule_str (fun vs H Q E h => h.1) (fun cdv A outer s H vs Q E hr h => ⟨t_Rule_str K E, ?_, h.2⟩), F⟩
  exact (pss_one (ps_ret (pe_joined (PJ.cons (pe_fmt (pe_fld (pv 0) rfl)) (PJ.cons pe_str (PJ.cons (pe_fmt (pe_fld (pv 0) rfl)) PJ.nil))))))
/-! Book.written -/
abbrev N_Book_written : List Str := ["self", "rule"]
def t_Book_written (K : Frg) (E : XK) : TS :=
  (tRet (tM1 (rJoinA K) (tC (.str "\n")) (tLc (iList K (tFld K (tVar 0) "rules")) (gName 1) tYes (tStrO (He.ga K "Rule") (sp_Rule_str K) (WE WN) (tCons (tVar 1) tNil)) [1])))
def sp_Book_written (K : Frg) : Sp := fun vs H Q E => vs.length = 1 ∧ t_Book_written K E { nx := fun _ H' => Q .non H', rt := Q } (start N_Book_written vs) H
theorem sc_Book_written : FnScope N_Book_written ["self"] (defScope s_Book_written) := ⟨rfl, rfl, rfl, by decide +kernel, rfl, by decide +kernel, by decide +kernel⟩
theorem ok_Book_written (T : Txt PROG K mg) : ∃ fd, FnOk PROG w K mg base (L2.CX PROG w) 4 (Rz.pM "Book" "written" K) fd ["self"] (sp_Book_written K) ∧ FunD K "written" "Book.written" (defArgs s_Book_written) (defBody s_Book_written) (defScope s_Book_written) [] [] (Rz.pM "Book" "written" K) fd := by
  obtain ⟨fd_Rule_str, G_Rule_str, D_Rule_str⟩ := ok_Rule_str (w := w) (base := base) T
  have b_Rule_str_1 : Binds K fd_Rule_str _ [] := D_Rule_str.bindsN (ps := ["self"]) (fun _ _ _ _ _ _ us hl => match us, hl with | [_], _ => rfl)
  obtain ⟨fd, F⟩ := T.F_Book_written
  refine ⟨fd, F.ok sc_Book_written (fun vs H Q E h => h.1) (fun cdv A outer s H vs Q E hr h => ⟨t_Book_written K E, ?_, h.2⟩), F⟩
  exact (pss_one (ps_ret (pe_joinA pe_str (pe_lc (own := [("rule", 1)]) rfl sc_Book_written.nd (pi_list (pe_fld (pv 0) rfl)) (blkOk_by (own := [("rule", 1)]) (N := N_Book_written) (sc := defScope s_Book_written) (by decide +kernel)) (fun _ _ _ _ _ => (pg_name (i := 1) sc_Book_written.nd rfl (by first | exact Or.inl rfl | exact Or.inr rfl))) (fun _ _ _ _ _ => pts_nil) (fun _ _ _ _ _ => (pe_strO T.m_Rule___str__ G_Rule_str (hr.mono (by decide)) b_Rule_str_1 (fun σ => passAt takes0 σ) rfl T.f_str (pa_cons (pv 1) pa_nil)))))))
/-! _law_same -/
abbrev N_law_same : List Str := ["_law_told", "_law_due", "_law_text", "_law_book", "_law_rule"]
def t_law_same (K : Frg) (E : XK) : TS :=
  (tSeq (tIfS (tTest (tOp (rNeA K) (tOp (rIx K) (tVar 0) (tC (.int 0))) (tOp (rIx K) (tVar 1) (tC (.int 0))))) (tRet (tC (.bl false))) tNext) (tSeq (tIfS (tTest (tOp (rNeA K) (tOp (rIx K) (tVar 1) (tC (.int 0))) (tC (.str "book")))) (tRet (tAndV (tCallSD (sp_law_is_int K) [] (WE (W0 E)) (tCons (tOp (rIx K) (tVar 0) (tC (.int 1))) tNil)) (tOp (rEqA K) (tOp (rIx K) (tVar 0) (tC (.int 1))) (tOp (rIx K) (tVar 1) (tC (.int 1)))))) tNext) (tSeq (tAsg (tOp (rIx K) (tVar 0) (tC (.int 1))) (gName 3)) (tSeq (tIfS (tTest (tOp (rNeA K) (tLc (iOwn K (He.ga K "Book") (sp_Book_iter K) (fun _ => E0) (tVar 3)) (gName 4) tYes (tTup (tCons (tFld K (tVar 4) "left") (tCons (tFld K (tVar 4) "right") tNil))) [4]) (tOp (rIx K) (tVar 1) (tC (.int 1))))) (tRet (tC (.bl false))) tNext) (tRet (tAndV (tCB (rIsiA K) (tCons (tMethZ (He.ga K "Book") "written" (sp_Book_written K) [] (WE (W0 E)) (tVar 3) tNil) (tCons (tC (.ty "str")) tNil))) (tOp (rEqA K) (tMethZ (He.ga K "Book") "written" (sp_Book_written K) [] (WE (W0 E)) (tVar 3) tNil) (tVar 2))))))))
def sp_law_same (K : Frg) : Sp := fun vs H Q E => vs.length = 3 ∧ t_law_same K E { nx := fun _ H' => Q .non H', rt := Q } (start N_law_same vs) H
theorem sc_law_same : FnScope N_law_same ["_law_told", "_law_due", "_law_text"] (defScope s_law_same) := ⟨rfl, rfl, rfl, by decide +kernel, rfl, by decide +kernel, by decide +kernel⟩
theorem ok_law_same (T : Txt PROG K mg) : ∃ fd, FnOk PROG w K mg base (L2.CX PROG w) 5 (Rz.pG "_law_same" K) fd ["_law_told", "_law_due", "_law_text"] (sp_law_same K) ∧ FunD K "_law_same" "_law_same" (defArgs s_law_same) (defBody s_law_same) (defScope s_law_same) [] [] (Rz.pG "_law_same" K) fd := by
  obtain ⟨fd_law_is_int, G_law_is_int, D_law_is_int⟩ := ok_law_is_int (w := w) (base := base) T
  obtain ⟨fd_Book_iter, G_Book_iter, D_Book_iter⟩ := ok_Book_iter (w := w) (base := base) T
  obtain ⟨fd_Book_written, G_Book_written, D_Book_written⟩ := ok_Book_written (w := w) (base := base) T
  have b_law_is_int_1 : Binds K fd_law_is_int _ [] := D_law_is_int.bindsN (ps := ["_law_value"]) (fun _ _ _ _ _ _ us hl => match us, hl with | [_], _ => rfl)
  have b_Book_iter_1 : Binds K fd_Book_iter _ [] := D_Book_iter.bindsN (ps := ["self"]) (fun _ _ _ _ _ _ us hl => match us, hl with | [_], _ => rfl)
  have b_Book_written_1 : Binds K fd_Book_written _ [] := D_Book_written.bindsN (ps := ["self"]) (fun _ _ _ _ _ _ us hl => match us, hl with | [_], _ => rfl)
  obtain ⟨fd, F⟩ := T.F_law_same
  refine ⟨fd, F.ok sc_law_same (fun vs H Q E h => h.1) (fun cdv A outer s H vs Q E hr h => ⟨t_law_same K E, ?_, h.2⟩), F⟩
  exact (pss_cons (ps_if (pt_cmpR (op_neA hr) (pe_ix ix_seq (pv 0) pe_int (fun _ _ => rfl)) (pe_ix ix_seq (pv 1) pe_int (fun _ _ => rfl)) (nomark _)) (pss_one (ps_ret pe_bl)) pss_nil) (pss_cons (ps_if (pt_cmpR (op_neA hr) (pe_ix ix_seq (pv 1) pe_int (fun _ _ => rfl)) pe_str (nomark _)) (pss_one (ps_ret (pe_and (pe_callSD G_law_is_int (hr.mono (by decide)) rfl T.g__law_is_int D_law_is_int.kp b_law_is_int_1 .nil (fun σ => passAt (takes_of rfl rfl rfl rfl) σ) (pa_cons (pe_ix ix_seq (pv 0) pe_int (fun _ _ => rfl)) pa_nil)) (pe_one (pe_cmpR (op_eqA hr) (pe_ix ix_seq (pv 0) pe_int (fun _ _ => rfl)) (pe_ix ix_seq (pv 1) pe_int (fun _ _ => rfl)) (nomark _)))))) pss_nil) (pss_cons (ps_set (i := 3) sc_law_same.nd rfl (by first | exact Or.inl rfl | exact Or.inr rfl) (pe_ix ix_seq (pv 0) pe_int (fun _ _ => rfl))) (pss_cons (ps_if (pt_cmpR (op_neA hr) (PE.young rfl (by refine pe_lc (own := [("_law_rule", 4)]) rfl sc_law_same.nd ?e ?f ?g ?h ?i; (case e => exact (pi_own rfl T.m_Book___iter__ G_Book_iter (hr.mono (by decide)) b_Book_iter_1 (fun σ => passE0N σ) (pv 3))); (case f => exact (blkOk_by (own := [("_law_rule", 4)]) (N := N_law_same) (sc := defScope s_law_same) (by decide +kernel))); (case g => exact (fun _ _ _ _ _ => (pg_name (i := 4) sc_law_same.nd rfl (by first | exact Or.inl rfl | exact Or.inr rfl)))); (case h => exact (fun _ _ _ _ _ => pts_nil)); (case i => exact (fun _ _ _ _ _ => (pe_tup (pa_cons (pe_fld (pv 4) rfl) (pa_cons (pe_fld (pv 4) rfl) pa_nil))))))) (pe_ix ix_seq (pv 1) pe_int (fun _ _ => rfl)) (nomark _)) (pss_one (ps_ret pe_bl)) pss_nil) (pss_one (ps_ret (pe_and (pe_callB c_isi rfl T.f_isinstance (by decide +kernel) (pa_cons (pe_meth0Z (pv 3) T.c_Book T.m_Book_written G_Book_written (hr.mono (by decide)) b_Book_written_1 .nil (fun σ => passAt (takes_of rfl rfl rfl rfl) σ)) (pa_cons (pe_bltn rfl T.f_str (by decide +kernel) rfl) pa_nil))) (pe_one (pe_cmpR (op_eqA hr) (pe_meth0Z (pv 3) T.c_Book T.m_Book_written G_Book_written (hr.mono (by decide)) b_Book_written_1 .nil (fun σ => passAt (takes_of rfl rfl rfl rfl) σ)) (pv 2) (nomark _))))))))))
/-! Book.data -/
abbrev N_Book_data : List Str := ["self"]
def t_Book_data (K : Frg) (E : XK) : TS :=
  (tRet (tBM0 K "str" rEnc (tMethZ (He.ga K "Book") "written" (sp_Book_written K) [] (WE (W0 E)) (tVar 0) tNil)))
def sp_Book_data (K : Frg) : Sp := fun vs H Q E => vs.length = 1 ∧ t_Book_data K E { nx := fun _ H' => Q .non H', rt := Q } (start N_Book_data vs) H
theorem sc_Book_data : FnScope N_Book_data ["self"] (defScope s_Book_data) := ⟨rfl, rfl, rfl, by decide +kernel, rfl, by decide +kernel, by decide +kernel⟩
theorem ok_Book_data (T : Txt PROG K mg) : ∃ fd, FnOk PROG w K mg base (L2.CX PROG w) 5 (Rz.pM "Book" "data" K) fd ["self"] (sp_Book_data K) ∧ FunD K "data" "Book.data" (defArgs s_Book_data) (defBody s_Book_data) (defScope s_Book_data) [] [] (Rz.pM "Book" "data" K) fd := by
  obtain ⟨fd_Book_written, G_Book_written, D_Book_written⟩ := ok_Book_written (w := w) (base := base) T
  have b_Book_written_1 : Binds K fd_Book_written _ [] := D_Book_written.bindsN (ps := ["self"]) (fun _ _ _ _ _ _ us hl => match us, hl with | [_], _ => rfl)
  obtain ⟨fd, F⟩ := T.F_Book_data
  refine ⟨fd, F.ok sc_Book_data (fun vs H Q E h => h.1) (fun cdv A outer s H vs Q E hr h => ⟨t_Book_data K E, ?_, h.2⟩), F⟩
  exact (pss_one (ps_ret (pe_bm0 PySem.F.plainAttrs_str PySem.F.slot_str_encode PySem.F.type_str_encode mt_enc (pe_meth0Z (pv 0) T.c_Book T.m_Book_written G_Book_written (hr.mono (by decide)) b_Book_written_1 .nil (fun σ => passAt (takes_of rfl rfl rfl rfl) σ)))))
/-! Row.__len__ -/
abbrev N_Row_len : List Str := ["self"]
def t_Row_len (K : Frg) (E : XK) : TS :=
  (tRet (tCB (rLenA K) (tCons (tFld K (tVar 0) "pairs") tNil)))
def sp_Row_len (K : Frg) : Sp := fun vs H Q E => vs.length = 1 ∧ t_Row_len K E { nx := fun _ H' => Q .non H', rt := Q } (start N_Row_len vs) H
theorem sc_Row_len : FnScope N_Row_len ["self"] (defScope s_Row_len) := ⟨rfl, rfl, rfl, by decide +kernel, rfl, by decide +kernel, by decide +kernel⟩
theorem ok_Row_len (T : Txt PROG K mg) : ∃ fd, FnOk PROG w K mg base (L2N.CX PROG w) 1 (Rz.pM "Row" "__len__" K) fd ["self"] (sp_Row_len K) ∧ FunD K "__len__" "Row.__len__" (defArgs s_Row_len) (defBody s_Row_len) (defScope s_Row_len) [] [] (Rz.pM "Row" "__len__" K) fd := by
  obtain ⟨fd, F⟩ := T.F_Row_len
  refine ⟨fd, F.ok sc_Row_len (fun vs H Q E h => h.1) (fun cdv A outer s H vs Q E hr h => ⟨t_Row_len K E, ?_, h.2⟩), F⟩
  exact (pss_one (ps_ret (pe_callB c_len rfl T.f_len (by decide +kernel) (pa_cons (pe_fld (pv 0) rfl) pa_nil))))
/-! Row.__init__ -/
abbrev N_Row_init : List Str := ["self", "text", "heights", "signs", "height"]
def t_Row_init (K : Frg) (E : XK) : TS :=
  (tSeq (tAsg (tCallSD (sp_as_string K) [] (WE (W0 E)) (tCons (tVar 1) tNil)) (gName 3)) (tSeq (tDrop (tCallSD (sp_check_text K) [] (WE (W0 E)) (tCons (tVar 3) tNil))) (tSeq (tIfS (tTest (tOp rIsN' (tVar 2) (tC .non))) (tAsg (tOp rMulA (tLst (tCons (tC (.int 0)) tNil)) (tCB (rLenA K) (tCons (tVar 3) tNil))) (gName 2)) tNext) (tSeq (tIfS (tTest (tOp (rNeA K) (tCB (rLenA K) (tCons (tVar 2) tNil)) (tCB (rLenA K) (tCons (tVar 3) tNil)))) (tRaise (tMkX0 (He.ga K "Uneven")) (W0 E)) tNext) (tSeq (tFor (iList K (tVar 2)) (gName 4) (tIfS (tNot (tTest (tChain rLeA rLeA (tC (.int 0)) (tVar 4) (tC (.int 9))))) (tRaise (tMkX (He.ga K "BadHeight") "height" (tCons (tVar 4) tNil)) (W0 E)) tNext)) (sFld K (tVar 0) (tZipS K (tCons (tVar 3) (tCons (tVar 2) tNil))) "pairs"))))))
def sp_Row_init (K : Frg) : Sp := fun vs H Q E => vs.length = 3 ∧ t_Row_init K E { nx := fun _ H' => Q .non H', rt := Q } (start N_Row_init vs) H
theorem sc_Row_init : FnScope N_Row_init ["self", "text", "heights"] (defScope s_Row_init) := ⟨rfl, rfl, rfl, by decide +kernel, rfl, by decide +kernel, by decide +kernel⟩
theorem ok_Row_init (T : Txt PROG K mg) : ∃ fd, FnOk PROG w K mg base (L2N.CX PROG w) 2 (Rz.pM "Row" "__init__" K) fd ["self", "text", "heights"] (sp_Row_init K) ∧ FunD K "__init__" "Row.__init__" (defArgs s_Row_init) (defBody s_Row_init) (defScope s_Row_init) [.str "", .non] [] (Rz.pM "Row" "__init__" K) fd := by
  obtain ⟨fd_as_string, G_as_string, D_as_string⟩ := ok_as_string (w := w) (base := base) T
  obtain ⟨fd_check_text, G_check_text, D_check_text⟩ := ok_check_text (w := w) (base := base) T
  have b_as_string_1 : Binds K fd_as_string _ [] := D_as_string.bindsN (ps := ["text"]) (fun _ _ _ _ _ _ us hl => match us, hl with | [_], _ => rfl)
  have b_check_text_1 : Binds K fd_check_text _ [] := D_check_text.bindsN (ps := ["text"]) (fun _ _ _ _ _ _ us hl => match us, hl with | [_], _ => rfl)
  obtain ⟨fd, F⟩ := T.F_Row_init
  refine ⟨fd, F.ok sc_Row_init (fun vs H Q E h => h.1) (fun cdv A outer s H vs Q E hr h => ⟨t_Row_init K E, ?_, h.2⟩), F⟩
  exact (pss_cons (ps_set (i := 3) sc_Row_init.nd rfl (by first | exact Or.inl rfl | exact Or.inr rfl) (pe_callSD G_as_string (hr.mono (by decide)) rfl T.g_as_string D_as_string.kp b_as_string_1 .nil (fun σ => L2N.passAt (L2N.takes_of rfl rfl rfl rfl) σ) (pa_cons (pv 1) pa_nil))) (pss_cons (ps_expr (pe_callSD G_check_text (hr.mono (by decide)) rfl T.g_check_text D_check_text.kp b_check_text_1 .nil (fun σ => L2N.passAt (L2N.takes_of rfl rfl rfl rfl) σ) (pa_cons (pv 3) pa_nil))) (pss_cons (ps_if (pt_cmpR op_isA (pv 2) pe_non (nomark _)) (pss_one (ps_set (i := 2) sc_Row_init.nd rfl (by first | exact Or.inl rfl | exact Or.inr rfl) (pe_op op_mulA (pe_lst (pa_cons pe_int pa_nil)) (pe_callB c_len rfl T.f_len (by decide +kernel) (pa_cons (pv 3) pa_nil))))) pss_nil) (pss_cons (ps_if (pt_cmpR (op_neA hr) (pe_callB c_len rfl T.f_len (by decide +kernel) (pa_cons (pv 2) pa_nil)) (pe_callB c_len rfl T.f_len (by decide +kernel) (pa_cons (pv 3) pa_nil)) (nomark _)) (pss_one (ps_raiseN rfl (L2N.takes_of rfl rfl rfl rfl) (pmkF_sup0 T.x_Uneven T.f_super hr.d5 rfl T.g_Uneven))) pss_nil) (pss_cons (ps_for (passes_of rfl) rfl (pi_list (pv 2)) (pg_name (i := 4) sc_Row_init.nd rfl (by first | exact Or.inl rfl | exact Or.inr rfl)) (pss_one (ps_if (pt_not (pt_chain op_leA op_leA pe_int (pv 4) (pe_gint rfl T.k_TOP))) (pss_one (ps_raiseN rfl (L2N.takes_of rfl rfl rfl rfl) (pmkF_sup1 T.x_BadHeight T.f_super hr.d5 rfl T.g_BadHeight (pa_cons (pv 4) pa_nil)))) pss_nil))) (pss_one (ps_fld (pv 0) (pe_zipS rfl rfl T.f_list rfl T.f_zip (pa_cons (pv 3) (pa_cons (pv 2) pa_nil))) rfl)))))))
/-! _law_first_bad -/
abbrev N_law_first_bad : List Str := ["_law_data", "e"]
def t_law_first_bad (K : Frg) (E : XK) : TS :=
  (tTry K (W0 E) (fun W => (tRet (tTup (tCons (tC (.str "row")) (tCons (tLenO (He.ga K "Row") (sp_Row_len K) (WE W) (tCons (tMakeS (He.ga K "Row") (sp_Row_init K) (List.drop 1 [.str "", .non]) (WE W) (tCons (tVar 0) tNil)) tNil)) tNil))))) [⟨.ref (He.ga K "BadSign"), some 1, fun a cls d => (tRet (tTup (tCons (tC (.str "sign")) (tCons (tXf a cls d (He.ga K "BadSign") "at" (tVar 1)) tNil))))⟩])
def sp_law_first_bad (K : Frg) : Sp := fun vs H Q E => vs.length = 1 ∧ t_law_first_bad K E { nx := fun _ H' => Q .non H', rt := Q } (start N_law_first_bad vs) H
theorem sc_law_first_bad : FnScope N_law_first_bad ["_law_data"] (defScope s_law_first_bad) := ⟨rfl, rfl, rfl, by decide +kernel, rfl, by decide +kernel, by decide +kernel⟩
theorem ok_law_first_bad (T : Txt PROG K mg) : ∃ fd, FnOk PROG w K mg base (L2.CX PROG w) 4 (Rz.pG "_law_first_bad" K) fd ["_law_data"] (sp_law_first_bad K) ∧ FunD K "_law_first_bad" "_law_first_bad" (defArgs s_law_first_bad) (defBody s_law_first_bad) (defScope s_law_first_bad) [] [] (Rz.pG "_law_first_bad" K) fd := by
  obtain ⟨fd_Row_len, G_Row_len, D_Row_len⟩ := ok_Row_len (w := w) (base := base) T
  obtain ⟨fd_Row_init, G_Row_init, D_Row_init⟩ := ok_Row_init (w := w) (base := base) T
  have b_Row_len_1 : Binds K fd_Row_len _ [] := D_Row_len.bindsN (ps := ["self"]) (fun _ _ _ _ _ _ us hl => match us, hl with | [_], _ => rfl)
  obtain ⟨ds_Row_init_2, V_Row_init_2, b_Row_init_2⟩ := D_Row_init.binds1 (ps := ["self", "text", "heights"]) 2 1 (by simp) rfl (fun _ _ _ _ _ _ _ us its h1 h2 => match us, its, h1, h2 with | [_, _], [_, _], _, _ => ⟨_, rfl, rfl⟩)
  obtain ⟨fd, F⟩ := T.F_law_first_bad
  refine ⟨fd, F.ok sc_law_first_bad (fun vs H Q E h => h.1) (fun cdv A outer s H vs Q E hr h => ⟨t_law_first_bad K E, ?_, h.2⟩), F⟩
  exact (pss_one (ps_tryM rfl rfl sc_law_first_bad.nd (takes_of rfl rfl rfl rfl) (fun W pn xe tk po => by exact (pss_one (ps_ret (pe_tup (pa_cons pe_str (pa_cons (pe_lenO T.m_Row___len__ G_Row_len (hr.mono (by decide)) b_Row_len_1 (fun σ => passN tk σ) rfl T.f_len (pa_cons (pe_makeS T.mk_Row G_Row_init (hr.mono (by decide)) rfl T.g_Row b_Row_init_2 V_Row_init_2 (fun σ => passN tk σ) (pa_cons (pv 0) pa_nil)) pa_nil)) pa_nil)))))) (HdsMix.consA (i := 1) rfl rfl ⟨rfl, by decide, Or.inl T.g_BadSign⟩ (fun a oe cls d pn hz hf => by exact (pss_one (ps_ret (pe_tup (pa_cons pe_str (pa_cons (pe_xf (T.xb_BadSign).2 T.n_BadSign_at hz hf (pv 1)) pa_nil)))))) HdsMix.nil)))
/-! law -/
abbrev N_law : List Str := ["_law_script", "_law_draws", "_law_signs", "_law_lines", "_law_k", "_law_text", "_law_due", "_law_told", "_law_left", "_law_at", "_law_data", "_law_sign"]
def t_law (K : Frg) (E : XK) : TS :=
  (tSeq (tAsg (tCallSD (sp_law_pool K) [] (WE (W0 E)) (tCons (tVar 0) tNil)) (gName 1)) (tSeq (tAsg (tCallSD (sp_law_alphabet K) [] (WE (W0 E)) (tCons (tVar 1) (tCons (tC (.int 3)) tNil))) (gName 2)) (tSeq (tAsg (tLst tNil) (gName 3)) (tSeq (tFor (iRng1 (tCons (tCallSD (sp_law_pick K) [] (WE (W0 E)) (tCons (tVar 1) (tCons (tC (.int 9)) tNil))) tNil)) (gName 4) (tSeq (tAsg (tCallSD (sp_law_word_of K) [] (WE (W0 E)) (tCons (tVar 1) (tCons (tVar 2) (tCons (tC (.int 1)) (tCons (tC (.int 4)) tNil))))) (gName 8)) (tDrop (tBM K "list" rAppend (tVar 3) (tCons (tOp rAddA (tOp rAddA (tVar 8) (tC (.str ":"))) (tCallSD (sp_law_word_of K) [] (WE (W0 E)) (tCons (tVar 1) (tCons (tVar 2) (tCons (tC (.int 0)) (tCons (tC (.int 4)) tNil)))))) tNil))))) (tSeq (tIfS (tAnd (tTest (tOp (rEqA K) (tCallSD (sp_law_pick K) [] (WE (W0 E)) (tCons (tVar 1) (tCons (tC (.int 2)) tNil))) (tC (.int 1)))) (tTest (tOp (rNeA K) (tVar 3) (tLst tNil)))) (tSeq (tAsg (tCallSD (sp_law_pick K) [] (WE (W0 E)) (tCons (tVar 1) (tCons (tCB (rLenA K) (tCons (tVar 3) tNil)) tNil))) (gName 9)) (tAsg (tCallSD (sp_law_change K) [] (WE (W0 E)) (tCons (tVar 1) (tCons (tOp (rIx K) (tVar 3) (tVar 9)) (tCons (tVar 2) tNil)))) (gSub (tVar 3) (tVar 9) rSetL))) tNext) (tSeq (tAsg (tM1 (rJoinA K) (tC (.str "\n")) (tVar 3)) (gName 5)) (tSeq (tAsg (tCallSD (sp_law_due_of K) [] (WE (W0 E)) (tCons (tVar 5) tNil)) (gName 6)) (tSeq (tAsg (tCallSD (sp_law_try_make K) [] (WE (W0 E)) (tCons (tVar 5) tNil)) (gName 7)) (tSeq (tIfS (tNot (tB (tCallSD (sp_law_same K) [] (WE (W0 E)) (tCons (tVar 7) (tCons (tVar 6) (tCons (tVar 5) tNil)))))) (tRet (tC (.bl false))) tNext) (tSeq (tIfS (tTest (tOp (rEqA K) (tOp (rIx K) (tVar 6) (tC (.int 0))) (tC (.str "book")))) (tSeq (tAsg (tMethZ (He.ga K "Book") "data" (sp_Book_data K) [] (WE (W0 E)) (tOp (rIx K) (tVar 7) (tC (.int 1))) tNil) (gName 10)) (tSeq (tIfS (tOr (tB (tCB (rIsiA K) (tCons (tVar 10) (tCons (tC (.ty "str")) tNil)))) (tTest (tOp (rNeA K) (tThenZ (tVar 10) kLstB) (tLc (iStr (tVar 5)) (gName 11) tYes (tCB (rOrd) (tCons (tVar 11) tNil)) [11])))) (tRet (tC (.bl false))) tNext) (tSeq (tIfS (tNot (tB (tCallSD (sp_law_same K) [] (WE (W0 E)) (tCons (tCallSD (sp_law_try_make K) [] (WE (W0 E)) (tCons (tVar 10) tNil)) (tCons (tVar 6) (tCons (tVar 5) tNil)))))) (tRet (tC (.bl false))) tNext) (tIfS (tTest (tOp (rNeA K) (tCallSD (sp_law_first_bad K) [] (WE (W0 E)) (tCons (tVar 10) tNil)) (tIf (tTest (tOp (rEqA K) (tVar 5) (tC (.str "")))) (tTup (tCons (tC (.str "row")) (tCons (tC (.int 0)) tNil))) (tTup (tCons (tC (.str "sign")) (tCons (tBM K "str" rFind (tVar 5) (tCons (tC (.str ":")) tNil)) tNil)))))) (tRet (tC (.bl false))) tNext)))) tNext) (tRet (tAndV (tCallSD (sp_law_same K) [] (WE (W0 E)) (tCons (tCallSD (sp_law_try_make K) [] (WE (W0 E)) (tCons (tC (.str "")) tNil)) (tCons (tTup (tCons (tC (.str "book")) (tCons (tLst tNil) tNil))) (tCons (tC (.str "")) tNil)))) (tCallSD (sp_law_same K) [] (WE (W0 E)) (tCons (tCallSD (sp_law_try_make K) [] (WE (W0 E)) (tCons (tVar 5) tNil)) (tCons (tVar 6) (tCons (tVar 5) tNil))))))))))))))))
def sp_law (K : Frg) : Sp := fun vs H Q E => vs.length = 1 ∧ t_law K E { nx := fun _ H' => Q .non H', rt := Q } (start N_law vs) H
theorem sc_law : FnScope N_law ["_law_script"] (defScope s_law) := ⟨rfl, rfl, rfl, by decide +kernel, rfl, by decide +kernel, by decide +kernel⟩
theorem ok_law (T : Txt PROG K mg) : ∃ fd, FnOk PROG w K mg base (L2.CX PROG w) 6 (Rz.pG "law" K) fd ["_law_script"] (sp_law K) ∧ FunD K "law" "law" (defArgs s_law) (defBody s_law) (defScope s_law) [] [] (Rz.pG "law" K) fd := by
  obtain ⟨fd_law_pool, G_law_pool, D_law_pool⟩ := ok_law_pool (w := w) (base := base) T
  obtain ⟨fd_law_alphabet, G_law_alphabet, D_law_alphabet⟩ := ok_law_alphabet (w := w) (base := base) T
  obtain ⟨fd_law_pick, G_law_pick, D_law_pick⟩ := ok_law_pick (w := w) (base := base) T
  obtain ⟨fd_law_word_of, G_law_word_of, D_law_word_of⟩ := ok_law_word_of (w := w) (base := base) T
  obtain ⟨fd_law_change, G_law_change, D_law_change⟩ := ok_law_change (w := w) (base := base) T
  obtain ⟨fd_law_due_of, G_law_due_of, D_law_due_of⟩ := ok_law_due_of (w := w) (base := base) T
  obtain ⟨fd_law_try_make, G_law_try_make, D_law_try_make⟩ := ok_law_try_make (w := w) (base := base) T
  obtain ⟨fd_law_same, G_law_same, D_law_same⟩ := ok_law_same (w := w) (base := base) T
  obtain ⟨fd_Book_data, G_Book_data, D_Book_data⟩ := ok_Book_data (w := w) (base := base) T
  obtain ⟨fd_law_first_bad, G_law_first_bad, D_law_first_bad⟩ := ok_law_first_bad (w := w) (base := base) T
  have b_law_pool_1 : Binds K fd_law_pool _ [] := D_law_pool.bindsN (ps := ["_law_script"]) (fun _ _ _ _ _ _ us hl => match us, hl with | [_], _ => rfl)
  have b_law_alphabet_2 : Binds K fd_law_alphabet _ [] := D_law_alphabet.bindsN (ps := ["_law_draws", "_law_many"]) (fun _ _ _ _ _ _ us hl => match us, hl with | [_, _], _ => rfl)
  have b_law_pick_2 : Binds K fd_law_pick _ [] := D_law_pick.bindsN (ps := ["_law_draws", "_law_many"]) (fun _ _ _ _ _ _ us hl => match us, hl with | [_, _], _ => rfl)
  have b_law_word_of_4 : Binds K fd_law_word_of _ [] := D_law_word_of.bindsN (ps := ["_law_draws", "_law_signs", "_law_least", "_law_greatest"]) (fun _ _ _ _ _ _ us hl => match us, hl with | [_, _, _, _], _ => rfl)
  have b_law_change_3 : Binds K fd_law_change _ [] := D_law_change.bindsN (ps := ["_law_draws", "_law_line", "_law_signs"]) (fun _ _ _ _ _ _ us hl => match us, hl with | [_, _, _], _ => rfl)
  have b_law_due_of_1 : Binds K fd_law_due_of _ [] := D_law_due_of.bindsN (ps := ["_law_text"]) (fun _ _ _ _ _ _ us hl => match us, hl with | [_], _ => rfl)
  have b_law_try_make_1 : Binds K fd_law_try_make _ [] := D_law_try_make.bindsN (ps := ["_law_text"]) (fun _ _ _ _ _ _ us hl => match us, hl with | [_], _ => rfl)
  have b_law_same_3 : Binds K fd_law_same _ [] := D_law_same.bindsN (ps := ["_law_told", "_law_due", "_law_text"]) (fun _ _ _ _ _ _ us hl => match us, hl with | [_, _, _], _ => rfl)
  have b_Book_data_1 : Binds K fd_Book_data _ [] := D_Book_data.bindsN (ps := ["self"]) (fun _ _ _ _ _ _ us hl => match us, hl with | [_], _ => rfl)
  have b_law_first_bad_1 : Binds K fd_law_first_bad _ [] := D_law_first_bad.bindsN (ps := ["_law_data"]) (fun _ _ _ _ _ _ us hl => match us, hl with | [_], _ => rfl)
  obtain ⟨fd, F⟩ := T.F_law
  refine ⟨fd, F.ok sc_law (fun vs H Q E h => h.1) (fun cdv A outer s H vs Q E hr h => ⟨t_law K E, ?_, h.2⟩), F⟩
  exact (pss_cons (ps_set (i := 1) sc_law.nd rfl (by first | exact Or.inl rfl | exact Or.inr rfl) (pe_callSD G_law_pool (hr.mono (by decide)) rfl T.g__law_pool D_law_pool.kp b_law_pool_1 .nil (fun σ => passAt (takes_of rfl rfl rfl rfl) σ) (pa_cons (pv 0) pa_nil))) (pss_cons (ps_set (i := 2) sc_law.nd rfl (by first | exact Or.inl rfl | exact Or.inr rfl) (pe_callSD G_law_alphabet (hr.mono (by decide)) rfl T.g__law_alphabet D_law_alphabet.kp b_law_alphabet_2 .nil (fun σ => passAt (takes_of rfl rfl rfl rfl) σ) (pa_cons (pv 1) (pa_cons pe_int pa_nil)))) (pss_cons (ps_set (i := 3) sc_law.nd rfl (by first | exact Or.inl rfl | exact Or.inr rfl) (pe_lst pa_nil)) (pss_cons (ps_for (passes_of rfl) rfl (pi_range1 rfl T.f_range (pa_cons (pe_callSD G_law_pick (hr.mono (by decide)) rfl T.g__law_pick D_law_pick.kp b_law_pick_2 .nil (fun σ => passAt (takes_of rfl rfl rfl rfl) σ) (pa_cons (pv 1) (pa_cons pe_int pa_nil))) pa_nil)) (pg_name (i := 4) sc_law.nd rfl (by first | exact Or.inl rfl | exact Or.inr rfl)) (pss_cons (ps_set (i := 8) sc_law.nd rfl (by first | exact Or.inl rfl | exact Or.inr rfl) (pe_callSD G_law_word_of (hr.mono (by decide)) rfl T.g__law_word_of D_law_word_of.kp b_law_word_of_4 .nil (fun σ => passAt (takes_of rfl rfl rfl rfl) σ) (pa_cons (pv 1) (pa_cons (pv 2) (pa_cons pe_int (pa_cons pe_int pa_nil)))))) (pss_one (ps_expr (pe_bm PySem.F.plainAttrs_list PySem.F.slot_list_append PySem.F.type_list_append mt_append (pv 3) (pa_cons (pe_op op_addA (pe_op op_addA (pv 8) pe_str) (pe_callSD G_law_word_of (hr.mono (by decide)) rfl T.g__law_word_of D_law_word_of.kp b_law_word_of_4 .nil (fun σ => passAt (takes_of rfl rfl rfl rfl) σ) (pa_cons (pv 1) (pa_cons (pv 2) (pa_cons pe_int (pa_cons pe_int pa_nil)))))) pa_nil)))))) (pss_cons (ps_if (PW.pt (pw_and (pt_cmpR (op_eqA hr) (pe_callSD G_law_pick (hr.mono (by decide)) rfl T.g__law_pick D_law_pick.kp b_law_pick_2 .nil (fun σ => passAt (takes_of rfl rfl rfl rfl) σ) (pa_cons (pv 1) (pa_cons pe_int pa_nil))) pe_int (nomark _)) (pw_and1 (pt_cmpR (op_neA hr) (pv 3) (pe_lst pa_nil) (nomark _))))) (pss_cons (ps_set (i := 9) sc_law.nd rfl (by first | exact Or.inl rfl | exact Or.inr rfl) (pe_callSD G_law_pick (hr.mono (by decide)) rfl T.g__law_pick D_law_pick.kp b_law_pick_2 .nil (fun σ => passAt (takes_of rfl rfl rfl rfl) σ) (pa_cons (pv 1) (pa_cons (pe_callB c_len rfl T.f_len (by decide +kernel) (pa_cons (pv 3) pa_nil)) pa_nil)))) (pss_one (ps_asg (pe_callSD G_law_change (hr.mono (by decide)) rfl T.g__law_change D_law_change.kp b_law_change_3 .nil (fun σ => passAt (takes_of rfl rfl rfl rfl) σ) (pa_cons (pv 1) (pa_cons (pe_ix ix_seq (pv 3) (pv 9) (fun _ _ => rfl)) (pa_cons (pv 2) pa_nil)))) (pg_sub (pv 3) (pv 9) set_list)))) pss_nil) (pss_cons (ps_set (i := 5) sc_law.nd rfl (by first | exact Or.inl rfl | exact Or.inr rfl) (pe_joinA pe_str (pv 3))) (pss_cons (ps_set (i := 6) sc_law.nd rfl (by first | exact Or.inl rfl | exact Or.inr rfl) (pe_callSD G_law_due_of (hr.mono (by decide)) rfl T.g__law_due_of D_law_due_of.kp b_law_due_of_1 .nil (fun σ => passAt (takes_of rfl rfl rfl rfl) σ) (pa_cons (pv 5) pa_nil))) (pss_cons (ps_set (i := 7) sc_law.nd rfl (by first | exact Or.inl rfl | exact Or.inr rfl) (pe_callSD G_law_try_make (hr.mono (by decide)) rfl T.g__law_try_make D_law_try_make.kp b_law_try_make_1 .nil (fun σ => passAt (takes_of rfl rfl rfl rfl) σ) (pa_cons (pv 5) pa_nil))) (pss_cons (ps_if (pt_not (pt_val (pe_callSD G_law_same (hr.mono (by decide)) rfl T.g__law_same D_law_same.kp b_law_same_3 .nil (fun σ => passAt (takes_of rfl rfl rfl rfl) σ) (pa_cons (pv 7) (pa_cons (pv 6) (pa_cons (pv 5) pa_nil)))))) (pss_one (ps_ret pe_bl)) pss_nil) (pss_cons (ps_if (pt_cmpR (op_eqA hr) (pe_ix ix_seq (pv 6) pe_int (fun _ _ => rfl)) pe_str (nomark _)) (pss_cons (ps_set (i := 10) sc_law.nd rfl (by first | exact Or.inl rfl | exact Or.inr rfl) (pe_meth0Z (pe_ix ix_seq (pv 7) pe_int (fun _ _ => rfl)) T.c_Book T.m_Book_data G_Book_data (hr.mono (by decide)) b_Book_data_1 .nil (fun σ => passAt (takes_of rfl rfl rfl rfl) σ))) (pss_cons (ps_if (PW.pt (pw_or (pt_val (pe_callB c_isi rfl T.f_isinstance (by decide +kernel) (pa_cons (pv 10) (pa_cons (pe_bltn rfl T.f_str (by decide +kernel) rfl) pa_nil)))) (pw_or1 (pt_cmpR (op_neA hr) (pe_listOfB rfl rfl T.f_list (pv 10)) (pe_lc (own := [("_law_sign", 11)]) rfl sc_law.nd (pi_str (pv 5)) (blkOk_by (own := [("_law_sign", 11)]) (N := N_law) (sc := defScope s_law) (by decide +kernel)) (fun _ _ _ _ _ => (pg_name (i := 11) sc_law.nd rfl (by first | exact Or.inl rfl | exact Or.inr rfl))) (fun _ _ _ _ _ => pts_nil) (fun _ _ _ _ _ => (pe_callB c_ord rfl T.f_ord (by decide +kernel) (pa_cons (pv 11) pa_nil)))) (nomark _))))) (pss_one (ps_ret pe_bl)) pss_nil) (pss_cons (ps_if (pt_not (pt_val (pe_callSD G_law_same (hr.mono (by decide)) rfl T.g__law_same D_law_same.kp b_law_same_3 .nil (fun σ => passAt (takes_of rfl rfl rfl rfl) σ) (pa_cons (pe_callSD G_law_try_make (hr.mono (by decide)) rfl T.g__law_try_make D_law_try_make.kp b_law_try_make_1 .nil (fun σ => passAt (takes_of rfl rfl rfl rfl) σ) (pa_cons (pv 10) pa_nil)) (pa_cons (pv 6) (pa_cons (pv 5) pa_nil)))))) (pss_one (ps_ret pe_bl)) pss_nil) (pss_one (ps_if (pt_cmpR (op_neA hr) (pe_callSD G_law_first_bad (hr.mono (by decide)) rfl T.g__law_first_bad D_law_first_bad.kp b_law_first_bad_1 .nil (fun σ => passAt (takes_of rfl rfl rfl rfl) σ) (pa_cons (pv 10) pa_nil)) (pe_ifExp (pt_cmpR (op_eqA hr) (pv 5) pe_str (nomark _)) (pe_tup (pa_cons pe_str (pa_cons pe_int pa_nil))) (pe_tup (pa_cons pe_str (pa_cons (pe_bm PySem.F.plainAttrs_str PySem.F.slot_str_find PySem.F.type_str_find mt_findA (pv 5) (pa_cons pe_str pa_nil)) pa_nil)))) (nomark _)) (pss_one (ps_ret pe_bl)) pss_nil))))) pss_nil) (pss_one (ps_ret (pe_and (pe_callSD G_law_same (hr.mono (by decide)) rfl T.g__law_same D_law_same.kp b_law_same_3 .nil (fun σ => passAt (takes_of rfl rfl rfl rfl) σ) (pa_cons (pe_callSD G_law_try_make (hr.mono (by decide)) rfl T.g__law_try_make D_law_try_make.kp b_law_try_make_1 .nil (fun σ => passAt (takes_of rfl rfl rfl rfl) σ) (pa_cons pe_str pa_nil)) (pa_cons (pe_tup (pa_cons pe_str (pa_cons (pe_lst pa_nil) pa_nil))) (pa_cons pe_str pa_nil)))) (pe_one (pe_callSD G_law_same (hr.mono (by decide)) rfl T.g__law_same D_law_same.kp b_law_same_3 .nil (fun σ => passAt (takes_of rfl rfl rfl rfl) σ) (pa_cons (pe_callSD G_law_try_make (hr.mono (by decide)) rfl T.g__law_try_make D_law_try_make.kp b_law_try_make_1 .nil (fun σ => passAt (takes_of rfl rfl rfl rfl) σ) (pa_cons (pv 5) pa_nil)) (pa_cons (pv 6) (pa_cons (pv 5) pa_nil))))))))))))))))))
end
theorem txt_of {K : Frg} {h : Heap} {mg : Str → Option Value} (KX : K.In h) (G : h.Ns mainGlobals mg) (c : Rz.SaysR fa fn K) : Txt PROG K mg where
  f_abs := He.free_ok KX G (c.fact 0)
  f_int := He.free_ok KX G (c.fact 1)
  f_range := He.free_ok KX G (c.fact 2)
  F_law_pool := c.fun_ 0
  g__law_pool := He.glo_ok KX G (c.fact 3)
  F_law_pick := c.fun_ 1
  f_len := He.free_ok KX G (c.fact 4)
  g__law_pick := He.glo_ok KX G (c.fact 5)
  F_law_alphabet := c.fun_ 2
  g__law_alphabet := He.glo_ok KX G (c.fact 6)
  F_law_word_of := c.fun_ 3
  g__law_word_of := He.glo_ok KX G (c.fact 7)
  F_law_odd_sign := c.fun_ 4
  g__law_odd_sign := He.glo_ok KX G (c.fact 8)
  F_law_change := c.fun_ 5
  g__law_change := He.glo_ok KX G (c.fact 9)
  F_law_first_odd := c.fun_ 6
  g__law_first_odd := He.glo_ok KX G (c.fact 10)
  F_law_is_text := c.fun_ 7
  g__law_is_text := He.glo_ok KX G (c.fact 11)
  F_law_due_of := c.fun_ 8
  g__law_due_of := He.glo_ok KX G (c.fact 12)
  ty_Row := Rz.tyB_ok (c.fact 13)
  f_bytes := He.free_ok KX G (c.fact 14)
  f_isinstance := He.free_ok KX G (c.fact 15)
  F_as_string := c.fun_ 9
  g_as_string := He.glo_ok KX G (c.fact 16)
  f_enumerate := He.free_ok KX G (c.fact 17)
  xb_BadLine := Rz.excB_ok (c.fact 18)
  n_BadLine_line := He.noat_ok (c.fact 19)
  x_BadLine := ⟨(Rz.excB_ok (c.fact 18)).1, He.noat_ok (c.fact 19), _, _, _, _, _, ("line" : Str), _, _, _, _, _, _, _, _, _, _, _, _, (Rz.iniB_ok (c.fact 20) (by decide +kernel) rfl (c.def_ 26).1 (c.def_ 26).2 rfl rfl), ⟨⟨rfl, by decide +kernel, by decide +kernel, by decide +kernel, ⟨_, rfl, rfl⟩, by decide +kernel⟩, by decide +kernel, by decide +kernel, by decide +kernel⟩, fun _ _ => ⟨_, rfl, rfl⟩, rfl, rfl, fun _ _ _ _ _ _ _ _ _ _ => rfl⟩
  f_super := He.free_ok KX G (c.fact 21)
  g_BadLine := He.glo_ok KX G (c.fact 22)
  k_SIGNS := He.str_ok KX G (c.fact 23)
  xb_BadSign := Rz.excB_ok (c.fact 24)
  n_BadSign_at := He.noat_ok (c.fact 25)
  x_BadSign := ⟨(Rz.excB_ok (c.fact 24)).1, He.noat_ok (c.fact 25), _, _, _, _, _, ("at" : Str), _, _, _, _, _, _, _, _, _, _, _, _, (Rz.iniB_ok (c.fact 26) (by decide +kernel) rfl (c.def_ 27).1 (c.def_ 27).2 rfl rfl), ⟨⟨rfl, by decide +kernel, by decide +kernel, by decide +kernel, ⟨_, rfl, rfl⟩, by decide +kernel⟩, by decide +kernel, by decide +kernel, by decide +kernel⟩, fun _ _ => ⟨_, rfl, rfl⟩, rfl, rfl, fun _ _ _ _ _ _ _ _ _ _ => rfl⟩
  g_BadSign := He.glo_ok KX G (c.fact 27)
  F_check_text := c.fun_ 10
  g_check_text := He.glo_ok KX G (c.fact 28)
  k_MOST_SIGNS := He.int_ok KX G (c.fact 29)
  xb_BadRule := Rz.excB_ok (c.fact 30)
  x_BadRule := ⟨(Rz.excB_ok (c.fact 30)).1, _, _, _, _, _, _, _, _, _, _, _, _, _, (Rz.iniB_ok (c.fact 31) (by decide +kernel) rfl (c.def_ 28).1 (c.def_ 28).2 rfl rfl), ⟨rfl, by decide +kernel, by decide +kernel, by decide +kernel, ⟨_, rfl, rfl⟩, by decide +kernel⟩, fun _ _ => ⟨_, rfl, rfl⟩, rfl, rfl, fun _ _ _ _ _ _ _ _ _ => rfl⟩
  g_BadRule := He.glo_ok KX G (c.fact 32)
  n_Rule_left := He.noat_ok (c.fact 33)
  c_Rule := He.cls_ok (c.fact 34)
  n_Rule_right := He.noat_ok (c.fact 35)
  F_Rule_init := c.fun_ 11
  mk_Rule := He.mkr_ok (c.fact 36)
  g_Rule := He.glo_ok KX G (c.fact 37)
  g_RiseError := He.glo_ok KX G (c.fact 38)
  n_Book_rules := He.noat_ok (c.fact 39)
  c_Book := He.cls_ok (c.fact 40)
  k_MOST_RULES := He.int_ok KX G (c.fact 41)
  xb_BookFull := Rz.excB_ok (c.fact 42)
  x_BookFull := ⟨(Rz.excB_ok (c.fact 42)).1, _, _, _, _, _, _, _, _, _, _, _, _, _, (Rz.iniB_ok (c.fact 43) (by decide +kernel) rfl (c.def_ 29).1 (c.def_ 29).2 rfl rfl), ⟨rfl, by decide +kernel, by decide +kernel, by decide +kernel, ⟨_, rfl, rfl⟩, by decide +kernel⟩, fun _ _ => ⟨_, rfl, rfl⟩, rfl, rfl, fun _ _ _ _ _ _ _ _ _ => rfl⟩
  g_BookFull := He.glo_ok KX G (c.fact 44)
  F_Book_add := c.fun_ 12
  m_Book_add := He.meth_ok (c.fact 45)
  F_Book_init := c.fun_ 13
  mk_Book := He.mkr_ok (c.fact 46)
  F_Book_read := c.fun_ 14
  cm_Book_read := Rz.cmB_ok (c.fact 47)
  g_Book := He.glo_ok KX G (c.fact 48)
  F_law_try_make := c.fun_ 15
  g__law_try_make := He.glo_ok KX G (c.fact 49)
  f_bool := He.free_ok KX G (c.fact 50)
  F_law_is_int := c.fun_ 16
  g__law_is_int := He.glo_ok KX G (c.fact 51)
  f_iter := He.free_ok KX G (c.fact 52)
  F_Book_iter := c.fun_ 17
  m_Book___iter__ := He.meth_ok (c.fact 53)
  f_str := He.free_ok KX G (c.fact 54)
  F_Rule_str := c.fun_ 18
  m_Rule___str__ := He.meth_ok (c.fact 55)
  F_Book_written := c.fun_ 19
  m_Book_written := He.meth_ok (c.fact 56)
  F_law_same := c.fun_ 20
  g__law_same := He.glo_ok KX G (c.fact 57)
  F_Book_data := c.fun_ 21
  m_Book_data := He.meth_ok (c.fact 58)
  f_list := He.free_ok KX G (c.fact 59)
  f_ord := He.free_ok KX G (c.fact 60)
  c_Row := He.cls_ok (c.fact 61)
  n_Row_pairs := He.noat_ok (c.fact 62)
  F_Row_len := c.fun_ 22
  xb_Uneven := Rz.excB_ok (c.fact 63)
  x_Uneven := ⟨(Rz.excB_ok (c.fact 63)).1, _, _, _, _, _, _, _, _, _, _, _, _, _, (Rz.iniB_ok (c.fact 64) (by decide +kernel) rfl (c.def_ 30).1 (c.def_ 30).2 rfl rfl), ⟨rfl, by decide +kernel, by decide +kernel, by decide +kernel, ⟨_, rfl, rfl⟩, by decide +kernel⟩, fun _ _ => ⟨_, rfl, rfl⟩, rfl, rfl, fun _ _ _ _ _ _ _ _ _ => rfl⟩
  g_Uneven := He.glo_ok KX G (c.fact 65)
  k_TOP := He.int_ok KX G (c.fact 66)
  xb_BadHeight := Rz.excB_ok (c.fact 67)
  n_BadHeight_height := He.noat_ok (c.fact 68)
  x_BadHeight := ⟨(Rz.excB_ok (c.fact 67)).1, He.noat_ok (c.fact 68), _, _, _, _, _, ("height" : Str), _, _, _, _, _, _, _, _, _, _, _, _, (Rz.iniB_ok (c.fact 69) (by decide +kernel) rfl (c.def_ 31).1 (c.def_ 31).2 rfl rfl), ⟨⟨rfl, by decide +kernel, by decide +kernel, by decide +kernel, ⟨_, rfl, rfl⟩, by decide +kernel⟩, by decide +kernel, by decide +kernel, by decide +kernel⟩, fun _ _ => ⟨_, rfl, rfl⟩, rfl, rfl, fun _ _ _ _ _ _ _ _ _ _ => rfl⟩
  g_BadHeight := He.glo_ok KX G (c.fact 70)
  f_zip := He.free_ok KX G (c.fact 71)
  F_Row_init := c.fun_ 23
  mk_Row := He.mkr_ok (c.fact 72)
  g_Row := He.glo_ok KX G (c.fact 73)
  m_Row___len__ := He.meth_ok (c.fact 74)
  F_law_first_bad := c.fun_ 24
  g__law_first_bad := He.glo_ok KX G (c.fact 75)
  F_law := c.fun_ 25
  g_law := He.glo_ok KX G (c.fact 76)
  e_BadLine_RiseError := He.exm_ok (c.fact 77)
  e_BadLine_BadLine := He.exm_ok (c.fact 78)
  e_BadLine_BookFull := He.exm_ok (c.fact 79)
  e_BadLine_BadSign := He.exm_ok (c.fact 80)
  e_BadSign_RiseError := He.exm_ok (c.fact 81)
  e_BadSign_BadLine := He.exm_ok (c.fact 82)
  e_BadSign_BookFull := He.exm_ok (c.fact 83)
  e_BadSign_BadSign := He.exm_ok (c.fact 84)
  e_BadRule_RiseError := He.exm_ok (c.fact 85)
  e_BadRule_BadLine := He.exm_ok (c.fact 86)
  e_BadRule_BookFull := He.exm_ok (c.fact 87)
  e_BadRule_BadSign := He.exm_ok (c.fact 88)
  e_BookFull_RiseError := He.exm_ok (c.fact 89)
  e_BookFull_BadLine := He.exm_ok (c.fact 90)
  e_BookFull_BookFull := He.exm_ok (c.fact 91)
  e_BookFull_BadSign := He.exm_ok (c.fact 92)
  e_Uneven_RiseError := He.exm_ok (c.fact 93)
  e_Uneven_BadLine := He.exm_ok (c.fact 94)
  e_Uneven_BookFull := He.exm_ok (c.fact 95)
  e_Uneven_BadSign := He.exm_ok (c.fact 96)
  e_BadHeight_RiseError := He.exm_ok (c.fact 97)
  e_BadHeight_BadLine := He.exm_ok (c.fact 98)
  e_BadHeight_BookFull := He.exm_ok (c.fact 99)
  e_BadHeight_BadSign := He.exm_ok (c.fact 100)
/- law: level 6, top 41 of 42 -/
end Lw

namespace Lw
open PySem PySem.Spec PyProof.Rows L2
/-! heaps -/
/-- all but what stands at d is as it was -/
def Keep (d : Addr) (H H' : Hp) : Prop := ∀ b o, b ≠ d → H b = some o → H' b = some o
theorem Keep.refl {d : Addr} {H : Hp} : Keep d H H := fun _ _ _ h => h
theorem Keep.trans {d : Addr} {H H1 H2 : Hp} (a : Keep d H H1) (b : Keep d H1 H2) : Keep d H H2 := fun c o n h => b c o n (a c o n h)
theorem Keep.new {d p : Addr} {H : Hp} {o : HO} (h : H p = none) : Keep d H (upd H p o) := fun b u _ e => by rw [upd_ne (ne_of_none e h)]; exact e
theorem Keep.at_ {d : Addr} {H : Hp} {o : HO} : Keep d H (upd H d o) := fun b u n e => by rw [upd_ne n]; exact e
theorem Keep.free {d p : Addr} {H H' : Hp} (k : Keep d H H') (hp : p ≠ d) (h : H' p = none) : H p = none := by
  cases e : H p with
  | none => rfl
  | some o => rw [k p o hp e] at h; cases h
theorem Keep.same {d : Addr} {H H' : Hp} (s : Same H H') : Keep d H H' := fun b o _ e => s b o e
theorem Same.new {p : Addr} {H : Hp} {o : HO} (h : H p = none) : Same H (upd H p o) := fun b u e => by rw [upd_ne (ne_of_none e h)]; exact e
/-- the draws: a list of ints at d, at most 4000 -/
def DrL (H : Hp) (d : Addr) : Prop := ∃ ds : List Int, ds.length ≤ 4000 ∧ H d = some (.lst (ds.map V.int))
theorem DrL.same {H H' : Hp} {d : Addr} (h : DrL H d) (s : Same H H') : DrL H' d := let ⟨ds, a, b⟩ := h; ⟨ds, a, s _ _ b⟩
theorem small2 {n : Nat} (h : n ≤ 16777216) : n ≤ sizeLine := by rw [sizeLine_eq]; exact h
theorem nilData {K : Frg} {H : Hp} {p : Addr} (h : H p = some (.lst [])) : Dp K H (.ref p) (.list []) := .lst (SqL.of h) .nil
theorem intsData {K : Frg} {H : Hp} : ∀ ds : List Int, DpAll K H (ds.map V.int) (ds.map PyData.int)
  | [] => .nil
  | i :: r => .cons (.int i) (intsData r)
theorem canLay_ints : ∀ ds : List Int, PyData.canLayAll0 (ds.map PyData.int) = true
  | [] => by simp [PyData.canLayAll0]
  | i :: r => by simp [PyData.canLayAll0, PyData.canLay0, canLay_ints r]
theorem depth_ints : ∀ ds : List Int, PyData.depthAll (ds.map PyData.int) = 0
  | [] => by simp [PyData.depthAll]
  | i :: r => by simp [PyData.depthAll, PyData.depth, depth_ints r]
theorem shaped_ints (ds : List Int) : SeqAt.shaped (.list (ds.map PyData.int)) = true := by
  simp [SeqAt.shaped, PyData.canLay0, canLay_ints, PyData.depth, depth_ints]
theorem eqv_nil (ds : List Int) : PyData.eqv (.list (ds.map PyData.int)) (.list []) = ds.isEmpty := by
  cases ds <;> simp [PyData.eqv, PyData.eqvAll]
theorem rd_bm {K : Frg} {T : String} {r : V → List V → Hp → VK → Prop} {to : TE} {t : TA} {σ : L2.St} {H : Hp} {Q : VK} (h : to σ H fun x H1 => tyV K T x H1 ∧ t σ H1 fun xs H2 => r x xs H2 Q) : tBM K T r to t σ H Q := h
theorem tyL {K : Frg} {H : Hp} {a : Addr} {xs : List V} (h : H a = some (.lst xs)) : tyV K "list" (.ref a) H := Or.inl ⟨rfl, _, Or.inl (Or.inl h)⟩
theorem append_go {H : Hp} {l : Addr} {xs : List V} {y : V} {Q : VK} (h : H l = some (.lst xs)) (hz : xs.length < 16777216) (q : Q .non (upd H l (.lst (xs ++ [y])))) : rAppend (.ref l) [y] H Q := ⟨l, xs, y, rfl, rfl, h, by rw [sizeLine_eq]; exact hz, q⟩
theorem mapI_app (ds : List Int) (i : Int) : ds.map V.int ++ [V.int i] = (ds ++ [i]).map V.int := by simp
theorem getI {ns : List Int} {i : Nat} {x : V} (h : (ns.map V.int)[i]? = some x) : ∃ z, ns[i]? = some z ∧ x = .int z := by
  rw [List.getElem?_map] at h
  cases e : ns[i]? with
  | none => rw [e] at h; cases h
  | some z => rw [e] at h; exact ⟨z, rfl, (Option.some.inj h).symm⟩
theorem rd_for {wi : TI} {g : TG} {tb : TS} {D : Ends} {σ : L2.St} {H : Hp} (h : wi σ H fun J H1 => ∃ W : Nat → Nat → L2.St → Hp → Prop, (∃ m, W 0 m σ H1) ∧ ∀ i m σ H, W i m σ H →
  (J.stop i H ∧ D.nx σ H) ∨ (J.go i H ∧ ∃ N : L2.St → Hp → Prop, (∀ σ' H', N σ' H' → ∃ m', m' < m ∧ W (i + 1) m' σ' H') ∧ ∀ x H', J.yld i H x H' → g x σ H' fun σ2 H2 => tb { D with nx := N, ct := N, bk := D.nx } σ2 H2)) : tFor wi g tb D σ H := h
theorem rd_rng1 {ta : TA} {σ : L2.St} {H : Hp} {R : It → Hp → Prop} (h : ta σ H fun vs H1 => ∃ j : Int, vs = [.int j] ∧ -(2 ^ 62) ≤ j ∧ j < 2 ^ 62 ∧ R (Itr 0 j.toNat) H1) : iRng1 ta σ H R := h
theorem rd_iList {K : Frg} {tl : TE} {σ : L2.St} {H : Hp} {R : It → Hp → Prop} (h : tl σ H fun x H1 => ∃ a, x = .ref a ∧ (∃ xs, SqL K H1 a xs) ∧ R (Itl K a) H1) : iList K tl σ H R := h
theorem mulS {i j : Int} (h1 : -1000000 ≤ j) (h2 : j ≤ 1000000) : CMul i j := .inr ⟨by omega, by omega⟩
theorem mulS' {i j : Int} (h1 : -1000000 ≤ i) (h2 : i ≤ 1000000) : CMul i j := .inl ⟨by omega, by omega⟩
theorem rd_enumS {ta : TA} {σ : L2.St} {H : Hp} {R : It → Hp → Prop} (h : ta σ H fun vs H1 => ∃ x, vs = [.str x] ∧ R (Ites x) H1) : iEnumS ta σ H R := h
theorem rd_gtup {K : Frg} {n : Nat} {t : TGs} {a : Addr} {xs : List V} {σ : L2.St} {H : Hp} {Q : L2.St → Hp → Prop} (h : H a = some (.tup xs)) (hl : xs.length = n) (q : t xs σ H Q) : gTup K n t (.ref a) σ H Q := ⟨a, xs, rfl, SqT.of h, hl, q⟩
theorem rd_gcons {t : TG} {u : TGs} {v : V} {r : List V} {σ : L2.St} {H : Hp} {Q : L2.St → Hp → Prop} (h : t v σ H fun σ' H' => u r σ' H' Q) : gCons t u (v :: r) σ H Q := ⟨v, r, rfl, h⟩
theorem rd_gnil {σ : L2.St} {H : Hp} {Q : L2.St → Hp → Prop} (h : Q σ H) : gNil [] σ H Q := ⟨rfl, h⟩
theorem rd_sfld {K : Frg} {ta tv : TE} {f : Str} {D : Ends} {σ : L2.St} {H : Hp} (h : tv σ H fun y H1 => ta σ H1 fun x H2 => ∃ a C dx fs, x = .ref a ∧ H2 a = some (.ins C dx fs) ∧ Cls K C ∧ NoAttr K C f ∧ fs.length < 1000 ∧ D.nx σ (upd H2 a (.ins C dx (putF f y fs)))) : sFld K ta tv f D σ H := h
theorem rd_m1 {r : V → List V → Hp → VK → Prop} {to te : TE} {σ : L2.St} {H : Hp} {Q : VK} (h : to σ H fun x H1 => (∃ a, x = .str a) ∧ te σ H1 fun y H2 => r x [y] H2 Q) : tM1 r to te σ H Q := h
theorem rd_lc {wi : TI} {g : TG} {tt : TT} {te : TE} {vs : List Nat} {σ : L2.St} {H : Hp} {Q : VK} (h : wi σ H fun J H1 => ∀ D, H1 D = none → ∃ W : Nat → Nat → Hp → Prop, (∃ m, W 0 m (upd H1 D (.lst []))) ∧ ∀ i m H, W i m H →
  (J.stop i H ∧ Q (.ref D) H) ∨ (J.go i H ∧ ∃ Nx : Hp → Prop, (∀ H', Nx H' → ∃ m', m' < m ∧ W (i + 1) m' H') ∧ ∀ x H', J.yld i H x H' → g x (wipe σ vs) H' fun σ2 H2 => wipe σ2 vs = wipe σ vs ∧ tt σ2 H2 fun b H3 =>
    if b = true then te σ2 H3 fun y H4 => ∃ acc, H4 D = some (.lst acc) ∧ acc.length < sizeLine ∧ Nx (upd H4 D (.lst (acc ++ [y]))) else Nx H3)) : tLc wi g tt te vs σ H Q := h
theorem rd_make {C : Addr} {sp : Sp} {dvs : List V} {EE : L2.St → XK} {tl : TA} {σ : L2.St} {H : Hp} {Q : VK} (h : tl σ H fun vs H1 => ∀ y dx, H1 y = none → H1 dx = none → dx ≠ y → sp (.ref y :: (vs ++ dvs)) (upd (upd H1 dx (.own y)) y (.ins C dx [])) (fun v H2 => v = .non ∧ Q (.ref y) H2) (EE σ)) :
    tMakeS C sp dvs EE tl σ H Q := h
theorem rd_fld {K : Frg} {ta : TE} {f : Str} {σ : L2.St} {H : Hp} {Q : VK} (h : ta σ H fun x H1 => ∃ a C dx fs v, x = .ref a ∧ H1 a = some (.ins C dx fs) ∧ Cls K C ∧ NoAttr K C f ∧ fs.lookup f = some v ∧ Q v H1) : tFld K ta f σ H Q := h
theorem rd_strO {C : Addr} {sp : Sp} {EE : L2.St → XK} {tl : TA} {σ : L2.St} {H : Hp} {Q : VK} (h : tl σ H fun vs H1 => ∃ a dx fs, vs = [.ref a] ∧ H1 a = some (.ins C dx fs) ∧ sp [.ref a] H1 (fun v H' => ∃ z, v = .str z ∧ Q (.str z) H') (EE σ)) : tStrO C sp EE tl σ H Q := h
theorem rd_xf {a : Addr} {cls : Value} {d : Option Addr} {C : Addr} {f : Str} {te : TE} {σ : L2.St} {H : Hp} {Q : VK} (h : te σ H fun x H1 => x = .ref a ∧ cls = .ref C ∧ ∃ (dd : Addr) (fs : List (Str × V)) (v : V), d = some dd ∧ H1 dd = some (.xd fs) ∧ fs.lookup f = some v ∧ Q v H1) : tXf a cls d C f te σ H Q := h
theorem rd_fmt {te : TE} {σ : L2.St} {H : Hp} {Q : VK} (h : te σ H fun x H1 => (∃ y : Str, x = .str y ∧ y.length ≤ sizeLine ∧ Q (.str y) H1) ∨ ∃ i : Int, x = .int i ∧ i.natAbs.log2 < 1920 ∧ Q (.str (toString i)) H1) : tFmt te σ H Q := h
theorem rd_prop {C : Addr} {sp : Sp} {dvs : List V} {E : XK} {ta : TE} {σ : L2.St} {H : Hp} {Q : VK} (h : ta σ H fun x H1 => ∃ a dx fs, x = .ref a ∧ H1 a = some (.ins C dx fs) ∧ sp (.ref a :: dvs) H1 Q E) : tProp C sp dvs E ta σ H Q := h
theorem rd_meth {C : Addr} {m : Str} {sp : Sp} {dvs : List V} {EE : L2.St → XK} {ta : TE} {tl : TA} {σ : L2.St} {H : Hp} {Q : VK} (h : ta σ H fun y H1 => ∃ a dx fs, y = .ref a ∧ H1 a = some (.ins C dx fs) ∧ fs.lookup m = none ∧ tl σ H1 fun vs H2 => sp (y :: (vs ++ dvs)) H2 Q (EE σ)) : tMethZ C m sp dvs EE ta tl σ H Q := h
/-- an exception at the clauses -/
theorem mix_hit {K : Frg} {W : WX} {D : Ends} {q : Clause} {r : List Clause} {cls : Value} {d : Option Addr} {σ : L2.St} {H : Hp} (e : PySem.W.exmOne K cls q.c = some true) (h : ∀ a, H a = none → q.does cls d D σ H a) : wMix K W D (q :: r) cls d σ H :=
  ⟨true, e, fun _ => h, fun z => Bool.noConfusion z⟩
theorem mix_miss {K : Frg} {W : WX} {D : Ends} {q : Clause} {r : List Clause} {cls : Value} {d : Option Addr} {σ : L2.St} {H : Hp} (e : PySem.W.exmOne K cls q.c = some false) (h : wMix K W D r cls d σ H) : wMix K W D (q :: r) cls d σ H :=
  ⟨false, e, fun z => Bool.noConfusion z, fun _ => h⟩
theorem rd_tjs {t : TE} {ts : List TE} {acc : Str} {σ : L2.St} {H : Hp} {R : Str → Hp → Prop} (h : t σ H fun x H1 => ∃ y : Str, x = .str y ∧ (acc ++ y).length ≤ sizeLine ∧ tJs ts (acc ++ y) σ H1 R) : tJs (t :: ts) acc σ H R := h
theorem rd_tjs0 {acc : Str} {σ : L2.St} {H : Hp} {R : Str → Hp → Prop} (h : R acc H) : tJs [] acc σ H R := h
theorem rd_iteB {b : Bool} {A B : Prop} (e : b = true) (h : A) : if b = true then A else B := by rw [e]; exact h
theorem rd_iteC {b : Bool} {A B : Prop} (e : b = false) (h : B) : if b = true then A else B := by rw [e]; exact h
theorem does_some {c : Value} {i : Nat} {ts : TSu} {cls : Value} {d : Option Addr} {D : Ends} {σ : L2.St} {H : Hp} {a : Addr} (h : ts a cls d (D.drop i) (σ.set i (some (.ref a))) H) : (Clause.mk c (some i) ts).does cls d D σ H a := h
theorem does_none {c : Value} {ts : TSu} {cls : Value} {d : Option Addr} {D : Ends} {σ : L2.St} {H : Hp} {a : Addr} (h : ts a cls d D σ H) : (Clause.mk c none ts).does cls d D σ H a := h
/-! texts as lists of codes -/
def tx (l : List Nat) : Str := ⟨l.toArray⟩
theorem tx_toList (l : List Nat) : (tx l).cps.toList = l := by simp [tx]
theorem tx_self (z : Str) : tx z.cps.toList = z := by obtain ⟨c⟩ := z; simp [tx]
theorem tx_len (l : List Nat) : (tx l).length = l.length := by simp [tx, Str.length]
theorem tx_inj {l m : List Nat} : tx l = tx m ↔ l = m := ⟨fun h => by have := congrArg (fun z : Str => z.cps.toList) h; simpa [tx] using this, fun h => by rw [h]⟩
theorem tx_app (l m : List Nat) : tx l ++ tx m = tx (l ++ m) := by
  show (⟨l.toArray ++ m.toArray⟩ : Str) = _
  simp [tx]
theorem joinL_nil : ∀ ps : List (List Nat), TL.joinL [] ps = ps.flatten
  | [] => rfl
  | [p] => by simp [TL.joinL]
  | p :: q :: r => by
    show p ++ ([] ++ TL.joinL [] (q :: r)) = _
    rw [joinL_nil (q :: r)]
    simp
theorem flat_one : ∀ cs : List Nat, (cs.map fun c => [c]).flatten = cs
  | [] => rfl
  | c :: r => by rw [List.map_cons, List.flatten_cons, flat_one r]; rfl
theorem join_tx (ps : List (List Nat)) : Txt.join (Str.ofString "") (ps.map tx) = tx ps.flatten := by
  rw [TL.join_eq]
  have h := TL.tl_join (Str.ofString "") (ps.map tx)
  have e : (ps.map tx).map TL.tl = ps := by
    rw [List.map_map]
    conv => rhs; rw [← List.map_id ps]
    apply List.map_congr_left
    intro l _
    exact tx_toList l
  rw [e, show TL.tl (Str.ofString "") = [] from rfl, joinL_nil] at h
  rw [← h]
  exact (tx_self _).symm
theorem sIx_none (n d : Nat) : HT.sIx n d none = d := rfl
theorem sIx_nat (n d k : Nat) (h : k ≤ n) : HT.sIx n d (some (k : Int)) = k := by
  rw [HT.sIx_nat]
  omega
theorem cut_to (l : List Nat) (k : Nat) (h : k ≤ l.length) : cutS (tx l) none (some (k : Int)) = tx (l.take k) := by
  unfold cutS
  rw [tx_toList, tx_len, sIx_none, sIx_nat _ _ _ h]
  rfl
theorem cut_from (l : List Nat) (k : Nat) (h : k ≤ l.length) : cutS (tx l) (some (k : Int)) none = tx (l.drop k) := by
  unfold cutS
  rw [tx_toList, tx_len, sIx_none, sIx_nat _ _ _ h]
  rw [List.take_of_length_le (by rw [List.length_drop]; exact Nat.le_refl _)]
  rfl
/-- the 26 letters -/
def letters : List Nat := (Str.ofString "abcdefghijklmnopqrstuvwxyz").cps.toList
/-- the first place that is no letter; -1 if there is none -/
def fo : List Nat → Int
  | [] => -1
  | c :: r => if c ∈ letters then (if fo r < 0 then -1 else fo r + 1) else 0
theorem fo_ge : ∀ l, -1 ≤ fo l
  | [] => Int.le_refl _
  | c :: r => by
    have := fo_ge r
    unfold fo
    split
    · split <;> omega
    · omega
/-- the first i are letters, and the next is none -/
theorem fo_at : ∀ (l : List Nat) (i : Nat) (c : Nat), (∀ (j x : Nat), j < i → l[j]? = some x → x ∈ letters) → l[i]? = some c → c ∉ letters → fo l = i
  | [], i, c, _, h, _ => by simp at h
  | x :: r, 0, c, _, h, hc => by
    have e : x = c := Option.some.inj h
    unfold fo
    rw [e, if_neg hc]
    rfl
  | x :: r, i + 1, c, hp, h, hc => by
    have hx : x ∈ letters := hp 0 x (Nat.succ_pos _) rfl
    have := fo_at r i c (fun j y hj e => hp (j + 1) y (Nat.succ_lt_succ hj) e) h hc
    unfold fo
    rw [if_pos hx, this, if_neg (by omega)]
    omega
theorem fo_none : ∀ (l : List Nat), (∀ (j x : Nat), l[j]? = some x → x ∈ letters) → fo l = -1
  | [], _ => rfl
  | x :: r, hp => by
    have hx : x ∈ letters := hp 0 x rfl
    have := fo_none r (fun j y e => hp (j + 1) y e)
    unfold fo
    rw [if_pos hx, this]
    rfl
theorem tx_get (l : List Nat) (i : Nat) : (tx l).cps[i]? = l[i]? := by simp [tx]
theorem rd_iteG {b : Bool} {A B : Prop} (h1 : b = true → A) (h2 : b = false → B) : if b = true then A else B := by cases b with | true => exact h1 rfl | false => exact h2 rfl
local macro_rules | `(tactic| walk_at "rd") => `(tactic| first
  | (with_reducible refine rd_seq ?_) | (with_reducible refine rd_asg ?_) | (with_reducible refine rd_name ?_) | (with_reducible refine rd_drop ?_) | (with_reducible refine rd_ret ?_) | (with_reducible refine rd_retN ?_) | (with_reducible refine rd_next ?_)
  | (with_reducible refine rd_ifS ?_)
  | ((with_reducible show tVar _ _ _ _); refine rd_var rfl ?_)
  | (with_reducible refine rd_c ?_) | (with_reducible refine rd_op ?_) | (with_reducible refine rd_un ?_) | (with_reducible refine rd_neg ?_) | (with_reducible refine rd_cb ?_) | (with_reducible refine rd_nil ?_) | (with_reducible refine rd_cons ?_)
  | (with_reducible refine rd_test ?_) | (with_reducible refine rd_tb ?_) | ((with_reducible show ∃ k, V.bl _ = V.bl k ∧ _); refine ⟨_, rfl, ?_⟩) | (with_reducible refine rd_and ?_) | (with_reducible refine rd_or ?_) | (with_reducible refine rd_not ?_)
  | (with_reducible refine rd_andV ?_) | (with_reducible refine rd_orV ?_) | (with_reducible refine rd_notV ?_) | (with_reducible refine rd_ifE ?_)
  | (with_reducible refine rd_tup ?_) | (with_reducible refine rd_lst ?_) | (with_reducible refine rd_call ?_) | (with_reducible refine rd_joined ?_)
  | (with_reducible refine rd_raise ?_) | (with_reducible refine rd_mkx ?_) | (with_reducible refine rd_mkx0 ?_) | (with_reducible refine rd_try ?_)
  | (with_reducible refine rd_sl ?_) | (with_reducible refine rd_nopart ?_) | (with_reducible refine rd_part ?_) | ((with_reducible show ∃ k, V.int _ = V.int k ∧ _); refine ⟨_, rfl, ?_⟩) | (with_reducible refine rd_chain ?_) | (with_reducible refine rd_yes ?_)
  | (with_reducible refine rd_iteT ?_) | (with_reducible refine rd_iteF ?_)
  | (with_reducible refine addA_int ?_) | (with_reducible refine i0_go ?_) | (with_reducible refine ltA_int ?_) | (with_reducible refine eqA_int ?_) | (with_reducible refine neA_int ?_) | (with_reducible refine eqA_str ?_) | (with_reducible refine neA_str ?_)
  | ((with_reducible refine mulA_int ?c ?_); case c => first | exact mulS (by omega) (by omega) | exact mulS' (by omega) (by omega))
  | ((with_reducible refine i_go ?c ?_); case c => first | ((with_reducible show (0 : Int) < _); omega) | exact ⟨by decide, by decide⟩ | exact ⟨by decide, by decide, by decide⟩)
  | (with_reducible refine intA_int ?_) | (with_reducible refine rd_bm ?_) | (with_reducible refine rd_for ?_) | (with_reducible refine rd_rng1 ?_) | (with_reducible refine rd_iList ?_) | (with_reducible refine rd_enumS ?_) | (with_reducible refine rd_gcons ?_) | (with_reducible refine rd_gnil ?_) | (with_reducible refine rd_sfld ?_) | (with_reducible refine rd_m1 ?_) | (with_reducible refine rd_lc ?_) | (with_reducible refine rd_make ?_) | (with_reducible refine rd_fld ?_)
  | (with_reducible refine rd_strO ?_) | (with_reducible refine rd_xf ?_) | (with_reducible refine rd_fmt ?_) | (with_reducible refine rd_prop ?_) | (with_reducible refine rd_meth ?_) | (with_reducible refine does_some ?_) | (with_reducible refine does_none ?_) | ((with_reducible show List.length _ ≤ sizeLine ∧ _); refine ⟨small2 (by simp), ?_⟩)
  | (with_reducible refine rd_tjs ?_) | (with_reducible refine rd_tjs0 ?_))
local macro_rules | `(tactic| walk_at "go") => `(tactic| repeat walk_at "rd")
local macro_rules | `(tactic| walk_at "all") => `(tactic| repeat' (first
  | walk_at "rd"
  | ((with_reducible show if _ = true then _ else _); first | refine rd_iteB rfl ?_ | refine rd_iteC rfl ?_ | refine rd_ite (fun _ => ?_) (fun _ => ?_) | refine rd_iteN (fun _ => ?_) (fun _ => ?_) | refine rd_iteG (fun _ => ?_) (fun _ => ?_))))
variable {K : Frg}
theorem rd_iStr {te : TE} {σ : L2.St} {H : Hp} {R : It → Hp → Prop} (h : te σ H fun v H1 => ∃ x, v = .str x ∧ R (Its x) H1) : iStr te σ H R := h
theorem rd_zipS {K : Frg} {ta : TA} {σ : L2.St} {H : Hp} {Q : VK} (h : ta σ H fun vs H1 => rZipS K vs H1 Q) : tZipS K ta σ H Q := h
theorem rd_lenO {C : Addr} {sp : Sp} {E : L2.St → XK} {t : TA} {σ : L2.St} {H : Hp} {Q : VK} (h : t σ H fun vs H1 => rLenO C sp E σ vs H1 Q) : tLenO C sp E t σ H Q := h
theorem rd_absO {C : Addr} {sp : Sp} {E : L2.St → XK} {t : TA} {σ : L2.St} {H : Hp} {Q : VK} (h : t σ H fun vs H1 => ∃ a dx fs, vs = [.ref a] ∧ H1 a = some (.ins C dx fs) ∧ sp [.ref a] H1 Q (E σ)) : tAbsO C sp E t σ H Q := h
theorem rd_listO {C : Addr} {spI spL : Sp} {E : L2.St → XK} {t : TA} {σ : L2.St} {H : Hp} {Q : VK} (h : t σ H fun vs H1 => rListO C spI spL E σ vs H1 Q) : tListO C spI spL E t σ H Q := h
theorem rd_gsub {to ti : TE} {r : V → V → V → Hp → (Hp → Prop) → Prop} {σ : L2.St} {H : Hp} {v : V} {Q : L2.St → Hp → Prop} (h : to σ H fun x H1 => ti σ H1 fun i H2 => r x i v H2 fun H3 => Q σ H3) : gSub to ti r v σ H Q := h
local macro_rules | `(tactic| walk_at "rd") => `(tactic| first
  | (with_reducible refine rd_iStr ?_) | (with_reducible refine rd_zipS ?_) | (with_reducible refine rd_lenO ?_) | (with_reducible refine rd_absO ?_) | (with_reducible refine rd_listO ?_) | (with_reducible refine rd_gsub ?_))
/-! the draws -/
theorem pick_ok {d : Addr} {m : Int} {H : Hp} {Q : VK} {E : XK} (hm : 0 < m) (hd : DrL H d) (h : ∀ r H', 0 ≤ r → r < m → Keep d H H' → DrL H' d → Q (.int r) H') : sp_law_pick K [.ref d, .int m] H Q E := by
  obtain ⟨ds, hl, hd⟩ := hd
  refine ⟨rfl, ?_⟩
  unfold t_law_pick
  walk_at "go"
  intro p hp
  have hdp : (upd H p (.lst [])) d = some (.lst (ds.map V.int)) := by rw [upd_ne (ne_of_none hd hp)]; exact hd
  refine eqA_data (.lst (SqL.of hdp) (intsData ds)) (nilData upd_same) (shaped_ints ds) (shaped_ints []) (eqv_nil ds) ⟨_, rfl, ?_⟩
  cases ds with
  | nil =>
    refine rd_iteT ?_
    walk_at "go"
    exact h 0 _ (by omega) hm (Keep.new hp) ⟨[], Nat.zero_le _, hdp⟩
  | cons i r =>
    refine rd_iteF ?_
    walk_at "go"
    refine ⟨tyL hdp, ?_⟩
    walk_at "go"
    refine ⟨d, _, 0, 0, .int i, rfl, rfl, hdp, by decide, by decide, ?_, rfl, ?_⟩
    · show seqIndex? 0 (List.length ((i :: r).map V.int)) = some 0
      simp [seqIndex?]
    · walk_at "go"
      refine h _ _ (Int.emod_nonneg _ (by omega)) (Int.emod_lt_of_pos _ hm) ((Keep.new hp).trans Keep.at_) ⟨r, Nat.le_of_succ_le hl, ?_⟩
      rw [upd_same]
      rfl

theorem pool_ok {a : Addr} {ns : List Int} {H : Hp} {Q : VK} {E : XK} (hS : SqL K H a (ns.map V.int)) (hn : ns.length ≤ 63) (h : ∀ d H', Same H H' → H d = none → DrL H' d → Q (.ref d) H') : sp_law_pool K [.ref a] H Q E := by
  refine ⟨rfl, ?_⟩
  unfold t_law_pool
  walk_at "go"
  intro d hd
  walk_at "go"
  refine ⟨a, rfl, ⟨_, (Same.new hd).seq hS⟩, ?_⟩
  refine for_list (K := K) (a := a) (xs := ns.map V.int) (fun i σ H2 => ∃ (seed : Int) (v3 v4 v5 v6 : Option V) (ds : List Int), σ = [some (.ref a), some (.ref d), some (.int seed), v3, v4, v5, v6] ∧ 0 ≤ seed ∧ seed < 1009 ∧ ds.length ≤ 60 * i ∧
    Same H H2 ∧ H2 d = some (.lst (ds.map V.int))) ⟨0, none, none, none, none, [], rfl, by omega, by omega, Nat.le_refl _, Same.new hd, upd_same⟩ (fun i σ H2 _ ⟨_, _, _, _, _, _, _, _, _, _, s2, _⟩ => s2.seq hS) ?_ ?_
  · rintro i x σ H2 hi ⟨seed, v3, v4, v5, v6, ds, rfl, h0, h1, hl, s2, e2⟩
    obtain ⟨z, hz, rfl⟩ := getI hi
    have hi63 : i < 63 := by have := (List.getElem?_eq_some_iff.mp hz).1; omega
    have free : ∀ {H3 : Hp}, H3 = upd H2 d (.lst (ds.map V.int)) → H3 = H2 := fun {H3} e => by
      rw [e]; funext b; by_cases hb : b = d
      · rw [hb, upd_same, e2]
      · rw [upd_ne hb]
    walk_at "go"
    refine ⟨z, rfl, ?_⟩
    walk_at "go"
    have n0 := Int.emod_nonneg (seed * 31 + (if z < 0 then -z else z)) (by decide : (1009 : Int) ≠ 0)
    have n1 := Int.emod_lt_of_pos (seed * 31 + (if z < 0 then -z else z)) (by decide : (0 : Int) < 1009)
    generalize (seed * 31 + (if z < 0 then -z else z)) % 1009 = seed' at n0 n1 ⊢
    generalize (if z < 0 then -z else z) = rest
    walk_at "go"
    refine rd_ite (fun hlt => ?_) (fun hge => ?_)
    · walk_at "go"
      refine ⟨tyL e2, ?_⟩
      walk_at "go"
      refine append_go e2 (by rw [List.length_map]; omega) ?_
      refine ⟨seed', _, _, _, _, ds ++ [rest], rfl, n0, n1, by rw [List.length_append, List.length_singleton]; omega, fun b o e => ?_, by rw [upd_same, mapI_app]⟩
      rw [upd_ne (ne_of_none e hd)]
      exact s2 b o e
    · walk_at "go"
      refine ⟨60, rfl, by decide, by decide, ?_⟩
      refine forR (n := 60) (fun k σ H3 => ∃ (v4 v5 : Option V) (r : Int) (es : List Int), σ = [some (.ref a), some (.ref d), some (.int seed'), some (.int z), v4, some (.int r), v6] ∧ es.length ≤ 60 * i + k ∧ Same H H3 ∧ H3 d = some (.lst (es.map V.int)))
        ⟨_, none, rest, ds, rfl, hl, s2, e2⟩ ?_ ?_
      · rintro k σ H3 hk ⟨v4', v5', r, es, rfl, hl3, s3, e3⟩
        walk_at "go"
        refine rd_ite (fun hlt => ?_) (fun hge => ?_)
        · walk_at "go"
          refine ⟨tyL e3, ?_⟩
          walk_at "go"
          refine append_go e3 (by rw [List.length_map]; omega) ?_
          walk_at "go"
          refine ⟨_, none, _, es ++ [r % 1000], rfl, by rw [List.length_append, List.length_singleton]; omega, fun b o e => ?_, by rw [upd_same, mapI_app]⟩
          rw [upd_ne (ne_of_none e hd)]
          exact s3 b o e
        · walk_at "go"
          exact ⟨_, none, r, es, rfl, by omega, s3, e3⟩
      · rintro σ H3 ⟨v4', v5', r, es, rfl, hl3, s3, e3⟩
        refine ⟨seed', _, _, _, _, es, rfl, n0, n1, ?_, s3, e3⟩
        have : (60 : Int).toNat = 60 := rfl
        omega
  · rintro σ H2 ⟨seed, v3, v4, v5, v6, ds, rfl, h0, h1, hl, s2, e2⟩
    rw [List.length_map] at hl
    walk_at "go"
    refine ⟨90, rfl, by decide, by decide, ?_⟩
    refine forR (n := 90) (fun k σ H3 => ∃ (v4 v6 : Option V) (es : List Int), σ = [some (.ref a), some (.ref d), some (.int seed), v3, v4, v5, v6] ∧ es.length ≤ 60 * ns.length + k ∧ Same H H3 ∧ H3 d = some (.lst (es.map V.int)))
      ⟨_, _, ds, rfl, hl, s2, e2⟩ ?_ ?_
    · rintro k σ H3 hk ⟨v4', v6', es, rfl, hl3, s3, e3⟩
      walk_at "go"
      generalize hw : ((seed + 1) * ((3 * (k : Int) * k + 5 * k) / 2 + 7)) % 1009 = w'
      have w0 : 0 ≤ w' := by rw [← hw]; exact Int.emod_nonneg _ (by decide)
      have w1 : w' < 1009 := by rw [← hw]; exact Int.emod_lt_of_pos _ (by decide)
      walk_at "go"
      refine ⟨tyL e3, ?_⟩
      walk_at "go"
      refine append_go e3 (by rw [List.length_map]; omega) ?_
      refine ⟨_, _, es ++ [(w' * w' + (k : Int)) % 1013], rfl, by rw [List.length_append, List.length_singleton]; omega, fun b o e => ?_, by rw [upd_same, mapI_app]⟩
      rw [upd_ne (ne_of_none e hd)]
      exact s3 b o e
    · rintro σ H3 ⟨v4', v6', es, rfl, hl3, s3, e3⟩
      walk_at "go"
      refine h d H3 s3 hd ⟨es, ?_, e3⟩
      have : (90 : Int).toNat = 90 := rfl
      omega
/-- check_text -/
theorem check_ok {l : List Nat} {H : Hp} {Q : VK} {E : XK} (h : fo l = -1 → ∀ H', Same H H' → Q .non H')
    (hE : 0 ≤ fo l → ∀ H' d, Same H H' → H' d = none → E (.ref (He.ga K "BadSign")) (some d) (upd H' d (.xd [("at", .int (fo l))]))) : sp_check_text K [.str (tx l)] H Q E := by
  refine ⟨rfl, ?_⟩
  unfold t_check_text
  walk_at "go"
  refine ⟨_, rfl, for_it walk_enumS (fun i σ H2 => Same H H2 ∧ (∃ v v', σ = [some (.str (tx l)), v, v']) ∧ ∀ (j x : Nat), j < i → l[j]? = some x → x ∈ letters) ⟨Same.refl _, ⟨none, none, rfl⟩, fun j x hj _ => absurd hj (Nat.not_lt_zero _)⟩ (fun _ _ _ _ _ => trivial) ?_ ?_⟩
  · rintro i x σ H2 H3 hi ⟨s2, ⟨v, v', rfl⟩, hp⟩ ⟨T, c, rfl, hT, hc, rfl⟩
    rw [tx_get] at hc
    refine rd_gtup upd_same rfl ?_
    walk_at "go"
    refine notInA_sign ?_
    walk_at "go"
    have s3 : Same H (upd H2 T (.tup [.int (i : Nat), .str ⟨#[c]⟩])) := s2.trans (Same.new hT)
    refine rd_iteN (fun hc' => ?_) (fun hc' => ?_)
    · have e := fo_at l i c hp hc hc'
      rw [e] at hE
      walk_at "go"
      exact ⟨_, rfl, fun d hd => hE (by omega) _ d s3 hd⟩
    · walk_at "go"
      refine ⟨s3, ⟨_, _, rfl⟩, fun j x hj e => ?_⟩
      by_cases hji : j = i
      · subst hji
        rw [hc] at e
        rw [← Option.some.inj e]
        exact hc'
      · exact hp j x (by omega) e
  · rintro σ H2 ⟨s2, _, hp⟩
    refine h (fo_none l fun j x e => hp j x ?_ e) H2 s2
    have := (List.getElem?_eq_some_iff.mp e).1
    show j < (tx l).cps.size
    simpa [tx] using this
/-! Row -/
/-- the pairs that stand in the list at D -/
def Prs (H : Hp) (D : Addr) (ps : List (Nat × Int)) : Prop := ∃ as : List Addr, H D = some (.lst (as.map V.ref)) ∧ as.length = ps.length ∧ ∀ (j : Nat) (a : Addr) (p : Nat × Int), as[j]? = some a → ps[j]? = some p → H a = some (.tup [.str (tx [p.1]), .int p.2])
theorem Prs.same {H H' : Hp} {D : Addr} {ps : List (Nat × Int)} (h : Prs H D ps) (s : Same H H') : Prs H' D ps := let ⟨as, a, b, c⟩ := h; ⟨as, s _ _ a, b, fun j x p e f => s _ _ (c j x p e f)⟩
theorem Prs.keep {H H' : Hp} {D e : Addr} {xs : List V} {ps : List (Nat × Int)} (h : Prs H D ps) (k : Keep e H H') (n : D ≠ e) (he : H e = some (.lst xs)) : Prs H' D ps := by
  obtain ⟨as, a, b, c⟩ := h
  refine ⟨as, k _ _ n a, b, fun j x p e1 e2 => k _ _ (fun q => ?_) (c j x p e1 e2)⟩
  have := c j x p e1 e2
  rw [q, he] at this
  cases this
def RowAt (K : Frg) (H : Hp) (y D : Addr) (ps : List (Nat × Int)) : Prop := (∃ dx, H y = some (.ins (He.ga K "Row") dx [("pairs", .ref D)])) ∧ Prs H D ps
theorem RowAt.same {H H' : Hp} {y D : Addr} {ps : List (Nat × Int)} (h : RowAt K H y D ps) (s : Same H H') : RowAt K H' y D ps := let ⟨⟨dx, a⟩, b⟩ := h; ⟨⟨dx, s _ _ a⟩, b.same s⟩
theorem RowAt.keep {H H' : Hp} {y D e : Addr} {xs : List V} {ps : List (Nat × Int)} (h : RowAt K H y D ps) (k : Keep e H H') (n : D ≠ e) (he : H e = some (.lst xs)) : RowAt K H' y D ps := by
  obtain ⟨⟨dx, a⟩, b⟩ := h
  exact ⟨⟨dx, k _ _ (fun q => by rw [q, he] at a; cases a) a⟩, b.keep k n he⟩
theorem look_pairs (v : V) : List.lookup ("pairs" : Str) [(("pairs" : Str), v)] = some v := by simp [List.lookup]
/-- the first height out of range -/
def badH (hs : List Int) : Option Int := hs.find? fun h => !decide (0 ≤ h ∧ h ≤ 9)
theorem badH_at : ∀ (hs : List Int) (i : Nat) (z : Int), (∀ (j : Nat) (x : Int), j < i → hs[j]? = some x → 0 ≤ x ∧ x ≤ 9) → hs[i]? = some z → ¬ (0 ≤ z ∧ z ≤ 9) → badH hs = some z
  | [], i, z, _, h, _ => by simp at h
  | x :: r, 0, z, _, h, hz => by
    have e : x = z := Option.some.inj h
    unfold badH
    rw [List.find?_cons_of_pos (by rw [e, decide_eq_false hz]; rfl), e]
  | x :: r, i + 1, z, hp, h, hz => by
    have hx := hp 0 x (Nat.succ_pos _) rfl
    have := badH_at r i z (fun j y hj e => hp (j + 1) y (Nat.succ_lt_succ hj) e) h hz
    unfold badH at this ⊢
    rw [List.find?_cons_of_neg (by rw [decide_eq_true hx]; decide), this]
theorem badH_none : ∀ (hs : List Int), (∀ (j : Nat) (x : Int), hs[j]? = some x → 0 ≤ x ∧ x ≤ 9) → badH hs = none
  | [], _ => rfl
  | x :: r, hp => by
    have hx := hp 0 x rfl
    have := badH_none r fun j y e => hp (j + 1) y e
    unfold badH at this ⊢
    rw [List.find?_cons_of_neg (by rw [decide_eq_true hx]; decide), this]
theorem rep0 (n : Nat) : (List.replicate n [V.int 0]).flatten = (List.replicate n (0 : Int)).map V.int := by
  induction n with
  | zero => rfl
  | succ n ih => rw [List.replicate_succ, List.flatten_cons, ih, List.replicate_succ, List.map_cons]; rfl
theorem row_len_ok {P : Program} {mg : Str → Option Value} (T : Txt P K mg) {y D : Addr} {ps : List (Nat × Int)} {H : Hp} {Q : VK} {E : XK} (hy : RowAt K H y D ps) (h : Q (.int ps.length) H) : sp_Row_len K [.ref y] H Q E := by
  obtain ⟨⟨dx, hy⟩, as, hD, hl, hp⟩ := hy
  refine ⟨rfl, ?_⟩
  unfold t_Row_len
  walk_at "go"
  refine ⟨y, _, dx, _, _, rfl, hy, T.c_Row, T.n_Row_pairs, look_pairs _, ?_⟩
  walk_at "go"
  refine lenA_lst (.of hD) ?_
  rw [List.length_map, hl]
  exact h
/-! whole numbers -/
theorem is_int_ok {i : Int} {H : Hp} {Q : VK} {E : XK} (h : Q (.bl true) H) : sp_law_is_int K [.int i] H Q E := by
  refine ⟨rfl, ?_⟩
  unfold t_law_is_int
  walk_at "go"
  refine isi_go (.ty _) (.base (.int i)) (kit_ty (r := true) (by decide +kernel)) ?_
  walk_at "all"
  refine isi_go (.ty _) (.base (.int i)) (kit_ty (r := false) (by decide +kernel)) ?_
  walk_at "go"
  exact h
theorem pairData {H : Hp} {a : Addr} {z : Str} {i : Int} (h : H a = some (.tup [.str z, .int i])) : Dp K H (.ref a) (.tuple [.str z, .int i]) := .tup (SqT.of h) (.cons (.str _) (.cons (.int _) .nil))
theorem letters_small : ∀ c ∈ letters, c < 0x110000 := by decide +kernel
theorem fo_all : ∀ (l : List Nat), fo l = -1 → ∀ c ∈ l, c ∈ letters
  | [], _, _, h => nomatch h
  | x :: r, h, c, hc => by
    have g := fo_ge r
    unfold fo at h
    by_cases hx : x ∈ letters
    · rw [if_pos hx] at h
      have e : fo r = -1 := by split at h <;> omega
      rcases List.mem_cons.mp hc with q | q
      · rw [q]; exact hx
      · exact fo_all r e c q
    · rw [if_neg hx] at h
      cases h
theorem shaped_pair {z : Str} (i : Int) (h : PyData.strOk z = true) : SeqAt.shaped (.tuple [.str z, .int i]) = true := by simp [SeqAt.shaped, PyData.canLay0, PyData.canLayAll0, PyData.depth, PyData.depthAll, h]
theorem eqv_pair (z z' : Str) (i i' : Int) : PyData.eqv (.tuple [.str z, .int i]) (.tuple [.str z', .int i']) = decide (z = z' ∧ i = i') := by
  by_cases h1 : z = z'
  · by_cases h2 : i = i'
    · subst h1 h2; simp [PyData.eqv, PyData.eqvAll]
    · subst h1; simp [PyData.eqv, PyData.eqvAll, h2]
  · simp [PyData.eqv, PyData.eqvAll, h1]
theorem rd_own {C : Addr} {sp : Sp} {E : L2.St → XK} {Pv : V → Hp → Prop} {ta tb : TE} {σ : L2.St} {H : Hp} {Q : VK} (h : ta σ H fun x H1 => tb σ H1 fun y H2 => ∃ a dx fs, x = .ref a ∧ H2 a = some (.ins C dx fs) ∧ Pv y H2 ∧ sp [.ref a, y] H2 Q (E σ)) : tOwn C sp E Pv ta tb σ H Q := h
theorem rd_inO {C : Addr} {sp : Sp} {E : L2.St → XK} {ta tb : TE} {σ : L2.St} {H : Hp} {Q : VK} (h : ta σ H fun x H1 => tb σ H1 fun y H2 => ∃ a dx fs, y = .ref a ∧ H2 a = some (.ins C dx fs) ∧ sp [.ref a, x] H2 (fun v H' => ∃ b, v = .bl b ∧ Q (.bl b) H') (E σ)) : tInO C sp E ta tb σ H Q := h
theorem rd_rmul {C : Addr} {sp : Sp} {E : L2.St → XK} {ta tb : TE} {σ : L2.St} {H : Hp} {Q : VK} (h : ta σ H fun x H1 => tb σ H1 fun y H2 => ∃ i a dx fs, x = .int i ∧ y = .ref a ∧ H2 a = some (.ins C dx fs) ∧ sp [.ref a, .int i] H2 Q (E σ)) : tRmul C sp E ta tb σ H Q := h
theorem rd_sli {ta tb : TE} {σ : L2.St} {H : Hp} {Q : VK} (h : ta σ H fun x H1 => tb σ H1 fun y H2 => ∃ i j, x = .int i ∧ y = .int j ∧ ∀ p, H2 p = none → Q (.ref p) (upd H2 p (Sli p i j))) : tSli ta tb σ H Q := h
theorem rd_gsubO {C : Addr} {sp : Sp} {E : L2.St → XK} {to ti : TE} {v : V} {σ : L2.St} {H : Hp} {Q : L2.St → Hp → Prop} (h : to σ H fun x H1 => ti σ H1 fun i H2 => ∃ a dx fs, x = .ref a ∧ H2 a = some (.ins C dx fs) ∧ sp [.ref a, i, v] H2 (fun _ H3 => Q σ H3) (E σ)) : gSubO C sp E to ti v σ H Q := h
theorem rd_dT {c : Prop} [Decidable c] {A B : Prop} (hc : c) (h : A) : if decide c = true then A else B := by rw [decide_eq_true hc]; exact h
theorem rd_dF {c : Prop} [Decidable c] {A B : Prop} (hc : ¬ c) (h : B) : if decide c = true then A else B := by rw [decide_eq_false hc]; exact h
theorem rd_nT {c : Prop} [Decidable c] {A B : Prop} (hc : c) (h : B) : if (!decide c) = true then A else B := by rw [decide_eq_true hc]; exact h
theorem rd_nF {c : Prop} [Decidable c] {A B : Prop} (hc : ¬ c) (h : A) : if (!decide c) = true then A else B := by rw [decide_eq_false hc]; exact h
theorem rd_caO {C : Addr} {sp : Sp} {dvs : List V} {E : L2.St → XK} {ta : TE} {t : TA} {σ : L2.St} {H : Hp} {Q : VK} (h : ta σ H fun y H1 => ∃ a, y = .ref a ∧ t σ H1 fun vs H2 => ∃ dx fs, H2 a = some (.ins C dx fs) ∧ sp (.ref a :: (vs ++ dvs)) H2 Q (E σ)) : tCaO C sp dvs E ta t σ H Q := h
theorem rd_caK {C : Addr} {n m : Nat} {sp : Sp} {gV : List V → List V → List V} {E : L2.St → XK} {ta : TE} {t tk : TA} {σ : L2.St} {H : Hp} {Q : VK} (h : ta σ H fun y H1 => ∃ a, y = .ref a ∧ t σ H1 fun vs H2 => tk σ H2 fun zs H3 => ∃ dx fs, H3 a = some (.ins C dx fs) ∧ vs.length = n ∧ zs.length = m ∧ sp (gV (.ref a :: vs) zs) H3 Q (E σ)) : tCaK C n m sp gV E ta t tk σ H Q := h
theorem rd_callNS {n m : Nat} {sp : Sp} {gV : List V → List V → List V} {E : L2.St → XK} {t tk : TA} {σ : L2.St} {H : Hp} {Q : VK} (h : t σ H fun vs H1 => tk σ H1 fun zs H2 => vs.length = n ∧ zs.length = m ∧ sp (gV vs zs) H2 Q (E σ)) : tCallNS n m sp gV E t tk σ H Q := h
/-- what the making of an instance asks -/
def MkG (C : Addr) (sp : Sp) (dvs vs : List V) (H1 : Hp) (Q : VK) (E : XK) : Prop := ∀ y dx, H1 y = none → H1 dx = none → dx ≠ y → sp (.ref y :: (vs ++ dvs)) (upd (upd H1 dx (.own y)) y (.ins C dx [])) (fun v H2 => v = .non ∧ Q (.ref y) H2) E
theorem rd_mkG {C : Addr} {sp : Sp} {dvs : List V} {EE : L2.St → XK} {t : TA} {σ : L2.St} {H : Hp} {Q : VK} (h : t σ H fun vs H1 => MkG C sp dvs vs H1 Q (EE σ)) : tMakeS C sp dvs EE t σ H Q := h
local macro_rules | `(tactic| walk_at "rd") => `(tactic| first
  | (with_reducible refine rd_mkG ?_) | (with_reducible refine rd_caO ?_) | (with_reducible refine rd_caK ?_) | (with_reducible refine rd_callNS ?_)
  | (with_reducible refine rd_own ?_) | (with_reducible refine rd_inO ?_) | (with_reducible refine rd_rmul ?_) | (with_reducible refine rd_sli ?_) | (with_reducible refine rd_gsubO ?_))

local macro_rules | `(tactic| walk_at "auto") => `(tactic| repeat (first
  | walk_at "rd"
  | ((with_reducible show if _ = true then _ else _); first | refine rd_iteB rfl ?_ | refine rd_iteC rfl ?_ | refine rd_dT (by first | omega | assumption) ?_ | refine rd_dF (by first | omega | assumption) ?_ | refine rd_nT (by first | omega | assumption) ?_ | refine rd_nF (by first | omega | assumption) ?_)))
local macro_rules | `(tactic| walk_at "st") => `(tactic| repeat ((fail_if_success (with_reducible show tSeq _ _ _ _ _)); first
  | walk_at "rd"
  | ((with_reducible show if _ = true then _ else _); first | refine rd_iteB rfl ?_ | refine rd_iteC rfl ?_ | refine rd_dT (by first | omega | assumption) ?_ | refine rd_dF (by first | omega | assumption) ?_ | refine rd_nT (by first | omega | assumption) ?_ | refine rd_nF (by first | omega | assumption) ?_)))
local macro_rules | `(tactic| walk_at "sq") => `(tactic| ((with_reducible show tSeq _ _ _ _ _); refine rd_seq ?_))
theorem word_ok {d : Addr} {z : Str} {lo hi : Int} {H : Hp} {Q : VK} {E : XK} (hz : 0 < z.length) (hz2 : z.length ≤ 1000) (h0 : 0 ≤ lo) (h1 : lo ≤ hi) (h2 : hi ≤ 1000) (hd : DrL H d)
    (h : ∀ (l : List Nat) H', (∀ c ∈ l, c ∈ z.cps.toList) → lo ≤ l.length → l.length ≤ hi → Keep d H H' → DrL H' d → Q (.str (tx l)) H') : sp_law_word_of K [.ref d, .str z, .int lo, .int hi] H Q E := by
  refine ⟨rfl, ?_⟩
  unfold t_law_word_of
  walk_at "go"
  refine pick_ok (by omega) hd fun r H1 r0 r1 k1 d1 => ?_
  walk_at "go"
  refine ⟨⟨_, rfl⟩, ?_⟩
  walk_at "go"
  refine ⟨lo + r, rfl, by omega, by omega, fun L hL => ?_⟩
  refine lcR (n := lo + r) (fun i H2 => ∃ cs : List Nat, H2 L = some (.lst (cs.map fun c => V.str (tx [c]))) ∧ cs.length = i ∧ (∀ c ∈ cs, c ∈ z.cps.toList) ∧ Keep d H1 H2 ∧ DrL H2 d) ⟨[], upd_same, rfl, by simp, Keep.new hL, d1.same (Same.new hL)⟩ ?_ ?_
  · rintro i H2 hi ⟨cs, eL, hl, hc, k2, d2⟩
    walk_at "go"
    refine ⟨rfl, ?_⟩
    walk_at "go"
    refine lenA_str (small2 (by omega)) ?_
    walk_at "go"
    refine pick_ok (by omega) d2 fun q H3 q0 q1 k3 d3 => ?_
    obtain ⟨n, rfl⟩ : ∃ n : Nat, q = n := ⟨q.toNat, by omega⟩
    have hn : n < z.cps.toList.length := by
      have : z.cps.toList.length = z.length := by simp [Str.length]
      omega
    have hLd : L ≠ d := fun e => by
      obtain ⟨ds, _, e2⟩ := d1
      rw [e] at hL
      rw [hL] at e2
      cases e2
    refine ixA_str (small2 (by omega)) (atI_nat (List.getElem?_eq_getElem hn)) ?_
    refine ⟨_, k3 _ _ hLd eL, by rw [List.length_map, sizeLine_eq]; omega, cs ++ [z.cps.toList[n]], by rw [upd_same]; simp [tx], by simp [hl], ?_, ?_, ?_⟩
    · intro c hc'
      rcases List.mem_append.mp hc' with m | m
      · exact hc c m
      · rw [List.mem_singleton.mp m]
        exact List.getElem_mem hn
    · intro b o n e
      have hbL : b ≠ L := fun e2 => by rw [e2, hL] at e; cases e
      rw [upd_ne hbL]
      exact k3 b o n (k2 b o n e)
    · obtain ⟨ds, a, b⟩ := d3
      exact ⟨ds, a, by rw [upd_ne (Ne.symm hLd)]; exact b⟩
  · rintro H2 ⟨cs, eL, hl, hc, k2, d2⟩
    have e1 : (cs.map fun c => V.str (tx [c])) = ((cs.map fun c => [c]).map tx).map V.str := by simp
    refine ⟨_, L, (cs.map fun c => [c]).map tx, rfl, rfl, .inl (SqL.of (by rw [eL, e1])), ?_, ?_⟩
    · have hs : (((cs.map fun c => [c]).map tx).map fun x => x.length) = List.replicate cs.length 1 := by
        rw [List.map_map, List.map_map]
        apply List.eq_replicate_iff.mpr
        refine ⟨by simp, fun b hb => ?_⟩
        obtain ⟨c, _, rfl⟩ := List.mem_map.mp hb
        rfl
      rw [hs]
      simp
      show cs.length + cs.length * 0 ≤ 16777216
      omega
    · rw [join_tx, flat_one]
      exact h cs H2 hc (by omega) (by omega) (k1.trans k2) d2
/-! Rule -/
def ruleF (l r : List Nat) : List (Str × V) := [("left", .str (tx l)), ("right", .str (tx r))]
theorem ruleF_left (l r : List Nat) : (ruleF l r).lookup ("left" : Str) = some (.str (tx l)) := by simp [ruleF, List.lookup]
theorem ruleF_right (l r : List Nat) : (ruleF l r).lookup ("right" : Str) = some (.str (tx r)) := by
  have e : (("right" : Str) == "left") = false := by decide +kernel
  simp [ruleF, List.lookup, e]
theorem ruleF_put (l r : List Nat) : putF "right" (.str (tx r)) (putF "left" (.str (tx l)) []) = ruleF l r := by
  have e : ¬ (("left" : Str) = "right") := by decide +kernel
  show (if ("left" : Str) = "right" then _ else _ :: putF "right" _ []) = _
  rw [if_neg e]
  rfl
/-- whether the sides are those of a rule -/
def okSides (l r : List Nat) : Prop := 1 ≤ l.length ∧ l.length ≤ 4 ∧ r.length ≤ 4
instance (l r : List Nat) : Decidable (okSides l r) := inferInstanceAs (Decidable (_ ∧ _ ∧ _))
def RuleAt (K : Frg) (H : Hp) (y : Addr) (l r : List Nat) : Prop := ∃ dx, H y = some (.ins (He.ga K "Rule") dx (ruleF l r))
theorem rule_init_ok {P : Program} {mg : Str → Option Value} (T : Txt P K mg) {y dx : Addr} {l r : List Nat} {H : Hp} {Q : VK} {E : XK} (hl : l.length ≤ 1000) (hr : r.length ≤ 1000) (hy : H y = some (.ins (He.ga K "Rule") dx []))
    (h : fo l = -1 → fo r = -1 → okSides l r → ∀ H', Keep y H H' → H' y = some (.ins (He.ga K "Rule") dx (ruleF l r)) → Q .non H')
    (hE1 : 0 ≤ fo l → ∀ H' d, Same H H' → H' d = none → E (.ref (He.ga K "BadSign")) (some d) (upd H' d (.xd [("at", .int (fo l))])))
    (hE2 : fo l = -1 → 0 ≤ fo r → ∀ H' d, Same H H' → H' d = none → E (.ref (He.ga K "BadSign")) (some d) (upd H' d (.xd [("at", .int (fo r))])))
    (hE3 : fo l = -1 → fo r = -1 → ¬ okSides l r → ∀ H', Same H H' → E (.ref (He.ga K "BadRule")) none H') : sp_Rule_init K [.ref y, .str (tx l), .str (tx r)] H Q E := by
  refine ⟨rfl, ?_⟩
  unfold t_Rule_init
  walk_at "go"
  refine check_ok (fun e1 H1 s1 => ?_) hE1
  walk_at "go"
  refine check_ok (fun e2 H2 s2 => ?_) (fun e2 H2 d s2 => hE2 e1 e2 H2 d (s1.trans s2))
  have s := s1.trans s2
  walk_at "go"
  refine lenA_str (by rw [tx_len]; exact small2 (by omega)) ?_
  rw [tx_len]
  walk_at "go"
  walk_at "all"
  all_goals first
    | exact hE3 e1 e2 (by unfold okSides; omega) H2 s
    | refine lenA_str (by rw [tx_len]; exact small2 (by omega)) ?_
  · rw [tx_len]
    walk_at "all"
    · exact hE3 e1 e2 (by unfold okSides; omega) H2 s
    · refine ⟨y, _, dx, [], rfl, s _ _ hy, T.c_Rule, T.n_Rule_left, by decide, ?_⟩
      walk_at "go"
      refine ⟨y, _, dx, _, rfl, upd_same, T.c_Rule, T.n_Rule_right, by show 1 < 1000; decide, ?_⟩
      rw [upd_upd, ruleF_put]
      exact h e1 e2 (by unfold okSides; omega) _ ((Keep.same s).trans Keep.at_) upd_same
theorem rule_str_ok {P : Program} {mg : Str → Option Value} (T : Txt P K mg) {y : Addr} {l r : List Nat} {H : Hp} {Q : VK} {E : XK} (hl : l.length ≤ 1000) (hr : r.length ≤ 1000) (hy : RuleAt K H y l r)
    (h : Q (.str (tx (l ++ (Str.ofString ":").cps.toList ++ r))) H) : sp_Rule_str K [.ref y] H Q E := by
  obtain ⟨dx, hy⟩ := hy
  have e0 : (Str.empty ++ tx l : Str) = tx l := by
    show (⟨#[] ++ (tx l).cps⟩ : Str) = _
    simp
  have e1 : (Str.ofString ":" : Str) = tx (Str.ofString ":").cps.toList := (tx_self _).symm
  have e2 : (Str.ofString ":").cps.toList.length = 1 := by decide
  refine ⟨rfl, ?_⟩
  unfold t_Rule_str
  walk_at "go"
  refine ⟨y, _, dx, _, _, rfl, hy, T.c_Rule, T.n_Rule_left, ruleF_left l r, .inl ⟨_, rfl, by rw [tx_len]; exact small2 (by omega), _, rfl, ?_, ?_⟩⟩
  · rw [e0, tx_len]; exact small2 (by omega)
  rw [e0]
  walk_at "go"
  refine ⟨_, rfl, ?_, ?_⟩
  · rw [e1, tx_app, tx_len, List.length_append, e2]; exact small2 (by omega)
  rw [e1, tx_app]
  walk_at "go"
  refine ⟨y, _, dx, _, _, rfl, hy, T.c_Rule, T.n_Rule_right, ruleF_right l r, .inl ⟨_, rfl, by rw [tx_len]; exact small2 (by omega), _, rfl, ?_, ?_⟩⟩
  · rw [tx_app, tx_len, List.length_append, List.length_append, e2]; exact small2 (by omega)
  rw [tx_app]
  walk_at "go"
  exact h
/-! rows made -/
def Okp (ps : List (Nat × Int)) : Prop := ∀ p ∈ ps, p.1 ∈ letters ∧ 0 ≤ p.2 ∧ p.2 ≤ 9
theorem Okp.set {ps : List (Nat × Int)} {i c : Nat} {z : Int} (ok : Okp ps) (hc : c ∈ letters) (hz : 0 ≤ z ∧ z ≤ 9) : Okp (ps.set i (c, z)) := fun p h => by
  rcases List.mem_or_eq_of_mem_set h with h | h
  · exact ok p h
  · rw [h]; exact ⟨hc, hz⟩
theorem Okp.let {ps : List (Nat × Int)} (a : Okp ps) : ∀ p ∈ ps, p.1 ∈ letters := fun p h => (a p h).1
theorem fo_ok : ∀ {l : List Nat}, (∀ c ∈ l, c ∈ letters) → fo l = -1 := fun {l} h => fo_none l fun j x e => h x (List.mem_of_getElem? e)
theorem Okp.fo {ps : List (Nat × Int)} (a : Okp ps) : fo (ps.map Prod.fst) = -1 := fo_ok fun c h => by
  obtain ⟨p, hp, rfl⟩ := List.mem_map.mp h
  exact (a p hp).1
theorem Okp.bad {ps : List (Nat × Int)} (a : Okp ps) : badH (ps.map Prod.snd) = none := badH_none _ fun j x e => by
  obtain ⟨p, hp, rfl⟩ := List.mem_map.mp (List.mem_of_getElem? e)
  exact (a p hp).2
theorem keep_same {y dx : Addr} {C : Addr} {H H' : Hp} (hy : H y = none) (hdx : H dx = none) (k : Keep y (upd (upd H dx (.own y)) y (.ins C dx [])) H') : Same H H' := fun b o e => k b o (ne_of_none e hy) (by rw [upd_ne (ne_of_none e hy), upd_ne (ne_of_none e hdx)]; exact e)
theorem made_same {y dx : Addr} {C : Addr} {H : Hp} (hy : H y = none) (hdx : H dx = none) : Same H (upd (upd H dx (.own y)) y (.ins C dx [])) := fun b o e => by rw [upd_ne (ne_of_none e hy), upd_ne (ne_of_none e hdx)]; exact e
theorem Same.free {H H' : Hp} (s : Same H H') {a : Addr} (h : H' a = none) : H a = none := by
  cases e : H a with
  | none => rfl
  | some o => rw [s _ _ e] at h; cases h
theorem ixN_nat {n i : Nat} (h : i < n) : ixN n (i : Int) = some i := by
  unfold ixN
  rw [if_pos (by omega), if_pos (by omega)]
  rfl
theorem Prs.set {H : Hp} {D T : Addr} {ps : List (Nat × Int)} {as : List Addr} {i : Nat} {c : Nat} {z : Int} (hD : H D = some (.lst (as.map V.ref))) (hl : as.length = ps.length) (hp : ∀ (j : Nat) (a : Addr) (p : Nat × Int), as[j]? = some a → ps[j]? = some p → H a = some (.tup [.str (tx [p.1]), .int p.2]))
    (hT : H T = some (.tup [.str (tx [c]), .int z])) : Prs (upd H D (.lst ((as.map V.ref).set i (.ref T)))) D (ps.set i (c, z)) := by
  refine ⟨as.set i T, by rw [upd_same, List.map_set], by rw [List.length_set, List.length_set, hl], fun j a p e1 e2 => ?_⟩
  have key : H a = some (.tup [.str (tx [p.1]), .int p.2]) := by
    rw [List.getElem?_set] at e1 e2
    by_cases hj : i = j
    · rw [if_pos hj] at e1 e2
      by_cases hlt : i < as.length
      · rw [if_pos (by omega)] at e1
        rw [if_pos (by omega)] at e2
        cases e1
        cases e2
        exact hT
      · rw [if_neg (by omega)] at e1
        cases e1
    · rw [if_neg hj] at e1 e2
      exact hp j a p e1 e2
  rw [upd_ne (fun q => by rw [q, hD] at key; cases key)]
  exact key
/-! comprehensions over a list that only make new things -/
/-- a comprehension over the list x -/
def LcG (K : Frg) (x : V) (g : TG) (te : TE) (vs : List Nat) (σ : L2.St) (H1 : Hp) (Q : VK) : Prop := ∃ a, x = .ref a ∧ (∃ xs, SqL K H1 a xs) ∧
    ∀ D, H1 D = none → ∃ W : Nat → Nat → Hp → Prop, (∃ m, W 0 m (upd H1 D (.lst []))) ∧ ∀ i m H, W i m H →
      ((Itl K a).stop i H ∧ Q (.ref D) H) ∨ ((Itl K a).go i H ∧ ∃ Nx : Hp → Prop, (∀ H', Nx H' → ∃ m', m' < m ∧ W (i + 1) m' H') ∧ ∀ x H', (Itl K a).yld i H x H' → g x (wipe σ vs) H' fun σ2 H2 => wipe σ2 vs = wipe σ vs ∧ tYes σ2 H2 fun b H3 =>
        if b = true then te σ2 H3 fun y H4 => ∃ acc, H4 D = some (.lst acc) ∧ acc.length < sizeLine ∧ Nx (upd H4 D (.lst (acc ++ [y]))) else Nx H3)
theorem rd_lcL {tl : TE} {g : TG} {te : TE} {vs : List Nat} {σ : L2.St} {H : Hp} {Q : VK} (h : tl σ H fun x H1 => LcG K x g te vs σ H1 Q) : tLc (iList K tl) g tYes te vs σ H Q := h
local macro_rules | `(tactic| walk_at "rd") => `(tactic| (with_reducible refine rd_lcL ?_))
theorem yes_eq {te : TE} {w : L2.St → Prop} {C : VK} {N : Hp → Prop} : (fun (σ2 : L2.St) (H3 : Hp) => w σ2 ∧ te σ2 H3 C) = fun σ2 H3 => w σ2 ∧ tYes σ2 H3 fun b H4 => if b = true then te σ2 H4 C else N H4 := rfl
theorem lcV {a : Addr} {xs : List V} (ys : List V) {g : TG} {te : TE} {vs : List Nat} {σ : L2.St} {H1 : Hp} {Q : VK} (hS : SqL K H1 a xs) (hl : ys.length = xs.length) (hz : xs.length ≤ 100000)
    (hs : ∀ (i : Nat) (x y : V) (H2 : Hp) (C : VK), Same H1 H2 → xs[i]? = some x → ys[i]? = some y → (∀ H4, Same H2 H4 → C y H4) → g x (wipe σ vs) H2 fun σ2 H3 => wipe σ2 vs = wipe σ vs ∧ te σ2 H3 C)
    (hd : ∀ D H', Same H1 H' → H1 D = none → H' D = some (.lst ys) → Q (.ref D) H') :
    LcG K (.ref a) g te vs σ H1 Q := by
  refine ⟨a, rfl, ⟨_, hS⟩, fun D hD => ?_⟩
  refine lc_it (walk_list (K := K) (a := a) (xs := xs)) (fun i H2 => Same H1 H2 ∧ H2 D = some (.lst (ys.take i))) ⟨Same.new hD, by rw [upd_same]; rfl⟩ (fun i H2 _ q => q.1.seq hS) ?_ ?_
  · rintro i x H2 H3 hi ⟨s2, eD⟩ ⟨rfl, hx⟩
    have hy : ys[i]? = some ys[i] := List.getElem?_eq_getElem (by omega)
    refine (yes_eq ▸ hs i x _ H3 (fun y H4 => ∃ acc, H4 D = some (.lst acc) ∧ acc.length < sizeLine ∧ (fun H2 => Same H1 H2 ∧ H2 D = some (.lst (ys.take (i + 1)))) (upd H4 D (.lst (acc ++ [y])))) s2 hx hy ?_)
    intro H5 s5
    refine ⟨_, s5 _ _ eD, by rw [List.length_take, sizeLine_eq]; omega, fun b o e => ?_, ?_⟩
    · rw [upd_ne (ne_of_none e hD)]
      exact s5 _ _ (s2 _ _ e)
    · rw [upd_same, List.take_succ_eq_append_getElem (by omega)]
  · rintro H2 ⟨s2, eD⟩
    rw [← hl, List.take_length] at eD
    exact hd D H2 s2 hD eD
/-- .. each item a new tuple -/
theorem lcT {a : Addr} {xs : List V} (zs : List (List V)) {g : TG} {te : TE} {vs : List Nat} {σ : L2.St} {H1 : Hp} {Q : VK} (hS : SqL K H1 a xs) (hl : zs.length = xs.length) (hz : xs.length ≤ 100000)
    (hs : ∀ (i : Nat) (x : V) (z : List V) (H2 : Hp) (C : VK), Same H1 H2 → xs[i]? = some x → zs[i]? = some z → (∀ T H4, Same H2 H4 → H4 T = some (.tup z) → C (.ref T) H4) → g x (wipe σ vs) H2 fun σ2 H3 => wipe σ2 vs = wipe σ vs ∧ te σ2 H3 C)
    (hd : ∀ D H' (as : List Addr), Same H1 H' → H1 D = none → H' D = some (.lst (as.map V.ref)) → as.length = zs.length → (∀ (j : Nat) (b : Addr) (z : List V), as[j]? = some b → zs[j]? = some z → H' b = some (.tup z)) → Q (.ref D) H') :
    LcG K (.ref a) g te vs σ H1 Q := by
  refine ⟨a, rfl, ⟨_, hS⟩, fun D hD => ?_⟩
  refine lc_it (walk_list (K := K) (a := a) (xs := xs)) (fun i H2 => Same H1 H2 ∧ ∃ as : List Addr, as.length = i ∧ H2 D = some (.lst (as.map V.ref)) ∧ ∀ (j : Nat) (b : Addr) (z : List V), as[j]? = some b → zs[j]? = some z → H2 b = some (.tup z))
    ⟨Same.new hD, [], rfl, by rw [upd_same]; rfl, fun j b z e => by simp at e⟩ (fun i H2 _ q => q.1.seq hS) ?_ ?_
  · rintro i x H2 H3 hi ⟨s2, as, la, eD, hb⟩ ⟨rfl, hx⟩
    have hy : zs[i]? = some zs[i] := List.getElem?_eq_getElem (by omega)
    refine (yes_eq ▸ hs i x _ H3 (fun y H4 => ∃ acc, H4 D = some (.lst acc) ∧ acc.length < sizeLine ∧ (fun H2 => Same H1 H2 ∧ ∃ as : List Addr, as.length = i + 1 ∧ H2 D = some (.lst (as.map V.ref)) ∧ ∀ (j : Nat) (b : Addr) (z : List V), as[j]? = some b → zs[j]? = some z → H2 b = some (.tup z)) (upd H4 D (.lst (acc ++ [y])))) s2 hx hy ?_)
    intro T H5 s5 eT
    refine ⟨_, s5 _ _ eD, by rw [List.length_map, sizeLine_eq]; omega, fun b o e => ?_, as ++ [T], by rw [List.length_append, la]; rfl, by rw [upd_same, List.map_append]; rfl, fun j b z e1 e2 => ?_⟩
    · rw [upd_ne (ne_of_none e hD)]
      exact s5 _ _ (s2 _ _ e)
    · have key : H5 b = some (.tup z) := by
        by_cases hj : j < as.length
        · rw [List.getElem?_append_left hj] at e1
          exact s5 _ _ (hb j b z e1 e2)
        · have hj2 : j = as.length := by
            have := (List.getElem?_eq_some_iff.mp e1).1
            rw [List.length_append, List.length_singleton] at this
            omega
          subst hj2
          rw [List.getElem?_append_right (Nat.le_refl _), Nat.sub_self] at e1
          rw [la, hy] at e2
          cases e1
          cases e2
          exact eT
      rw [upd_ne (fun q => by have := s5 _ _ eD; rw [q, this] at key; cases key)]
      exact key
  · rintro H2 ⟨s2, as, la, eD, hb⟩
    exact hd D H2 as s2 hD eD (by omega) hb
/-! lists of pairs as data -/
def pd (p : Nat × Int) : PyData := .tuple [.str (tx [p.1]), .int p.2]
theorem psData {H : Hp} : ∀ (as : List Addr) (ps : List (Nat × Int)), as.length = ps.length → (∀ (j : Nat) (a : Addr) (p : Nat × Int), as[j]? = some a → ps[j]? = some p → H a = some (.tup [.str (tx [p.1]), .int p.2])) → DpAll K H (as.map V.ref) (ps.map pd)
  | [], [], _, _ => .nil
  | [], _ :: _, h, _ => by cases h
  | _ :: _, [], h, _ => by cases h
  | a :: as, p :: ps, h, hp => .cons (pairData (hp 0 a p rfl rfl)) (psData as ps (by simpa using h) fun j b q e1 e2 => hp (j + 1) b q e1 e2)
theorem Prs.data {H : Hp} {M : Addr} {ps : List (Nat × Int)} (h : Prs H M ps) : Dp K H (.ref M) (.list (ps.map pd)) := let ⟨as, e, l, hp⟩ := h; .lst (SqL.of e) (psData as ps l hp)
theorem Prs.nil {H : Hp} {p : Addr} (h : H p = some (.lst [])) : Prs H p [] := ⟨[], h, rfl, fun j a q e => by simp at e⟩
/-! letters drawn -/
theorem filter_ne_len : ∀ (L : List Nat) (c : Nat), L.Nodup → L.length ≤ (L.filter fun x => decide (x ≠ c)).length + 1
  | [], _, _ => Nat.zero_le _
  | x :: r, c, h => by
    have hx : x ∉ r := (List.nodup_cons.mp h).1
    have hr := (List.nodup_cons.mp h).2
    by_cases e : x = c
    · have : (r.filter fun y => decide (y ≠ c)) = r := List.filter_eq_self.mpr fun y hy => decide_eq_true fun q => hx (by rw [e, ← q]; exact hy)
      rw [List.filter_cons_of_neg (by simp [e]), this]
      exact Nat.le_refl _
    · have := filter_ne_len r c hr
      rw [List.filter_cons_of_pos (by simp [e]), List.length_cons, List.length_cons]
      omega
theorem filter_out_len : ∀ (s L : List Nat), L.Nodup → L.length ≤ (L.filter fun x => decide (x ∉ s)).length + s.length
  | [], L, _ => by
    have : (L.filter fun x => decide (x ∉ ([] : List Nat))) = L := List.filter_eq_self.mpr fun y _ => decide_eq_true (by simp)
    rw [this]
    exact Nat.le_refl _
  | c :: s, L, h => by
    have h1 := filter_out_len s L h
    have h2 := filter_ne_len (L.filter fun x => decide (x ∉ s)) c (h.filter _)
    rw [List.filter_filter] at h2
    have e : (L.filter fun x => decide (x ≠ c) && decide (x ∉ s)) = L.filter fun x => decide (x ∉ c :: s) := by
      apply List.filter_congr
      intro x _
      by_cases a : x = c <;> by_cases b : x ∈ s <;> simp [a, b]
    rw [e] at h2
    rw [List.length_cons]
    omega
theorem letters_nodup : letters.Nodup := by decide +kernel
theorem letters_len : letters.length = 26 := by decide +kernel
theorem alphabet_ok {d : Addr} {m : Int} {H : Hp} {Q : VK} {E : XK} (h0 : 0 ≤ m) (h1 : m ≤ 20) (hd : DrL H d)
    (h : ∀ (s : List Nat) H', s.length = m.toNat → (∀ c ∈ s, c ∈ letters) → s.Nodup → Keep d H H' → DrL H' d → Q (.str (tx s)) H') : sp_law_alphabet K [.ref d, .int m] H Q E := by
  refine ⟨rfl, ?_⟩
  unfold t_law_alphabet
  walk_at "go"
  refine ⟨m, rfl, by omega, by omega, ?_⟩
  have ee : (Str.ofString "") = tx [] := by decide +kernel
  have el : (Str.ofString "abcdefghijklmnopqrstuvwxyz") = tx letters := (tx_self _).symm
  refine forR (n := m) (fun i σ H2 => ∃ (s : List Nat) (v4 v5 v6 : Option V), σ = [some (.ref d), some (.int m), some (.str (tx letters)), some (.str (tx s)), v4, v5, v6] ∧ s.length = i ∧ (∀ c ∈ s, c ∈ letters) ∧ s.Nodup ∧ Keep d H H2 ∧ DrL H2 d)
    ⟨[], none, none, none, by rw [← el, ← ee]; rfl, rfl, by simp, by simp, Keep.refl, hd⟩ ?_ ?_
  · rintro i σ H2 hi ⟨s, v4, v5, v6, rfl, hl, hs, nd, k2, d2⟩
    walk_at "go"
    refine ⟨_, rfl, ?_⟩
    intro L hL
    refine lc_it (walk_str (z := tx letters)) (fun j H3 => Same H2 H3 ∧ H3 L = some (.lst (((letters.take j).filter fun x => decide (x ∉ s)).map fun c => V.str (tx [c])))) ⟨Same.new hL, by rw [upd_same]; rfl⟩ (fun _ _ _ _ => trivial) ?_ ?_
    · rintro j x H3 H4 hj ⟨s3, eL⟩ ⟨rfl, c, hc, rfl⟩
      rw [tx_get] at hc
      have hlt := (List.getElem?_eq_some_iff.mp hc).1
      have etk : letters.take (j + 1) = letters.take j ++ [c] := by
        rw [List.take_succ_eq_append_getElem hlt, (List.getElem?_eq_some_iff.mp hc).2]
      walk_at "go"
      refine ⟨rfl, ?_⟩
      walk_at "go"
      refine notInA_sign ?_
      refine ⟨_, rfl, ?_⟩
      rw [tx_toList]
      refine rd_iteN (fun cs => ?_) (fun cs => ?_)
      · walk_at "go"
        refine ⟨_, eL, by rw [List.length_map, sizeLine_eq]; have := List.length_filter_le (fun x => decide (x ∉ s)) (letters.take j); have := List.length_take_le j letters; have := letters_len; omega, fun b o e => ?_, ?_⟩
        · rw [upd_ne (ne_of_none e hL)]
          exact s3 _ _ e
        · rw [upd_same, etk, List.filter_append, List.map_append]
          have e1 : ([c].filter fun x => decide (x ∉ s)) = [c] := by simp [cs]
          rw [e1]
          rfl
      · refine ⟨s3, ?_⟩
        have e1 : ([c].filter fun x => decide (x ∉ s)) = [] := by simp [cs]
        rw [eL, etk, List.filter_append, e1, List.append_nil]
    · rintro H3 ⟨s3, eL⟩
      have ez : (tx letters).cps.size = letters.length := tx_len letters
      rw [ez, List.take_length] at eL
      have fl := filter_out_len s letters letters_nodup
      rw [letters_len] at fl
      have d3 := d2.same s3
      have Ld : L ≠ d := fun q => by
        obtain ⟨_, _, e⟩ := d2
        rw [q] at hL
        rw [hL] at e
        cases e
      walk_at "go"
      refine lenA_lst (.of eL) ?_
      rw [List.length_map]
      walk_at "go"
      refine pick_ok (by omega) d3 fun q H4 q0 q1 k4 d4 => ?_
      obtain ⟨n, rfl⟩ : ∃ n : Nat, q = n := ⟨q.toNat, by omega⟩
      have hn : n < (letters.filter fun x => decide (x ∉ s)).length := by omega
      have hmem := List.mem_filter.mp (List.getElem_mem hn)
      refine ixA_lst (.of (k4 _ _ Ld eL)) (atI_nat (by rw [List.getElem?_map, List.getElem?_eq_getElem hn]; rfl)) ?_
      refine addA_str (by rw [tx_len, tx_len]; exact small2 (by simp; omega)) ?_
      rw [tx_app]
      walk_at "go"
      refine ⟨s ++ [_], _, _, _, rfl, by rw [List.length_append, hl]; rfl, fun c hc => ?_, ?_, ((k2.trans (Keep.same s3)).trans k4), d4⟩
      · rcases List.mem_append.mp hc with z | z
        · exact hs c z
        · rw [List.mem_singleton.mp z]; exact hmem.1
      · refine List.nodup_append.mpr ⟨nd, by simp, fun a ha b hb e => ?_⟩
        rw [List.mem_singleton.mp hb] at e
        have := of_decide_eq_true hmem.2
        rw [← e] at this
        exact this ha
  · rintro σ H2 ⟨s, v4, v5, v6, rfl, hl, hs, nd, k2, d2⟩
    walk_at "go"
    exact h s H2 hl hs nd k2 d2
theorem odd_ok {d : Addr} {H : Hp} {Q : VK} {E : XK} (hd : DrL H d) (h : ∀ (c : Nat) H', Keep d H H' → DrL H' d → Q (.str (tx [c])) H') : sp_law_odd_sign K [.ref d] H Q E := by
  refine ⟨rfl, ?_⟩
  unfold t_law_odd_sign
  walk_at "go"
  refine lenA_str (small2 (by decide)) ?_
  walk_at "go"
  refine pick_ok (by decide) hd fun r H1 r0 r1 k1 d1 => ?_
  obtain ⟨n, rfl⟩ : ∃ n : Nat, r = n := ⟨r.toNat, by omega⟩
  generalize hz : (Str.ofString " !\"#$&'()*+,-./0123456789:;<=>?@ABCDEFGHIJKLMNOPQRSTUVWXYZ[\\]^_`{|}~\n\t") = z at r1 ⊢
  have hn : n < z.cps.toList.length := by
    have : z.cps.toList.length = z.length := by simp [Str.length]
    omega
  exact ixA_str (by rw [← hz]; exact small2 (by decide)) (atI_nat (List.getElem?_eq_getElem hn)) (h _ H1 k1 d1)
theorem first_odd_ok {l : List Nat} {H : Hp} {Q : VK} {E : XK} (hl : l.length ≤ 10000) (h : Q (.int (fo l)) H) : sp_law_first_odd K [.str (tx l)] H Q E := by
  refine ⟨rfl, ?_⟩
  unfold t_law_first_odd
  walk_at "go"
  refine lenA_str (by rw [tx_len]; exact small2 (by omega)) ?_
  walk_at "go"
  rw [tx_len]
  refine ⟨l.length, rfl, by omega, by omega, ?_⟩
  refine forR (n := l.length) (fun i σ H2 => H2 = H ∧ (∃ v, σ = [some (.str (tx l)), v]) ∧ ∀ (j x : Nat), j < i → l[j]? = some x → x ∈ letters) ⟨rfl, ⟨none, rfl⟩, fun j x hj _ => absurd hj (Nat.not_lt_zero _)⟩ ?_ ?_
  · rintro i σ H2 hi ⟨rfl, ⟨v, rfl⟩, hp⟩
    have hi' : i < l.length := by omega
    walk_at "go"
    refine ixA_str (by rw [tx_len]; exact small2 (by omega)) (atI_nat (j := i) (v := l[i]) (by rw [tx_toList]; exact List.getElem?_eq_getElem hi')) ?_
    walk_at "go"
    refine notInA_sign ?_
    walk_at "go"
    refine rd_iteN (fun hc => ?_) (fun hc => ?_)
    · walk_at "go"
      rw [fo_at l i l[i] hp (List.getElem?_eq_getElem hi') hc] at h
      exact h
    · walk_at "go"
      refine ⟨rfl, ⟨_, rfl⟩, fun j x hj e => ?_⟩
      by_cases hji : j = i
      · subst hji
        rw [List.getElem?_eq_getElem hi'] at e
        rw [← Option.some.inj e]
        exact hc
      · exact hp j x (by omega) e
  · rintro σ H2 ⟨rfl, ⟨v, rfl⟩, hp⟩
    walk_at "go"
    rw [fo_none l (fun j x e => hp j x (by have := (List.getElem?_eq_some_iff.mp e).1; omega) e)] at h
    exact h
theorem atl (v : V) : List.lookup ("at" : Str) [(("at" : Str), v)] = some v := by simp [List.lookup]
theorem RuleAt.same {H H' : Hp} {u : Addr} {l r : List Nat} (h : RuleAt K H u l r) (s : Same H H') : RuleAt K H' u l r := let ⟨dx, a⟩ := h; ⟨dx, s _ _ a⟩
theorem RuleAt.keep {H H' : Hp} {u F : Addr} {l r : List Nat} {xs : List V} (h : RuleAt K H u l r) (k : Keep F H H') (e : H F = some (.lst xs)) : RuleAt K H' u l r := let ⟨dx, a⟩ := h; ⟨dx, k _ _ (fun z => by rw [z, e] at a; cases a) a⟩
/-! texts cut at a sign -/
theorem tx_tl (z : Str) : tx (TL.tl z) = z := tx_self z
/-! books -/
def RulesAt (K : Frg) (H : Hp) (us : List Addr) (rs : List (List Nat × List Nat)) : Prop := us.length = rs.length ∧ ∀ (i : Nat) (u : Addr) (r : List Nat × List Nat), us[i]? = some u → rs[i]? = some r → RuleAt K H u r.1 r.2
def BookAt (K : Frg) (H : Hp) (b L : Addr) (rs : List (List Nat × List Nat)) : Prop := (∃ dx, H b = some (.ins (He.ga K "Book") dx [("rules", .ref L)])) ∧ ∃ us : List Addr, H L = some (.lst (us.map V.ref)) ∧ RulesAt K H us rs
theorem look_rules (v : V) : List.lookup ("rules" : Str) [(("rules" : Str), v)] = some v := by simp [List.lookup]
theorem BookAt.same {H H' : Hp} {b L : Addr} {rs : List (List Nat × List Nat)} (h : BookAt K H b L rs) (s : Same H H') : BookAt K H' b L rs := by
  obtain ⟨⟨dx, hb⟩, us, hL, hl, hr⟩ := h
  refine ⟨⟨dx, s _ _ hb⟩, us, s _ _ hL, hl, fun i u r e1 e2 => ?_⟩
  obtain ⟨dy, hu⟩ := hr i u r e1 e2
  exact ⟨dy, s _ _ hu⟩
theorem book_iter_ok {P : Program} {mg : Str → Option Value} (T : Txt P K mg) {b L : Addr} {rs : List (List Nat × List Nat)} {H : Hp} {Q : VK} {E : XK} (hb : BookAt K H b L rs) (h : ∀ it, H it = none → Q (.ref it) (upd H it (ItO L it 0))) : sp_Book_iter K [.ref b] H Q E := by
  obtain ⟨⟨dx, hb⟩, us, hL, hl, hr⟩ := hb
  refine ⟨rfl, ?_⟩
  unfold t_Book_iter
  walk_at "go"
  refine ⟨b, _, dx, _, _, rfl, hb, T.c_Book, T.n_Book_rules, look_rules _, ?_⟩
  walk_at "go"
  exact ⟨L, _, rfl, .of hL, h⟩
theorem book_add_ok {P : Program} {mg : Str → Option Value} (T : Txt P K mg) {b L u : Addr} {l r : List Nat} {rs : List (List Nat × List Nat)} {H : Hp} {Q : VK} {E : XK} (hb : BookAt K H b L rs) (hu : RuleAt K H u l r) (hn : rs.length ≤ 6)
    (h : rs.length < 6 → ∀ H', Keep L H H' → BookAt K H' b L (rs ++ [(l, r)]) → Q .non H') (hE : rs.length = 6 → E (.ref (He.ga K "BookFull")) none H) : sp_Book_add K [.ref b, .ref u] H Q E := by
  have hb0 := hb
  obtain ⟨⟨dx, hb⟩, us, hL, hl, hr⟩ := hb
  refine ⟨rfl, ?_⟩
  unfold t_Book_add
  walk_at "st"
  walk_at "sq"
  walk_at "st"
  refine ⟨b, _, dx, _, _, rfl, hb, T.c_Book, T.n_Book_rules, look_rules _, ?_⟩
  walk_at "st"
  refine lenA_lst (.of hL) ?_
  rw [List.length_map, hl]
  walk_at "st"
  by_cases c : rs.length = 6
  · walk_at "auto"
    exact hE c
  · walk_at "auto"
    refine ⟨b, _, dx, _, _, rfl, hb, T.c_Book, T.n_Book_rules, look_rules _, ?_⟩
    walk_at "auto"
    refine ⟨.inl ⟨rfl, _, .of hL⟩, ?_⟩
    walk_at "auto"
    refine append_go hL (by rw [List.length_map]; omega) ?_
    refine h (by omega) _ Keep.at_ ⟨⟨dx, ?_⟩, us ++ [u], ?_, ?_, fun i v q e1 e2 => ?_⟩
    · rw [upd_ne (fun z => by rw [z, hL] at hb; cases hb)]
      exact hb
    · rw [upd_same, List.map_append]
      rfl
    · rw [List.length_append, List.length_append, hl]
      rfl
    · have key : RuleAt K H v q.1 q.2 := by
        by_cases hi : i < us.length
        · rw [List.getElem?_append_left hi] at e1
          rw [List.getElem?_append_left (by omega)] at e2
          exact hr i v q e1 e2
        · have hi2 : i = us.length := by
            have := (List.getElem?_eq_some_iff.mp e1).1
            rw [List.length_append, List.length_singleton] at this
            omega
          subst hi2
          rw [List.getElem?_append_right (Nat.le_refl _), Nat.sub_self] at e1
          rw [List.getElem?_append_right (by omega), show us.length - rs.length = 0 by omega] at e2
          cases e1
          cases e2
          exact hu
      obtain ⟨dv, hv⟩ := key
      exact ⟨dv, by rw [upd_ne (fun z => by rw [z, hL] at hv; cases hv)]; exact hv⟩
theorem look_add (v : V) : List.lookup ("add" : Str) [(("rules" : Str), v)] = none := by
  have e : (("add" : Str) == "rules") = false := by decide +kernel
  simp [List.lookup, e]
theorem putRules (v : V) : putF "rules" v [] = [(("rules" : Str), v)] := rfl
theorem RulesAt.take {H : Hp} {us : List Addr} {rs : List (List Nat × List Nat)} (h : RulesAt K H us rs) (n : Nat) : RulesAt K H (us.take n) (rs.take n) := by
  obtain ⟨hl, hr⟩ := h
  refine ⟨by simp [hl], fun i u r e1 e2 => ?_⟩
  rw [List.getElem?_take] at e1 e2
  split at e1
  · rename_i c
    rw [if_pos c] at e2
    exact hr i u r e1 e2
  · cases e1
/-! lists of rules as the law keeps them -/
def RlsL (H : Hp) (D : Addr) (rs : List (List Nat × List Nat)) : Prop := ∃ as : List Addr, H D = some (.lst (as.map V.ref)) ∧ as.length = rs.length ∧ ∀ (j : Nat) (a : Addr) (r : List Nat × List Nat), as[j]? = some a → rs[j]? = some r → H a = some (.tup [.str (tx r.1), .str (tx r.2)])
theorem RlsL.same {H H' : Hp} {D : Addr} {rs : List (List Nat × List Nat)} (h : RlsL H D rs) (s : Same H H') : RlsL H' D rs := let ⟨as, a, b, c⟩ := h; ⟨as, s _ _ a, b, fun j x p e f => s _ _ (c j x p e f)⟩
theorem RlsL.keep {H H' : Hp} {D e : Addr} {xs : List V} {rs : List (List Nat × List Nat)} (h : RlsL H D rs) (k : Keep e H H') (n : D ≠ e) (he : H e = some (.lst xs)) : RlsL H' D rs := by
  obtain ⟨as, a, b, c⟩ := h
  refine ⟨as, k _ _ n a, b, fun j x p e1 e2 => k _ _ (fun q => ?_) (c j x p e1 e2)⟩
  have := c j x p e1 e2
  rw [q, he] at this
  cases this
theorem RlsL.keepD {H H' : Hp} {D e : Addr} {rs : List (List Nat × List Nat)} (h : RlsL H D rs) (k : Keep e H H') (n : D ≠ e) (he : DrL H e) : RlsL H' D rs := let ⟨_, _, q⟩ := he; h.keep k n q
theorem RlsL.push {H : Hp} {M T : Addr} {rs : List (List Nat × List Nat)} {r : List Nat × List Nat} {as : List Addr} (hM : H M = some (.lst (as.map V.ref))) (hl : as.length = rs.length) (hp : ∀ (j : Nat) (a : Addr) (p : List Nat × List Nat), as[j]? = some a → rs[j]? = some p → H a = some (.tup [.str (tx p.1), .str (tx p.2)]))
    (hT : H T = some (.tup [.str (tx r.1), .str (tx r.2)])) : RlsL (upd H M (.lst (as.map V.ref ++ [.ref T]))) M (rs ++ [r]) := by
  refine ⟨as ++ [T], by rw [upd_same, List.map_append]; rfl, by rw [List.length_append, List.length_append, hl]; rfl, fun j a p e1 e2 => ?_⟩
  have key : H a = some (.tup [.str (tx p.1), .str (tx p.2)]) := by
    by_cases hj : j < as.length
    · rw [List.getElem?_append_left hj] at e1
      rw [List.getElem?_append_left (by omega)] at e2
      exact hp j a p e1 e2
    · have hj2 : j = as.length := by
        have := (List.getElem?_eq_some_iff.mp e1).1
        rw [List.length_append, List.length_singleton] at this
        omega
      subst hj2
      rw [List.getElem?_append_right (Nat.le_refl _), Nat.sub_self] at e1
      rw [List.getElem?_append_right (by omega), show as.length - rs.length = 0 by omega] at e2
      cases e1
      cases e2
      exact hT
  rw [upd_ne (fun q => by rw [q, hM] at key; cases key)]
  exact key
theorem RlsL.at_ {H : Hp} {D : Addr} {rs : List (List Nat × List Nat)} (h : RlsL H D rs) {i : Nat} (hi : i < rs.length) : ∃ (as : List Addr) (a : Addr), H D = some (.lst (as.map V.ref)) ∧ as.length = rs.length ∧ atI (as.map V.ref) (i : Int) = some (.ref a) ∧ H a = some (.tup [.str (tx rs[i].1), .str (tx rs[i].2)]) := by
  obtain ⟨as, hD, hl, hp⟩ := h
  have h1 : i < as.length := by omega
  exact ⟨as, as[i], hD, hl, atI_nat (by rw [List.getElem?_map, List.getElem?_eq_getElem h1]; rfl), hp i _ _ (List.getElem?_eq_getElem h1) (List.getElem?_eq_getElem hi)⟩
def okR (r : List Nat × List Nat) : Prop := okSides r.1 r.2 ∧ (∀ c ∈ r.1, c ∈ letters) ∧ (∀ c ∈ r.2, c ∈ letters)
def OkRs (rs : List (List Nat × List Nat)) : Prop := ∀ r ∈ rs, okR r
/-- a rule as a line -/
def lineL (r : List Nat × List Nat) : List Nat := r.1 ++ 58 :: r.2
def writeL (rs : List (List Nat × List Nat)) : List Nat := TL.joinL [10] (rs.map lineL)
theorem letters_big : ∀ c ∈ letters, 97 ≤ c ∧ c < 123 := by decide +kernel
theorem lineL_len (r : List Nat × List Nat) : (lineL r).length = r.1.length + r.2.length + 1 := by simp [lineL]; omega
theorem lineL_le {r : List Nat × List Nat} (h : okR r) : (lineL r).length ≤ 9 := by
  have := h.1
  unfold okSides at this
  rw [lineL_len]
  omega
theorem joinL_len (s : Nat) : ∀ ps : List (List Nat), (TL.joinL [s] ps).length ≤ (ps.map List.length).sum + ps.length
  | [] => Nat.zero_le _
  | [p] => by simp [TL.joinL]
  | p :: q :: r => by
    have h := joinL_len s (q :: r)
    show (p ++ ([s] ++ TL.joinL [s] (q :: r))).length ≤ _
    simp at h ⊢
    omega
theorem lines_sum : ∀ {rs : List (List Nat × List Nat)}, OkRs rs → ((rs.map lineL).map List.length).sum ≤ 9 * rs.length
  | [], _ => Nat.le_refl _
  | r :: t, h => by
    have h1 := lineL_le (h r List.mem_cons_self)
    have h2 := lines_sum (rs := t) fun q hq => h q (List.mem_cons_of_mem _ hq)
    simp at h2 ⊢
    omega
theorem writeL_len {rs : List (List Nat × List Nat)} (h : OkRs rs) : (writeL rs).length ≤ 10 * rs.length := by
  have h1 := joinL_len 10 (rs.map lineL)
  have h2 := lines_sum h
  unfold writeL
  rw [List.length_map] at h1
  omega
theorem rd_split {to te : TE} {σ : L2.St} {H : Hp} {Q : VK} (h : to σ H fun x H1 => (∃ a, x = .str a) ∧ te σ H1 fun y H2 => rSplitS x [y] H2 Q) : tSplit to te σ H Q := h
theorem split_go {a b : Str} {H : Hp} {Q : VK} (hb : (b.length == 0) = false) (ha : a.length ≤ 10000) (h : ∀ p, H p = none → Q (.ref p) (upd H p (.lst ((Txt.split a b).map V.str)))) : rSplitS (.str a) [.str b] H Q := ⟨a, b, rfl, rfl, hb, by rw [sizeLine_eq]; omega, h⟩
local macro_rules | `(tactic| walk_at "rd") => `(tactic| first | (with_reducible refine rd_split ?_) | ((with_reducible show (∃ a, V.str _ = V.str a) ∧ _); refine ⟨⟨_, rfl⟩, ?_⟩))
theorem s58 : (Str.ofString ":" : Str) = tx [58] := by decide +kernel
theorem s32 : (Str.ofString " " : Str) = tx [32] := by decide +kernel
theorem s10 : (Str.ofString "\n" : Str) = tx [10] := by decide +kernel
theorem DrL.ne {H : Hp} {d L : Addr} (h : DrL H d) (hL : H L = none) : L ≠ d := fun q => by
  obtain ⟨_, _, e⟩ := h
  rw [q] at hL
  rw [hL] at e
  cases e
/-! lists of rules: data, cuts -/
theorem strOk_let {l : List Nat} (h : ∀ c ∈ l, c ∈ letters) : PyData.strOk (tx l) = true := by
  simp [PyData.strOk, tx]
  exact fun c hc => letters_small c (h c hc)
def rdat (r : List Nat × List Nat) : PyData := .tuple [.str (tx r.1), .str (tx r.2)]
theorem rlData {H : Hp} : ∀ (as : List Addr) (rs : List (List Nat × List Nat)), as.length = rs.length → (∀ (j : Nat) (a : Addr) (r : List Nat × List Nat), as[j]? = some a → rs[j]? = some r → H a = some (.tup [.str (tx r.1), .str (tx r.2)])) → DpAll K H (as.map V.ref) (rs.map rdat)
  | [], [], _, _ => .nil
  | [], _ :: _, h, _ => by cases h
  | _ :: _, [], h, _ => by cases h
  | a :: as, r :: rs, h, hp => .cons (.tup (SqT.of (hp 0 a r rfl rfl)) (.cons (.str _) (.cons (.str _) .nil))) (rlData as rs (by simpa using h) fun j b q e1 e2 => hp (j + 1) b q e1 e2)
theorem canLay_rl : ∀ {rs : List (List Nat × List Nat)}, OkRs rs → PyData.canLayAll0 (rs.map rdat) = true
  | [], _ => by simp [PyData.canLayAll0]
  | r :: t, h => by
    have h1 := strOk_let (h r List.mem_cons_self).2.1
    have h2 := strOk_let (h r List.mem_cons_self).2.2
    have h3 := canLay_rl (rs := t) fun q hq => h q (List.mem_cons_of_mem _ hq)
    simp [PyData.canLayAll0, rdat, PyData.canLay0, h1, h2, h3]
theorem depth_rl : ∀ rs : List (List Nat × List Nat), PyData.depthAll (rs.map rdat) ≤ 1
  | [] => by simp [PyData.depthAll]
  | r :: t => by
    have := depth_rl t
    simp [PyData.depthAll, rdat, PyData.depth]
    omega
theorem shaped_rl {rs : List (List Nat × List Nat)} (h : OkRs rs) : SeqAt.shaped (.list (rs.map rdat)) = true := by
  have h1 := canLay_rl h
  have h2 := depth_rl rs
  simp [SeqAt.shaped, PyData.canLay0, h1, PyData.depth]
  omega
theorem eqvAll_self : ∀ rs : List (List Nat × List Nat), PyData.eqvAll (rs.map rdat) (rs.map rdat) = true
  | [] => by simp [PyData.eqvAll]
  | r :: t => by
    have h := eqvAll_self t
    simp [PyData.eqvAll, rdat, PyData.eqv, h]
theorem RlsL.data {H : Hp} {D : Addr} {rs : List (List Nat × List Nat)} (h : RlsL H D rs) : Dp K H (.ref D) (.list (rs.map rdat)) := by
  obtain ⟨as, e, hl, hp⟩ := h
  exact .lst (SqL.of e) (rlData as rs hl hp)
theorem ne_rl {M N : Addr} {rs : List (List Nat × List Nat)} {H : Hp} {Q : VK} (hM : RlsL H M rs) (hN : RlsL H N rs) (ok : OkRs rs) (h : Q (.bl false) H) : rNeA K (.ref M) (.ref N) H Q :=
  neA_data hM.data hN.data (shaped_rl ok) (shaped_rl ok) (b := true) (by simp only [PyData.eqv]; exact eqvAll_self rs) h
/-! lines joined -/
theorem join_sep (s : List Nat) (ps : List (List Nat)) : Txt.join (tx s) (ps.map tx) = tx (TL.joinL s ps) := by
  rw [TL.join_eq]
  have h := TL.tl_join (tx s) (ps.map tx)
  have e : (ps.map tx).map TL.tl = ps := by
    rw [List.map_map]
    conv => rhs; rw [← List.map_id ps]
    apply List.map_congr_left
    intro l _
    exact tx_toList l
  rw [e, show TL.tl (tx s) = s from tx_toList s] at h
  rw [← h]
  exact (tx_self _).symm
/-- lines joined by newlines -/
theorem joinlines_ok {L : Addr} {rs : List (List Nat × List Nat)} {H : Hp} {Q : VK} (ok : OkRs rs) (hn : rs.length ≤ 1000) (eL : H L = some (.lst (rs.map fun r => V.str (tx (lineL r))))) (h : Q (.str (tx (writeL rs))) H) : rJoinA K (.str (Str.ofString "\n")) [.ref L] H Q := by
  have e1 : (rs.map fun r => V.str (tx (lineL r))) = ((rs.map lineL).map tx).map V.str := by rw [List.map_map, List.map_map]; rfl
  refine ⟨_, L, (rs.map lineL).map tx, rfl, rfl, .inl (SqL.of (by rw [eL, e1])), ?_, ?_⟩
  · have h1 := lines_sum ok
    have e2 : ((rs.map lineL).map tx).map (·.length) = (rs.map lineL).map List.length := by
      rw [List.map_map]
      apply List.map_congr_left
      intro l _
      exact tx_len l
    rw [e2, List.length_map, List.length_map]
    have e3 : (Str.ofString "\n").length = 1 := by decide
    rw [e3]
    omega
  · rw [s10, join_sep]
    exact h
theorem rd_makeSt {C : Addr} {sp : Sp} {E : L2.St → XK} {ta te : TE} {σ : L2.St} {H : Hp} {Q : VK} (h : ta σ H fun y H1 => y = .ref C ∧ te σ H1 fun z H2 => ∃ a xs, z = .ref a ∧ (SqT K H2 a xs ∨ SqL K H2 a xs) ∧ MkG C sp [] xs H2 Q (E σ)) : tMakeSt K C sp E ta te σ H Q := h
theorem rd_cms {C : Addr} {sp : Sp} {E : L2.St → XK} {ta : TE} {t : TA} {σ : L2.St} {H : Hp} {Q : VK} (h : ta σ H fun x H1 => x = .ref C ∧ t σ H1 fun vs H2 => sp (.ref C :: vs) H2 Q (E σ)) : tCMS C sp E ta t σ H Q := h
theorem rd_enum {ta : TA} {σ : L2.St} {H : Hp} {R : It → Hp → Prop} (h : ta σ H fun vs H1 => ∃ a xs, vs = [.ref a] ∧ SqL K H1 a xs ∧ R (Ite K a) H1) : iEnum K ta σ H R := h
local macro_rules | `(tactic| walk_at "rd") => `(tactic| first | (with_reducible refine rd_makeSt ?_) | (with_reducible refine rd_enum ?_))
theorem rule_at {H : Hp} {us : List Addr} {rs : List (List Nat × List Nat)} (h : RulesAt K H us rs) {i : Nat} {x : V} (hx : (us.map V.ref)[i]? = some x) : ∃ u r, x = .ref u ∧ us[i]? = some u ∧ rs[i]? = some r ∧ RuleAt K H u r.1 r.2 := by
  rw [List.getElem?_map] at hx
  cases e : us[i]? with
  | none => rw [e] at hx; cases hx
  | some u =>
    rw [e] at hx
    have hi := (List.getElem?_eq_some_iff.mp e).1
    have hi2 : i < rs.length := by rw [← h.1]; exact hi
    exact ⟨u, rs[i], (Option.some.inj hx).symm, rfl, List.getElem?_eq_getElem hi2, h.2 i u _ e (List.getElem?_eq_getElem hi2)⟩
theorem str_line (l r : List Nat) : l ++ (Str.ofString ":").cps.toList ++ r = lineL (l, r) := by
  rw [s58, tx_toList]
  simp [lineL]
theorem written_form_ok {P : Program} {mg : Str → Option Value} (T : Txt P K mg) {b L : Addr} {rs : List (List Nat × List Nat)} {H : Hp} {Q : VK} {E : XK} (ok : OkRs rs) (hn : rs.length ≤ 100) (hb : BookAt K H b L rs) (h : ∀ H', Same H H' → Q (.str (tx (writeL rs))) H') : sp_Book_written K [.ref b] H Q E := by
  refine ⟨rfl, ?_⟩
  unfold t_Book_written
  walk_at "st"
  obtain ⟨⟨dx, eb⟩, us, eL, hru⟩ := id hb
  refine ⟨b, _, dx, _, _, rfl, eb, T.c_Book, T.n_Book_rules, look_rules _, ?_⟩
  refine lcV (rs.map fun r => V.str (tx (lineL r))) (.of eL) (by rw [List.length_map, List.length_map, hru.1]) (by rw [List.length_map, hru.1]; omega) ?_ ?_
  · intro i x y H2 C s2 hx hy hC
    obtain ⟨u, r, rfl, eu, er, ru⟩ := rule_at hru hx
    rw [List.getElem?_map, er] at hy
    cases hy
    have okq := ok r (List.mem_of_getElem? er)
    walk_at "st"
    refine ⟨rfl, ?_⟩
    walk_at "st"
    obtain ⟨du, hu⟩ := ru.same s2
    refine ⟨u, du, _, rfl, hu, ?_⟩
    refine rule_str_ok T (by have := okq.1.2.1; omega) (by have := okq.1.2.2; omega) (ru.same s2) ⟨_, rfl, ?_⟩
    rw [str_line]
    exact hC _ (Same.refl _)
  · intro D H1 s1 _ eD
    exact joinlines_ok ok (by omega) eD (h H1 s1)
/-! any text cut at a sign -/
def pcs (c : Nat) (l : List Nat) : List (List Nat) := TL.spl [c] 0 [] l
theorem split_any {c : Nat} (hc : c < 256) (l : List Nat) : Txt.split (tx l) (tx [c]) = (pcs c l).map tx := by
  have h1 : TL.tl (tx [c]) = [c] := by simp [TL.tl, tx]
  have h2 : TL.tl (tx l) = l := by simp [TL.tl, tx]
  have key := TL.split_spl (tx l) (tx [c]) (by rw [h1]; exact fun z => nomatch z) (TL.kind_ok (by simp [tx, hc]))
  rw [h1, h2] at key
  have e := congrArg (List.map tx) key
  rw [List.map_map] at e
  unfold pcs
  rw [← e]
  have : (tx ∘ TL.tl) = id := funext fun z => tx_tl z
  rw [this, List.map_id]
theorem join_pcs {c : Nat} (hc : c < 256) (l : List Nat) : TL.joinL [c] (pcs c l) = l := by
  have h := StrLaws.join_split (tx l) (tx [c])
  rw [split_any hc] at h
  have j := join_sep [c] (pcs c l)
  rw [TL.join_eq] at j
  exact tx_inj.mp (j.symm.trans h)
theorem joinL_mem (s : Nat) : ∀ (ps : List (List Nat)) (p : List Nat), p ∈ ps → p.length ≤ (TL.joinL [s] ps).length
  | [], p, h => nomatch h
  | [q], p, h => by
    rcases List.mem_cons.mp h with e | e
    · rw [e]; exact Nat.le_refl _
    · exact nomatch e
  | q :: t :: r, p, h => by
    show p.length ≤ (q ++ ([s] ++ TL.joinL [s] (t :: r))).length
    rw [List.length_append, List.length_append]
    rcases List.mem_cons.mp h with e | e
    · rw [e]; omega
    · have := joinL_mem s (t :: r) p e
      omega
theorem joinL_num (s : Nat) : ∀ ps : List (List Nat), ps.length ≤ (TL.joinL [s] ps).length + 1
  | [] => Nat.zero_le _
  | [q] => by show 1 ≤ _; omega
  | q :: t :: r => by
    show (t :: r).length + 1 ≤ (q ++ ([s] ++ TL.joinL [s] (t :: r))).length + 1
    rw [List.length_append, List.length_append]
    have := joinL_num s (t :: r)
    have e : ([s] : List Nat).length = 1 := rfl
    omega
theorem pcs_le {c : Nat} (hc : c < 256) {l p : List Nat} (h : p ∈ pcs c l) : p.length ≤ l.length := by
  have := joinL_mem c _ p h
  rw [join_pcs hc] at this
  exact this
theorem pcs_num {c : Nat} (hc : c < 256) (l : List Nat) : (pcs c l).length ≤ l.length + 1 := by
  have := joinL_num c (pcs c l)
  rw [join_pcs hc] at this
  exact this
/-- the lines of a text -/
def lnsOf (l : List Nat) : List (List Nat) := if l = [] then [] else pcs 10 l
theorem lns_le {l p : List Nat} (h : p ∈ lnsOf l) : p.length ≤ l.length := by
  unfold lnsOf at h
  split at h
  · exact nomatch h
  · exact pcs_le (by decide) h
theorem lns_num (l : List Nat) : (lnsOf l).length ≤ l.length + 1 := by
  unfold lnsOf
  split
  · exact Nat.zero_le _
  · exact pcs_num (by decide) l
theorem lns_join (l : List Nat) : TL.joinL [10] (lnsOf l) = l := by
  unfold lnsOf
  split
  · rename_i e; rw [e]; rfl
  · exact join_pcs (by decide) l
/-- whether a line is one of a rule -/
def okPs : List (List Nat) → Bool
  | [a, b] => decide (fo a = -1) && decide (fo b = -1) && decide (okSides a b)
  | _ => false
def okLn (x : List Nat) : Bool := okPs (pcs 58 x)
def ruleOf (x : List Nat) : List Nat × List Nat := ((pcs 58 x).getD 0 [], (pcs 58 x).getD 1 [])
theorem okPs_two {ps : List (List Nat)} (h : okPs ps = true) : ∃ a b, ps = [a, b] ∧ fo a = -1 ∧ fo b = -1 ∧ okSides a b := by
  match ps, h with
  | [a, b], h =>
    simp only [okPs, Bool.and_eq_true, decide_eq_true_eq] at h
    exact ⟨a, b, rfl, h.1.1, h.1.2, h.2⟩
theorem okLn_rule {x : List Nat} (h : okLn x = true) : okR (ruleOf x) := by
  obtain ⟨a, b, e, h1, h2, h3⟩ := okPs_two h
  unfold ruleOf
  rw [e]
  exact ⟨h3, fo_all a h1, fo_all b h2⟩
theorem okLn_line {x : List Nat} (h : okLn x = true) : lineL (ruleOf x) = x := by
  obtain ⟨a, b, e, _⟩ := okPs_two h
  have j := join_pcs (c := 58) (by decide) x
  unfold ruleOf
  rw [e] at j ⊢
  exact j
inductive Due where
  | line (i : Nat)
  | full
  | book (rs : List (List Nat × List Nat))
def firstBad : List (List Nat) → Option Nat
  | [] => none
  | x :: r => if okLn x = true then (firstBad r).map (· + 1) else some 0
def dueOf (l : List Nat) : Due := match firstBad (lnsOf l) with
  | some i => .line i
  | none => if 6 < (lnsOf l).length then .full else .book ((lnsOf l).map ruleOf)
theorem fb_some : ∀ {ls : List (List Nat)} {i : Nat} {x : List Nat}, (∀ y ∈ ls.take i, okLn y = true) → ls[i]? = some x → okLn x = false → firstBad ls = some i
  | [], i, x, _, e, _ => by simp at e
  | y :: r, 0, x, _, e, h => by
    cases e
    unfold firstBad
    rw [h]
    rfl
  | y :: r, i + 1, x, hp, e, h => by
    have h1 := hp y (by simp)
    have h2 := fb_some (ls := r) (i := i) (x := x) (fun z hz => hp z (by simp [hz])) (by simpa using e) h
    unfold firstBad
    rw [if_pos h1, h2]
    rfl
theorem fb_none : ∀ {ls : List (List Nat)}, (∀ y ∈ ls, okLn y = true) → firstBad ls = none
  | [], _ => rfl
  | y :: r, hp => by
    unfold firstBad
    rw [if_pos (hp y List.mem_cons_self), fb_none fun z hz => hp z (List.mem_cons_of_mem _ hz)]
    rfl
theorem fb_ok : ∀ {ls : List (List Nat)}, firstBad ls = none → ∀ y ∈ ls, okLn y = true
  | [], _, y, h => nomatch h
  | x :: r, e, y, h => by
    unfold firstBad at e
    split at e
    · rename_i c
      rcases List.mem_cons.mp h with z | z
      · rw [z]; exact c
      · exact fb_ok (ls := r) (by simpa using e) y z
    · cases e
theorem due_book {l : List Nat} {rs : List (List Nat × List Nat)} (h : dueOf l = .book rs) : OkRs rs ∧ writeL rs = l ∧ rs.length ≤ 6 := by
  unfold dueOf at h
  split at h
  · cases h
  · rename_i e
    split at h
    · cases h
    · rename_i c
      cases h
      have ok := fb_ok e
      refine ⟨fun r hr => ?_, ?_, by rw [List.length_map]; omega⟩
      · obtain ⟨x, hx, rfl⟩ := List.mem_map.mp hr
        exact okLn_rule (ok x hx)
      · unfold writeL
        rw [List.map_map]
        have e2 : (lnsOf l).map (lineL ∘ ruleOf) = lnsOf l := by
          conv => rhs; rw [← List.map_id (lnsOf l)]
          exact List.map_congr_left fun x hx => okLn_line (ok x hx)
        rw [e2, lns_join]
def DueV (H : Hp) (p : Addr) : Due → Prop
  | .line i => H p = some (.tup [.str "line", .int ((i : Int) + 1)])
  | .full => H p = some (.tup [.str "full", .int 0])
  | .book rs => ∃ D, H p = some (.tup [.str "book", .ref D]) ∧ RlsL H D rs
def ToldV (K : Frg) (H : Hp) (p : Addr) : Due → Prop
  | .line i => H p = some (.tup [.str "line", .int ((i : Int) + 1)])
  | .full => H p = some (.tup [.str "full", .int 0])
  | .book rs => ∃ b L, H p = some (.tup [.str "book", .ref b]) ∧ BookAt K H b L rs
theorem DueV.same {H H' : Hp} {p : Addr} {d : Due} (h : DueV H p d) (s : Same H H') : DueV H' p d := by
  cases d with
  | line i => exact s _ _ h
  | full => exact s _ _ h
  | book rs => exact let ⟨D, e, r⟩ := h; ⟨D, s _ _ e, r.same s⟩
theorem ToldV.same {H H' : Hp} {p : Addr} {d : Due} (h : ToldV K H p d) (s : Same H H') : ToldV K H' p d := by
  cases d with
  | line i => exact s _ _ h
  | full => exact s _ _ h
  | book rs => exact let ⟨b, L, e, r⟩ := h; ⟨b, L, s _ _ e, r.same s⟩
theorem find_one {l m : List Nat} {c : Nat} (h : c ∉ l) : Txt.find (tx (l ++ c :: m)) (tx [c]) = (l.length : Nat) := by
  have at_ : ∀ i, StrLaws.At (tx (l ++ c :: m)) (tx [c]) (tx (l ++ c :: m)).length i ↔ (l ++ c :: m)[i]? = some c := fun i => by
    have := StrLaws.subAt_one (tx (l ++ c :: m)) c i
    rw [tx_toList] at this
    exact this
  have hl : StrLaws.At (tx (l ++ c :: m)) (tx [c]) (tx (l ++ c :: m)).length l.length := (at_ _).mpr (by simp)
  unfold Txt.find
  rcases StrLaws.occ_head (tx (l ++ c :: m)) (tx [c]) 1 (Nat.le_refl 1) with ⟨_, no⟩ | ⟨i, r, e, hi, lo⟩
  · exact absurd hl (no _)
  · rw [e]
    show ((i : Nat) : Int) = _
    have h1 : ¬ l.length < i := fun z => lo _ z hl
    have h2 : ¬ i < l.length := fun z => by
      have q := (at_ i).mp hi
      rw [List.getElem?_append_left z] at q
      exact h (List.mem_of_getElem? q)
    congr 1
    omega
theorem fo_colon {l m : List Nat} (h : ∀ c ∈ l, c ∈ letters) : fo (l ++ 58 :: m) = (l.length : Nat) :=
  fo_at _ l.length 58 (fun j x hj e => by
    rw [List.getElem?_append_left hj] at e
    exact h x (List.mem_of_getElem? e)) (by simp) (by decide +kernel)
theorem asc_write {rs : List (List Nat × List Nat)} (ok : OkRs rs) : ∀ c ∈ writeL rs, c < 128 := by
  have one : ∀ r, okR r → ∀ c ∈ lineL r, c < 128 := fun r h c hc => by
    unfold lineL at hc
    rcases List.mem_append.mp hc with z | z
    · have := letters_big c (h.2.1 c z); omega
    · rcases List.mem_cons.mp z with z | z
      · omega
      · have := letters_big c (h.2.2 c z); omega
  have all : ∀ (ps : List (List Nat)), (∀ p ∈ ps, ∀ c ∈ p, c < 128) → ∀ c ∈ TL.joinL [10] ps, c < 128 := by
    intro ps
    induction ps with
    | nil => intro _ c h; exact nomatch h
    | cons p r ih =>
      intro hp c hc
      cases r with
      | nil => exact hp p List.mem_cons_self c hc
      | cons q t =>
        have hc' : c ∈ p ++ ([10] ++ TL.joinL [10] (q :: t)) := hc
        rcases List.mem_append.mp hc' with z | z
        · exact hp p List.mem_cons_self c z
        · rcases List.mem_append.mp z with z | z
          · rcases List.mem_cons.mp z with z | z
            · omega
            · exact nomatch z
          · exact ih (fun x hx => hp x (List.mem_cons_of_mem _ hx)) c z
  exact all _ fun p hp => by
    obtain ⟨r, hr, rfl⟩ := List.mem_map.mp hp
    exact one r (ok r hr)
/-! what is due -/
theorem rd_truth {ta : TE} {σ : L2.St} {H : Hp} {B : Bool → Hp → Prop} (h : ta σ H fun x H' => ∃ k, TruV K x H' k ∧ B k H') : tTruth K ta σ H B := h
theorem tru_bl {b : Bool} {H : Hp} {B : Bool → Prop} (h : B b) : ∃ k, TruV K (.bl b) H k ∧ B k := ⟨b, rfl, h⟩
local macro_rules | `(tactic| walk_at "rd") => `(tactic| first | (with_reducible refine rd_truth ?_) | (with_reducible refine tru_bl ?_))
def okTx (a : List Nat) (lo hi : Nat) : Bool := decide (fo a = -1) && (decide (lo ≤ a.length) && decide (a.length ≤ hi))
theorem is_text_ok {a : List Nat} {lo hi : Nat} {H : Hp} {Q : VK} {E : XK} (hl : a.length ≤ 10000) (h : Q (.bl (okTx a lo hi)) H) : sp_law_is_text K [.str (tx a), .int (lo : Nat), .int (hi : Nat)] H Q E := by
  refine ⟨rfl, ?_⟩
  unfold t_law_is_text
  walk_at "st"
  refine first_odd_ok hl ?_
  walk_at "st"
  have g := fo_ge a
  unfold okTx at h
  by_cases c1 : fo a = -1
  · rw [decide_eq_true c1] at h
    rw [decide_eq_true (show fo a < 0 by omega)]
    walk_at "st"
    refine lenA_str (by rw [tx_len]; exact small2 (by omega)) ?_
    rw [tx_len]
    walk_at "st"
    by_cases c2 : lo ≤ a.length
    · rw [decide_eq_true c2] at h
      rw [decide_eq_true (show (lo : Int) ≤ (a.length : Nat) by omega)]
      walk_at "st"
      have e : decide ((a.length : Int) ≤ (hi : Nat)) = decide (a.length ≤ hi) := by
        by_cases c3 : a.length ≤ hi
        · rw [decide_eq_true c3, decide_eq_true (by omega)]
        · rw [decide_eq_false c3, decide_eq_false (by omega)]
      rw [e]
      simpa using h
    · rw [decide_eq_false c2] at h
      rw [decide_eq_false (show ¬ (lo : Int) ≤ (a.length : Nat) by omega)]
      walk_at "st"
      simpa using h
  · rw [decide_eq_false c1] at h
    rw [decide_eq_false (show ¬ fo a < 0 by omega)]
    walk_at "st"
    simpa using h
theorem okLn_two {x a b : List Nat} (e : pcs 58 x = [a, b]) : okLn x = (okTx a 1 4 && okTx b 0 4) := by
  unfold okLn okTx
  rw [e]
  show (decide (fo a = -1) && decide (fo b = -1) && decide (okSides a b)) = _
  rw [Bool.eq_iff_iff]
  simp only [Bool.and_eq_true, decide_eq_true_eq]
  unfold okSides
  constructor
  · rintro ⟨⟨h1, h2⟩, h3, h4, h5⟩
    exact ⟨⟨h1, h3, h4⟩, h2, by omega, h5⟩
  · rintro ⟨⟨h1, h3, h4⟩, h2, _, h5⟩
    exact ⟨⟨h1, h2⟩, h3, h4, h5⟩
theorem okLn_len {x : List Nat} (e : (pcs 58 x).length ≠ 2) : okLn x = false := by
  unfold okLn
  match h : pcs 58 x with
  | [] => rfl
  | [a] => rfl
  | [a, b] => exact absurd (by rw [h]; rfl) e
  | a :: b :: c :: r => rfl
theorem two_of {α : Type} {l : List α} (h : l.length = 2) : ∃ a b, l = [a, b] := by
  match l, h with
  | [a, b], _ => exact ⟨a, b, rfl⟩
def t_dlo (K : Frg) (E : XK) : TS :=
  (tSeq (tAsg (tLst tNil) (gName 2)) (tSeq (tFor (iRng1 (tCons (tCB (rLenA K) (tCons (tVar 1) tNil)) tNil)) (gName 3) (tSeq (tAsg (tSplit (tOp (rIx K) (tVar 1) (tVar 3)) (tC (.str ":"))) (gName 4)) (tSeq (tIfS (tOr (tTest (tOp (rNeA K) (tCB (rLenA K) (tCons (tVar 4) tNil)) (tC (.int 2)))) (tOr (tNot (tTruth K (tCallSD (sp_law_is_text K) [] (WE (W0 E)) (tCons (tOp (rIx K) (tVar 4) (tC (.int 0))) (tCons (tC (.int 1)) (tCons (tC (.int 4)) tNil)))))) (tNot (tTruth K (tCallSD (sp_law_is_text K) [] (WE (W0 E)) (tCons (tOp (rIx K) (tVar 4) (tC (.int 1))) (tCons (tC (.int 0)) (tCons (tC (.int 4)) tNil)))))))) (tRet (tTup (tCons (tC (.str "line")) (tCons (tOp rAddA (tVar 3) (tC (.int 1))) tNil)))) tNext) (tDrop (tBM K "list" rAppend (tVar 2) (tCons (tTup (tCons (tOp (rIx K) (tVar 4) (tC (.int 0))) (tCons (tOp (rIx K) (tVar 4) (tC (.int 1))) tNil))) tNil)))))) (tSeq (tIfS (tTest (tOp rGtA (tCB (rLenA K) (tCons (tVar 2) tNil)) (tC (.int 6)))) (tRet (tTup (tCons (tC (.str "full")) (tCons (tC (.int 0)) tNil)))) tNext) (tRet (tTup (tCons (tC (.str "book")) (tCons (tVar 2) tNil)))))))
theorem due_of_ok {l : List Nat} {H : Hp} {Q : VK} {E : XK} (hl : l.length ≤ 1000) (h : ∀ p H', Same H H' → DueV H' p (dueOf l) → Q (.ref p) H') : sp_law_due_of K [.str (tx l)] H Q E := by
  refine ⟨rfl, ?_⟩
  unfold t_law_due_of
  walk_at "sq"
  walk_at "st"
  have ee : (Str.ofString "") = tx [] := by decide +kernel
  have loop : ∀ (Ls : Addr) (H1 : Hp), Same H H1 → H1 Ls = some (.lst ((lnsOf l).map fun x => V.str (tx x))) →
      t_dlo K E { nx := fun _ H' => Q .non H', rt := Q } [some (.str (tx l)), some (.ref Ls), none, none, none] H1 := by
    intro Ls H1 s1 eLs
    unfold t_dlo
    walk_at "sq"
    walk_at "st"
    intro R hR
    have sR := Same.new (o := .lst []) hR
    have LR : Ls ≠ R := ne_of_none eLs hR
    walk_at "st"
    walk_at "sq"
    walk_at "st"
    refine lenA_lst (.of (sR _ _ eLs)) ?_
    have ln := lns_num l
    rw [List.length_map]
    walk_at "st"
    refine ⟨((lnsOf l).length : Nat), rfl, by omega, by omega, ?_⟩
    refine forR (n := ((lnsOf l).length : Nat)) (fun i σ H2 => (∃ v3 v4, σ = [some (.str (tx l)), some (.ref Ls), some (.ref R), v3, v4]) ∧ Keep R H1 H2 ∧ (∃ as : List Addr, H2 R = some (.lst (as.map V.ref)) ∧ as.length = ((lnsOf l).take i).length ∧ ∀ (j : Nat) (a : Addr) (r : List Nat × List Nat), as[j]? = some a → (((lnsOf l).take i).map ruleOf)[j]? = some r → H2 a = some (.tup [.str (tx r.1), .str (tx r.2)])) ∧ ∀ y ∈ (lnsOf l).take i, okLn y = true)
      ⟨⟨none, none, rfl⟩, Keep.new hR, ⟨[], upd_same, rfl, fun j a r e => by simp at e⟩, fun y hy => by simp at hy⟩ ?_ ?_
    · rintro i σ H2 hi ⟨⟨v3, v4, rfl⟩, k2, ⟨as, eR, la, ha⟩, ok⟩
      have hi' : i < (lnsOf l).length := by omega
      have hx := lns_le (List.getElem_mem hi')
      generalize ex : (lnsOf l)[i] = x at hx
      have ex2 : (lnsOf l)[i]? = some x := by rw [List.getElem?_eq_getElem hi', ex]
      have eL2 := k2 _ _ LR eLs
      walk_at "st"
      walk_at "sq"
      walk_at "st"
      refine ixA_lst (.of eL2) (v := .str (tx x)) (atI_nat (by rw [List.getElem?_map, ex2]; rfl)) ?_
      walk_at "st"
      rw [s58]
      refine split_go (by decide) (by rw [tx_len]; omega) fun p hp => ?_
      rw [split_any (by decide), List.map_map]
      have sP := Same.new (o := .lst ((pcs 58 x).map (V.str ∘ tx))) hp
      have bad : okLn x = false → dueOf l = .line i := fun c => by
        unfold dueOf
        rw [fb_some ok ex2 c]
      have kP : Keep R H1 (upd H2 p (.lst ((pcs 58 x).map (V.str ∘ tx)))) := k2.trans (Keep.same sP)
      have eP : (upd H2 p (.lst ((pcs 58 x).map (V.str ∘ tx)))) p = some (.lst ((pcs 58 x).map (V.str ∘ tx))) := upd_same
      have s3 : Same H (upd H2 p (.lst ((pcs 58 x).map (V.str ∘ tx)))) := fun a o e => kP _ _ (ne_of_none (s1 _ _ e) hR) (s1 _ _ e)
      have eR3 := sP _ _ eR
      have ha3 : ∀ (j : Nat) (a : Addr) (r : List Nat × List Nat), as[j]? = some a → (((lnsOf l).take i).map ruleOf)[j]? = some r → (upd H2 p (.lst ((pcs 58 x).map (V.str ∘ tx)))) a = some (.tup [.str (tx r.1), .str (tx r.2)]) := fun j a r e1 e2 => sP _ _ (ha j a r e1 e2)
      generalize upd H2 p (.lst ((pcs 58 x).map (V.str ∘ tx))) = H3 at eP kP s3 eR3 ha3 ⊢
      walk_at "st"
      walk_at "sq"
      walk_at "st"
      refine lenA_lst (.of eP) ?_
      rw [List.length_map]
      walk_at "st"
      have tell : okLn x = false → ∀ q, H3 q = none → Q (.ref q) (upd H3 q (.tup [.str "line", .int ((i : Int) + 1)])) := fun c q hq => h q _ (s3.trans (Same.new hq)) (by rw [bad c]; exact upd_same)
      by_cases c2 : (pcs 58 x).length = 2
      case neg =>
        rw [decide_eq_false (show ¬ (((pcs 58 x).length : Nat) : Int) = 2 by omega)]
        walk_at "st"
        intro q hq
        walk_at "st"
        exact tell (okLn_len c2) q hq
      rw [decide_eq_true (show (((pcs 58 x).length : Nat) : Int) = 2 by omega)]
      obtain ⟨a, b, e2⟩ := two_of c2
      have pl : a.length ≤ 1000 ∧ b.length ≤ 1000 := by
        have h1 := pcs_le (c := 58) (by decide) (l := x) (p := a) (by rw [e2]; simp)
        have h2 := pcs_le (c := 58) (by decide) (l := x) (p := b) (by rw [e2]; simp)
        omega
      have eo := okLn_two e2
      rw [e2] at eP
      walk_at "st"
      refine ixA_lst (.of eP) (v := .str (tx a)) rfl ?_
      walk_at "st"
      refine is_text_ok (lo := 1) (hi := 4) (by omega) ?_
      walk_at "st"
      cases ca : okTx a 1 4 with
      | false =>
        rw [ca] at eo
        walk_at "st"
        intro q hq
        walk_at "st"
        exact tell eo q hq
      | true =>
        walk_at "st"
        refine ixA_lst (.of eP) (v := .str (tx b)) rfl ?_
        walk_at "st"
        refine is_text_ok (lo := 0) (hi := 4) (by omega) ?_
        walk_at "st"
        cases cb : okTx b 0 4 with
        | false =>
          rw [ca, cb] at eo
          walk_at "st"
          intro q hq
          walk_at "st"
          exact tell eo q hq
        | true =>
          rw [ca, cb] at eo
          walk_at "st"
          refine ⟨tyL eR3, ?_⟩
          walk_at "st"
          refine ixA_lst (.of eP) (v := .str (tx a)) rfl ?_
          walk_at "st"
          refine ixA_lst (.of eP) (v := .str (tx b)) rfl ?_
          walk_at "st"
          intro T hT
          walk_at "st"
          have sT := Same.new (o := .tup [.str (tx a), .str (tx b)]) hT
          refine append_go (sT _ _ eR3) (by rw [List.length_map, la, List.length_take]; omega) ?_
          have er : ruleOf x = (a, b) := by unfold ruleOf; rw [e2]; rfl
          refine ⟨⟨_, _, rfl⟩, fun c o n e => ?_, ?_, fun y hy => ?_⟩
          · rw [upd_ne n]
            exact sT _ _ (kP _ _ n e)
          · have key := RlsL.push (rs := ((lnsOf l).take i).map ruleOf) (r := (a, b)) (sT _ _ eR3) (by rw [la, List.length_map]) (fun j c r e1 e2 => sT _ _ (ha3 j c r e1 e2)) (T := T) upd_same
            obtain ⟨as2, q1, q2, q3⟩ := key
            rw [List.take_succ_eq_append_getElem hi', ex, List.map_append]
            refine ⟨as2, q1, by rw [q2]; simp, fun j c r e1 e2 => q3 j c r e1 (by rw [← er]; exact e2)⟩
          · rw [List.take_succ_eq_append_getElem hi', ex] at hy
            rcases List.mem_append.mp hy with z | z
            · exact ok y z
            · rw [List.mem_singleton.mp z]
              exact eo
    · rintro σ H2 ⟨⟨v3, v4, rfl⟩, k2, ⟨as, eR, la, ha⟩, ok⟩
      have tk : (lnsOf l).take ((((lnsOf l).length : Nat) : Int)).toNat = lnsOf l := by simp
      rw [tk] at la ha ok
      have s3 : Same H H2 := fun a o e => k2 _ _ (ne_of_none (s1 _ _ e) hR) (s1 _ _ e)
      walk_at "st"
      walk_at "sq"
      walk_at "st"
      refine lenA_lst (.of eR) ?_
      rw [List.length_map, la]
      walk_at "st"
      have ed : dueOf l = if 6 < (lnsOf l).length then .full else .book ((lnsOf l).map ruleOf) := by
        unfold dueOf
        rw [fb_none ok]
      by_cases c : 6 < (lnsOf l).length
      · rw [decide_eq_true (show (((lnsOf l).length : Nat) : Int) > 6 by omega)]
        walk_at "st"
        intro q hq
        walk_at "st"
        refine h q _ (s3.trans (Same.new hq)) ?_
        rw [ed, if_pos c]
        exact upd_same
      · rw [decide_eq_false (show ¬ (((lnsOf l).length : Nat) : Int) > 6 by omega)]
        walk_at "st"
        intro q hq
        walk_at "st"
        refine h q _ (s3.trans (Same.new hq)) ?_
        rw [ed, if_neg c]
        exact ⟨R, upd_same, as, by rw [upd_ne (ne_of_none eR hq)]; exact eR, by rw [la, List.length_map], fun j a r e1 e2 => by
          have q0 := ha j a r e1 e2
          rw [upd_ne (ne_of_none q0 hq)]
          exact q0⟩
  by_cases c : l = []
  · subst c
    rw [decide_eq_true (show tx [] = Str.ofString "" from ee.symm)]
    walk_at "st"
    intro Ls hLs
    walk_at "st"
    exact loop Ls (upd H Ls (.lst [])) (Same.new hLs) (by rw [upd_same]; rfl)
  · rw [decide_eq_false (show ¬ tx l = Str.ofString "" from fun z => by rw [ee, tx_inj] at z; exact c z)]
    walk_at "st"
    rw [s10]
    refine split_go (by decide) (by rw [tx_len]; omega) fun Ls hLs => ?_
    walk_at "st"
    refine loop Ls _ (Same.new hLs) ?_
    rw [upd_same, split_any (by decide), List.map_map]
    unfold lnsOf
    rw [if_neg c]
    rfl
/-! the book that is read -/
def TextV (v : V) (l : List Nat) : Prop := v = .str (tx l) ∨ (v = .byt (PySem.W.KSb.enc (tx l)) ∧ ∀ c ∈ l, c < 128)
theorem enc_low {l : List Nat} (hl : ∀ c ∈ l, c < 128) : ∀ p, p < (PySem.W.KSb.enc (tx l)).size → ((PySem.W.KSb.enc (tx l)).getD p 0).toNat < 128 := by
  intro p hp
  have ea : PySem.W.KSb.Asc (tx l) := fun c hc => hl c (by rw [tx_toList] at hc; exact hc)
  have sz : (PySem.W.KSb.enc (tx l)).size = l.length := by rw [PySem.W.KSb.enc_size, tx_len]
  have e := PySem.W.KSb.enc_ints ea
  have hp2 : p < l.length := by omega
  have q1 : (PySem.W.KBw.bInts (PySem.W.KSb.enc (tx l)))[p]? = some (((PySem.W.KSb.enc (tx l)).getD p 0).toNat : Int) := by
    unfold PySem.W.KBw.bInts
    rw [List.getElem?_map, Array.getElem?_toList, Array.getElem?_eq_getElem hp]
    simp [Array.getD, hp]
  rw [e] at q1
  unfold PySem.W.KSb.codes at q1
  rw [tx_toList, List.getElem?_map, List.getElem?_eq_getElem hp2] at q1
  have q2 := Option.some.inj q1
  have := hl _ (List.getElem_mem hp2)
  have q3 : ((l[p] : Nat) : Int) = (((PySem.W.KSb.enc (tx l)).getD p 0).toNat : Int) := q2
  omega
theorem rd_bmb {r : V → List V → Hp → VK → Prop} {to : TE} {t : TA} {σ : L2.St} {H : Hp} {Q : VK} (h : to σ H fun x H1 => (∃ b, x = .byt b) ∧ t σ H1 fun xs H2 => r x xs H2 Q) : tBMB r to t σ H Q := h
local macro_rules | `(tactic| walk_at "rd") => `(tactic| (with_reducible refine rd_bmb ?_))
theorem as_string_any {v : V} {l : List Nat} {H : Hp} {Q : VK} {E : XK} (hv : TextV v l) (hl : l.length ≤ 10000) (h : Q (.str (tx l)) H) : sp_as_string K [v] H Q E := by
  rcases hv with rfl | ⟨rfl, low⟩
  · refine ⟨rfl, ?_⟩
    unfold t_as_string
    walk_at "sq"
    walk_at "st"
    refine isi_go (.ty "bytes") (.base (.str _)) (kit_ty (r := false) (by decide +kernel)) ?_
    walk_at "st"
    exact h
  · have ea : PySem.W.KSb.Asc (tx l) := fun c hc => low c (by rw [tx_toList] at hc; exact hc)
    refine ⟨rfl, ?_⟩
    unfold t_as_string
    walk_at "sq"
    walk_at "st"
    refine isi_go (.ty "bytes") (.byt _) (kit_ty (r := true) (by decide +kernel)) ?_
    walk_at "st"
    refine ⟨⟨_, rfl⟩, ?_⟩
    walk_at "st"
    refine ⟨_, rfl, rfl, enc_low low, by rw [PySem.W.KSb.enc_size, tx_len]; omega, ?_⟩
    rw [Rz.txtOf_enc ea]
    exact h
theorem book_init_big {P : Program} {mg : Str → Option Value} (T : Txt P K mg) {b dx p : Addr} {us : List Addr} {rs : List (List Nat × List Nat)} {H : Hp} {Q : VK} {E : XK} (hb : H b = some (.ins (He.ga K "Book") dx [])) (hp : H p = some (.tup (us.map V.ref))) (hr : RulesAt K H us rs)
    (h : rs.length ≤ 6 → ∀ L H', Keep b H H' → H L = none → BookAt K H' b L rs → Q .non H') (hE : 6 < rs.length → ∀ H', Keep b H H' → E (.ref (He.ga K "BookFull")) none H') : sp_Book_init K [.ref b, .ref p] H Q E := by
  refine ⟨rfl, ?_⟩
  unfold t_Book_init
  walk_at "st"
  walk_at "sq"
  walk_at "st"
  intro L hL
  walk_at "st"
  have sL := Same.new (o := .lst []) hL
  refine ⟨b, _, dx, _, rfl, sL _ _ hb, T.c_Book, T.n_Book_rules, by show 0 < 1000; decide, ?_⟩
  rw [putRules]
  walk_at "st"
  have hpb : p ≠ b := fun z => by rw [z, hb] at hp; cases hp
  have bL : b ≠ L := ne_of_none hb hL
  have k0 : ∀ a o, a ≠ b → H a = some o → upd (upd H L (.lst [])) b (.ins (He.ga K "Book") dx [(("rules" : Str), .ref L)]) a = some o := fun a o n e => by rw [upd_ne n]; exact sL _ _ e
  have b0 : BookAt K (upd (upd H L (.lst [])) b (.ins (He.ga K "Book") dx [(("rules" : Str), .ref L)])) b L (rs.take 0) := ⟨⟨dx, upd_same⟩, [], by rw [upd_ne (Ne.symm bL), upd_same]; rfl, by simp, fun i u r e => by simp at e⟩
  refine ⟨_, rfl, p, rfl, ⟨_, SqT.of (k0 _ _ hpb hp)⟩, for_it (walk_tup (K := K) (a := p) (xs := us.map V.ref)) (fun i σ H2 => (∃ v, σ = [some (.ref b), some (.ref p), v]) ∧ (∀ a o, a ≠ b → H a = some o → H2 a = some o) ∧ BookAt K H2 b L (rs.take i) ∧ i ≤ 6) ⟨⟨none, rfl⟩, k0, b0, by omega⟩ (fun i σ H2 _ q => SqT.of (q.2.1 _ _ hpb hp)) ?_ ?_⟩
  · rintro i x σ H2 H3 hi ⟨⟨v, rfl⟩, k2, bk, i7⟩ ⟨rfl, hx⟩
    rw [List.length_map] at hi
    have hi2 : i < rs.length := by rw [← hr.1]; exact hi
    have eu : x = .ref us[i] := by
      rw [List.getElem?_map, List.getElem?_eq_getElem hi] at hx
      exact (Option.some.inj hx).symm
    subst eu
    obtain ⟨du, hu⟩ := hr.2 i us[i] rs[i] (List.getElem?_eq_getElem hi) (List.getElem?_eq_getElem hi2)
    have hu2 : RuleAt K H3 us[i] rs[i].1 rs[i].2 := ⟨du, k2 _ _ (fun z => by
      rw [z, hb] at hu
      have := congrArg (fun o => match o with | some (HO.ins _ _ fs) => fs.length | _ => 0) hu
      simp [ruleF] at this) hu⟩
    walk_at "st"
    obtain ⟨d2, hb2⟩ := bk.1
    refine ⟨b, d2, _, rfl, hb2, look_add _, ?_⟩
    walk_at "st"
    obtain ⟨vs, hL2, _⟩ := bk.2
    have lt : (rs.take i).length = i := by rw [List.length_take]; omega
    refine book_add_ok T bk hu2 (by omega) (fun l6 H4 k4 bk4 => ?_) (fun c => hE (by omega) H3 fun a o n e => k2 a o n e)
    refine ⟨⟨_, rfl⟩, fun a o n e => k4 _ _ (fun z => by rw [z, hL] at e; cases e) (k2 _ _ n e), ?_, by omega⟩
    rw [List.take_succ_eq_append_getElem hi2]
    exact bk4
  · rintro σ H2 ⟨⟨v, rfl⟩, k2, bk, i7⟩
    rw [List.length_map, hr.1] at i7
    rw [List.length_map, hr.1, List.take_length] at bk
    exact h i7 L H2 k2 hL bk
theorem book_make_big {P : Program} {mg : Str → Option Value} (T : Txt P K mg) {us : List Addr} {rs : List (List Nat × List Nat)} {H : Hp} {Q : VK} {E : XK} (hr : RulesAt K H us rs) (hn : rs.length ≤ 10000)
    (h : rs.length ≤ 6 → ∀ b L H', Same H H' → H b = none → H L = none → BookAt K H' b L rs → Q (.ref b) H') (hE : 6 < rs.length → ∀ H', Same H H' → E (.ref (He.ga K "BookFull")) none H') : MkG (He.ga K "Book") (spStar 1 (sp_Book_init K)) [] (us.map V.ref) H Q E := by
  intro y dx hy hdx hne
  refine ⟨[.ref y], us.map V.ref, by simp, rfl, by rw [List.length_map, hr.1, sizeLine_eq]; omega, fun p hp => ?_⟩
  have s0 : Same H (upd (upd H dx (.own y)) y (.ins (He.ga K "Book") dx [])) := made_same hy hdx
  have sp := Same.new (o := .tup (us.map V.ref)) hp
  refine book_init_big T (dx := dx) (rs := rs) (us := us) (sp _ _ upd_same) upd_same ⟨hr.1, fun i u r e1 e2 => ?_⟩ (fun c L H1 k1 hL bk => ?_) (fun c H1 k1 => ?_)
  · obtain ⟨du, hu⟩ := hr.2 i u r e1 e2
    exact ⟨du, sp _ _ (s0 _ _ hu)⟩
  · exact ⟨rfl, h c y L H1 (fun b o e => k1 b o (ne_of_none e hy) (sp _ _ (s0 _ _ e))) hy (s0.free (sp.free hL)) bk⟩
  · exact hE c H1 fun b o e => k1 b o (ne_of_none e hy) (sp _ _ (s0 _ _ e))
theorem rd_tryF {c : Value} {i : Nat} {tmk : L2.St → Hp → XK → Prop} {Wout : WX} {tb : WX → TS} {D : Ends} {σ : L2.St} {H : Hp} (h : tb (wFrom K c i tmk Wout) D σ H) : tTryF K c i tmk Wout tb D σ H := h
local macro_rules | `(tactic| walk_at "rd") => `(tactic| (with_reducible refine rd_tryF ?_))
theorem rule_make_any {P : Program} {mg : Str → Option Value} (T : Txt P K mg) {l r : List Nat} {H : Hp} {Q : VK} {E : XK} (hl : l.length ≤ 1000) (hr : r.length ≤ 1000)
    (h : fo l = -1 → fo r = -1 → okSides l r → ∀ u H', Same H H' → H u = none → RuleAt K H' u l r → Q (.ref u) H')
    (hS : ¬ (fo l = -1 ∧ fo r = -1) → ∀ H' d o, Same H H' → H' d = none → E (.ref (He.ga K "BadSign")) (some d) (upd H' d o))
    (hR : ¬ okSides l r → ∀ H', Same H H' → E (.ref (He.ga K "BadRule")) none H') : MkG (He.ga K "Rule") (sp_Rule_init K) (List.drop 1 [.str ""]) [.str (tx l), .str (tx r)] H Q E := by
  intro y dx hy hdx hne
  have s0 : Same H (upd (upd H dx (.own y)) y (.ins (He.ga K "Rule") dx [])) := made_same hy hdx
  refine rule_init_ok T hl hr upd_same ?_ ?_ ?_ ?_
  · intro e1 e2 e3 H1 k1 q1
    exact ⟨rfl, h e1 e2 e3 y H1 (keep_same hy hdx k1) hy ⟨dx, q1⟩⟩
  · intro c H1 d s1 hd
    exact hS (by omega) H1 d _ (s0.trans s1) hd
  · intro _ c H1 d s1 hd
    exact hS (by omega) H1 d _ (s0.trans s1) hd
  · intro _ _ c H1 s1
    exact hR c H1 (s0.trans s1)
theorem okLn_iff {x a b : List Nat} (e : pcs 58 x = [a, b]) : okLn x = true ↔ fo a = -1 ∧ fo b = -1 ∧ okSides a b := by
  unfold okLn
  rw [e]
  show (decide (fo a = -1) && decide (fo b = -1) && decide (okSides a b)) = true ↔ _
  rw [Bool.and_eq_true, Bool.and_eq_true, decide_eq_true_eq, decide_eq_true_eq, decide_eq_true_eq, and_assoc]
def t_brl (K : Frg) (E : XK) : TS :=
  (tSeq (tFor (iEnum K (tCons (tVar 4) tNil)) (gTup K 2 (gCons (gName 5) (gCons (gName 6) gNil))) (tSeq (tAsg (tSplit (tVar 6) (tC (.str ":"))) (gName 7)) (tSeq (tIfS (tTest (tOp (rNeA K) (tCB (rLenA K) (tCons (tVar 7) tNil)) (tC (.int 2)))) (tRaise (tMkX (He.ga K "BadLine") "line" (tCons (tOp rAddA (tVar 5) (tC (.int 1))) tNil)) (W0 E)) tNext) (tTryF K (.ref (He.ga K "RiseError")) 8 (tMkX (He.ga K "BadLine") "line" (tCons (tOp rAddA (tVar 5) (tC (.int 1))) tNil)) (W0 E) (fun W => (tDrop (tBM K "list" rAppend (tVar 3) (tCons (tMakeS (He.ga K "Rule") (sp_Rule_init K) (List.drop 1 [.str ""]) (WE W) (tCons (tOp (rIx K) (tVar 7) (tC (.int 0))) (tCons (tOp (rIx K) (tVar 7) (tC (.int 1))) tNil))) tNil)))))))) (tRet (tMakeSt K (He.ga K "Book") (spStar 1 (sp_Book_init K)) (WE (W0 E)) (tVar 0) (tVar 3))))
theorem book_read_any {P : Program} {mg : Str → Option Value} (T : Txt P K mg) {v : V} {l : List Nat} {H : Hp} {Q : VK} {E : XK} (hv : TextV v l) (hl : l.length ≤ 1000)
    (hB : ∀ rs, dueOf l = .book rs → ∀ b L H', Same H H' → BookAt K H' b L rs → Q (.ref b) H')
    (hF : dueOf l = .full → ∀ H', Same H H' → E (.ref (He.ga K "BookFull")) none H')
    (hL : ∀ i : Nat, dueOf l = .line i → ∀ H' d, Same H H' → H' d = none → E (.ref (He.ga K "BadLine")) (some d) (upd H' d (.xd [("line", .int ((i : Int) + 1))]))) : sp_Book_read K [.ref (He.ga K "Book"), v] H Q E := by
  refine ⟨rfl, ?_⟩
  unfold t_Book_read
  walk_at "st"
  walk_at "sq"
  walk_at "st"
  refine as_string_any hv (by omega) ?_
  walk_at "st"
  walk_at "sq"
  walk_at "st"
  intro R hR
  have sR := Same.new (o := .lst []) hR
  walk_at "st"
  walk_at "sq"
  walk_at "st"
  have ee : (Str.ofString "") = tx [] := by decide +kernel
  have loop : ∀ (Ls : Addr) (H1 : Hp), Same (upd H R (.lst [])) H1 → Ls ≠ R → H1 Ls = some (.lst ((lnsOf l).map fun x => V.str (tx x))) →
      t_brl K E { nx := fun _ H' => Q .non H', rt := Q } [some (.ref (He.ga K "Book")), some v, some (.str (tx l)), some (.ref R), some (.ref Ls), none, none, none, none] H1 := by
    intro Ls H1 s1 LR eLs
    unfold t_brl
    walk_at "sq"
    walk_at "st"
    refine ⟨Ls, _, rfl, .of eLs, ?_⟩
    refine for_it (walk_enum (K := K) (a := Ls) (xs := (lnsOf l).map fun x => V.str (tx x))) (fun i σ H2 => (∃ v5 v6 v7, σ = [some (.ref (He.ga K "Book")), some v, some (.str (tx l)), some (.ref R), some (.ref Ls), v5, v6, v7, none]) ∧ Keep R H1 H2 ∧ (∃ us : List Addr, H2 R = some (.lst (us.map V.ref)) ∧ RulesAt K H2 us (((lnsOf l).take i).map ruleOf)) ∧ ∀ y ∈ (lnsOf l).take i, okLn y = true)
      ⟨⟨none, none, none, rfl⟩, Keep.refl, ⟨[], s1 _ _ upd_same, rfl, fun i u r e => by simp at e⟩, fun y hy => by simp at hy⟩ (fun i σ H2 _ q => .of (q.2.1 _ _ LR eLs)) ?_ ?_
    · rintro i x0 σ H2 H3 hi ⟨⟨v5, v6, v7, rfl⟩, k2, ⟨us, eR, hr⟩, ok⟩ ⟨Tp, x1, x2, rfl, hT, rfl, e1, e2⟩
      rw [List.length_map] at hi
      cases e1
      have hx := lns_le (List.getElem_mem hi)
      generalize ex : (lnsOf l)[i] = x at hx
      have ex2 : (lnsOf l)[i]? = some x := by rw [List.getElem?_eq_getElem hi, ex]
      have e2 : ((lnsOf l).map fun x => V.str (tx x))[i]? = some x2 := e2
      rw [List.getElem?_map, ex2] at e2
      cases e2
      have bad : okLn x = false → dueOf l = .line i := fun c => by
        unfold dueOf
        rw [fb_some ok ex2 c]
      have sT := Same.new (o := .tup [.int (i : Nat), .str (tx x)]) hT
      refine rd_gtup upd_same rfl ?_
      walk_at "st"
      walk_at "sq"
      walk_at "st"
      rw [s58]
      refine split_go (by decide) (by rw [tx_len]; omega) fun p hp => ?_
      rw [split_any (by decide), List.map_map]
      have sP := sT.trans (Same.new (o := .lst ((pcs 58 x).map (V.str ∘ tx))) hp)
      have eP : upd (upd H2 Tp (.tup [.int (i : Nat), .str (tx x)])) p (.lst ((pcs 58 x).map (V.str ∘ tx))) p = some (.lst ((pcs 58 x).map (V.str ∘ tx))) := upd_same
      have eR4 := sP _ _ eR
      have hr4 : RulesAt K (upd (upd H2 Tp (.tup [.int (i : Nat), .str (tx x)])) p (.lst ((pcs 58 x).map (V.str ∘ tx)))) us (((lnsOf l).take i).map ruleOf) := ⟨hr.1, fun j u r e1 e2 => (hr.2 j u r e1 e2).same sP⟩
      have k4 : Keep R H1 (upd (upd H2 Tp (.tup [.int (i : Nat), .str (tx x)])) p (.lst ((pcs 58 x).map (V.str ∘ tx)))) := k2.trans (Keep.same sP)
      generalize upd (upd H2 Tp (.tup [.int (i : Nat), .str (tx x)])) p (.lst ((pcs 58 x).map (V.str ∘ tx))) = H4 at eP eR4 hr4 k4 ⊢
      have s4 : Same H H4 := fun a o e => k4 _ _ (ne_of_none e hR) (s1 _ _ (sR _ _ e))
      walk_at "st"
      walk_at "sq"
      walk_at "st"
      refine lenA_lst (.of eP) ?_
      rw [List.length_map]
      walk_at "st"
      by_cases c2 : (pcs 58 x).length = 2
      case neg =>
        rw [decide_eq_false (show ¬ (((pcs 58 x).length : Nat) : Int) = 2 by omega)]
        walk_at "st"
        exact ⟨_, rfl, fun d hd => hL i (bad (okLn_len c2)) H4 d s4 hd⟩
      rw [decide_eq_true (show (((pcs 58 x).length : Nat) : Int) = 2 by omega)]
      obtain ⟨a, b, e2⟩ := two_of c2
      have pl : a.length ≤ 1000 ∧ b.length ≤ 1000 := by
        have h1 := pcs_le (c := 58) (by decide) (l := x) (p := a) (by rw [e2]; simp)
        have h2 := pcs_le (c := 58) (by decide) (l := x) (p := b) (by rw [e2]; simp)
        omega
      have eo := okLn_iff e2
      have er : ruleOf x = (a, b) := by unfold ruleOf; rw [e2]; rfl
      rw [e2] at eP
      walk_at "st"
      refine ⟨tyL eR4, ?_⟩
      walk_at "st"
      refine ixA_lst (.of eP) (v := .str (tx a)) rfl ?_
      walk_at "st"
      refine ixA_lst (.of eP) (v := .str (tx b)) rfl ?_
      walk_at "st"
      refine rule_make_any T pl.1 pl.2 (fun f1 f2 f3 u H5 s5 fu ru => ?_) (fun f H5 d o s5 hd => ?_) (fun f H5 s5 => ?_)
      · walk_at "st"
        refine append_go (s5 _ _ eR4) (by rw [List.length_map, hr.1, List.length_map, List.length_take]; have := lns_num l; omega) ?_
        refine ⟨⟨_, _, _, rfl⟩, fun b o n e => ?_, ⟨us ++ [u], by rw [upd_same, List.map_append]; rfl, ?_⟩, fun y hy => ?_⟩
        · rw [upd_ne n]
          exact s5 _ _ (k4 _ _ n e)
        · rw [List.take_succ_eq_append_getElem hi, ex, List.map_append]
          refine ⟨by rw [List.length_append, List.length_append, hr.1]; rfl, fun j w q e1 e2 => ?_⟩
          have key : RuleAt K H5 w q.1 q.2 := by
            have hl := hr.1
            by_cases hj : j < us.length
            · rw [List.getElem?_append_left hj] at e1
              rw [List.getElem?_append_left (by omega)] at e2
              exact (hr4.2 j w q e1 e2).same s5
            · have hj2 : j = us.length := by
                have := (List.getElem?_eq_some_iff.mp e1).1
                rw [List.length_append, List.length_singleton] at this
                omega
              subst hj2
              rw [List.getElem?_append_right (Nat.le_refl _), Nat.sub_self] at e1
              rw [List.getElem?_append_right (by omega), show us.length - (((lnsOf l).take i).map ruleOf).length = 0 by omega] at e2
              cases e1
              have e3 : ruleOf x = q := Option.some.inj e2
              rw [← e3, er]
              exact ru
          obtain ⟨dv, hv⟩ := key
          exact ⟨dv, by rw [upd_ne (fun z => by rw [z, s5 _ _ eR4] at hv; cases hv)]; exact hv⟩
        · rw [List.take_succ_eq_append_getElem hi, ex] at hy
          rcases List.mem_append.mp hy with z | z
          · exact ok y z
          · rw [List.mem_singleton.mp z]
            exact eo.mpr ⟨f1, f2, f3⟩
      · have nb : okLn x = false := by
          cases q : okLn x with
          | false => rfl
          | true => exact absurd ⟨(eo.mp q).1, (eo.mp q).2.1⟩ f
        refine ⟨true, T.e_BadSign_RiseError, fun _ => ⟨T.x_BadSign.c.exC, fun ax hax => ?_⟩, fun c => by cases c⟩
        walk_at "st"
        exact ⟨_, rfl, fun d2 hd2 => hL i (bad nb) _ d2 (s4.trans (s5.trans (Same.new hd))) hd2⟩
      · have nb : okLn x = false := by
          cases q : okLn x with
          | false => rfl
          | true => exact absurd (eo.mp q).2.2 f
        refine ⟨true, T.e_BadRule_RiseError, fun _ => ⟨T.x_BadRule.c.exC, fun ax hax => ?_⟩, fun c => by cases c⟩
        walk_at "st"
        exact ⟨_, rfl, fun d2 hd2 => hL i (bad nb) _ d2 (s4.trans s5) hd2⟩
    · rintro σ H2 ⟨⟨v5, v6, v7, rfl⟩, k2, ⟨us, eR, hr⟩, ok⟩
      rw [List.length_map, List.take_length] at hr ok
      have s2 : Same H H2 := fun a o e => k2 _ _ (ne_of_none e hR) (s1 _ _ (sR _ _ e))
      have ed : dueOf l = if 6 < (lnsOf l).length then .full else .book ((lnsOf l).map ruleOf) := by
        unfold dueOf
        rw [fb_none ok]
      have ln := lns_num l
      walk_at "st"
      refine ⟨rfl, ?_⟩
      walk_at "st"
      refine ⟨R, _, rfl, .inr (.of eR), ?_⟩
      refine book_make_big T hr (by rw [List.length_map]; omega) (fun c b L H5 s5 fb fL bk => ?_) (fun c H5 s5 => ?_)
      · rw [List.length_map] at c
        exact hB _ (by rw [ed, if_neg (by omega)]) b L H5 (s2.trans s5) bk
      · rw [List.length_map] at c
        exact hF (by rw [ed, if_pos c]) H5 (s2.trans s5)
  by_cases c : l = []
  · subst c
    rw [decide_eq_true (show tx [] = Str.ofString "" from ee.symm)]
    walk_at "st"
    intro Ls hLs
    walk_at "st"
    exact loop Ls (upd (upd H R (.lst [])) Ls (.lst [])) (Same.new hLs) (fun z => by rw [z, upd_same] at hLs; cases hLs) (by rw [upd_same]; rfl)
  · rw [decide_eq_false (show ¬ tx l = Str.ofString "" from fun z => by rw [ee, tx_inj] at z; exact c z)]
    walk_at "st"
    rw [s10]
    refine split_go (by decide) (by rw [tx_len]; omega) fun Ls hLs => ?_
    walk_at "st"
    refine loop Ls _ (Same.new hLs) (fun z => by rw [z, upd_same] at hLs; cases hLs) ?_
    rw [upd_same, split_any (by decide), List.map_map]
    unfold lnsOf
    rw [if_neg c]
    rfl
/-! the answers -/
theorem lc_own {P : Program} {mg : Str → Option Value} (T : Txt P K mg) {b L : Addr} {rs : List (List Nat × List Nat)} {i : Nat} {g : TG} {te : TE} {vs : List Nat} {σ : L2.St} {H : Hp} {Q : VK} {E : L2.St → XK} (hv : σ[i]? = some (some (.ref b))) (hb : BookAt K H b L rs) (h : LcG K (.ref L) g te vs σ H Q) :
    tLc (iOwn K (He.ga K "Book") (sp_Book_iter K) E (tVar i)) g tYes te vs σ H Q := by
  refine rd_lc ?_
  obtain ⟨⟨dx, eb⟩, us, eL, hr⟩ := id hb
  refine ⟨.ref b, hv, b, dx, _, rfl, eb, book_iter_ok T hb fun it hit => ?_⟩
  refine ⟨L, it, rfl, hit, upd_same, ⟨_, .of (Same.new hit _ _ eL)⟩, ?_⟩
  rw [dropH_upd hit]
  obtain ⟨a, e, _, z⟩ := h
  cases e
  exact z
theorem row_init_v {P : Program} {mg : Str → Option Value} (T : Txt P K mg) {y dx : Addr} {v : V} {l : List Nat} {hs : List Int} {H : Hp} {Q : VK} {E : XK} (hv : TextV v l) (hl : l.length ≤ 10000) (hh : hs.length ≤ 10000) (hy : H y = some (.ins (He.ga K "Row") dx []))
    (er : hs = List.replicate l.length 0)
    (h : fo l = -1 → hs.length = l.length → badH hs = none → ∀ D H', Keep y H H' → H D = none → H' y = some (.ins (He.ga K "Row") dx [("pairs", .ref D)]) → Prs H' D (l.zip hs) → Q .non H')
    (hE1 : 0 ≤ fo l → ∀ H' d, Same H H' → H' d = none → E (.ref (He.ga K "BadSign")) (some d) (upd H' d (.xd [("at", .int (fo l))]))) :
    sp_Row_init K [.ref y, v, .non] H Q E := by
  have hE2 : fo l = -1 → hs.length ≠ l.length → ∀ H', Same H H' → E (.ref (He.ga K "Uneven")) none H' := fun _ c => absurd (by rw [er, List.length_replicate]) c
  have hE3 : fo l = -1 → hs.length = l.length → ∀ z, badH hs = some z → ∀ H' d, Same H H' → H' d = none → E (.ref (He.ga K "BadHeight")) (some d) (upd H' d (.xd [("height", .int z)])) := fun _ _ z c => by
    rw [badH_none hs (fun j x e => by
      rw [er] at e
      have := List.eq_of_mem_replicate (List.mem_of_getElem? e)
      omega)] at c
    cases c
  refine ⟨rfl, ?_⟩
  unfold t_Row_init
  walk_at "go"
  refine as_string_any hv hl ?_
  walk_at "go"
  refine check_ok (fun e1 H1 s1 => ?_) hE1
  walk_at "go"
  refine ⟨rfl, ?_⟩
  walk_at "all"
  intro p hp
  have sp := Same.new (o := .lst [.int 0]) hp
  have hy1 := s1 _ _ hy
  walk_at "go"
  refine lenA_str (z := tx l) (by rw [tx_len]; exact small2 (by omega)) ?_
  rw [tx_len]
  refine .inr (.inl ⟨p, _, _, rfl, rfl, upd_same, by omega, by omega, by rw [List.length_singleton, sizeLine_eq]; omega, fun b hb9 => ?_⟩)
  rw [Int.toNat_natCast, rep0, ← er]
  have s1' := s1
  have s1 := (s1'.trans sp).trans (Same.new (o := .lst (hs.map V.int)) hb9)
  have hb : upd (upd H1 p (.lst [.int 0])) b (.lst (hs.map V.int)) b = some (.lst (hs.map V.int)) := upd_same
  generalize upd (upd H1 p (.lst [.int 0])) b (.lst (hs.map V.int)) = H1 at s1 hb
  walk_at "go"
  have eL : (tx l).length = l.length := tx_len l
  refine lenA_lst (.of hb) ?_
  rw [List.length_map]
  walk_at "go"
  refine lenA_str (by rw [eL]; exact small2 (by omega)) ?_
  rw [eL]
  walk_at "go"
  refine rd_iteN (fun ne => ?_) (fun eq => ?_)
  · walk_at "go"
    exact hE2 e1 (by omega) _ s1
  · walk_at "go"
    have eq' : hs.length = l.length := by omega
    refine ⟨b, rfl, ⟨_, .of hb⟩, ?_⟩
    refine for_it (walk_list (xs := hs.map V.int)) (fun i σ H2 => Same H1 H2 ∧ (∃ v4, σ = [some (.ref y), some v, some (.ref b), some (.str (tx l)), v4]) ∧ ∀ (j : Nat) (x : Int), j < i → hs[j]? = some x → 0 ≤ x ∧ x ≤ 9) ⟨Same.refl _, ⟨none, rfl⟩, fun j x hj _ => absurd hj (Nat.not_lt_zero _)⟩ (fun i σ H2 _ q => .of (q.1 _ _ hb)) ?_ ?_
    · rintro i x σ H2 H3 hi ⟨s2, ⟨v4, rfl⟩, hp⟩ ⟨rfl, hx⟩
      obtain ⟨z, hz, rfl⟩ := getI hx
      walk_at "go"
      refine rd_ite (fun c1 => ?_) (fun c1 => ?_)
      · walk_at "go"
        refine rd_iteN (fun c2 => ?_) (fun c2 => ?_)
        · walk_at "go"
          refine ⟨_, rfl, fun d hd => ?_⟩
          exact hE3 e1 eq' z (badH_at hs i z hp hz (by omega)) _ d (s1.trans s2) hd
        · walk_at "go"
          refine ⟨s2, ⟨_, rfl⟩, fun j x hj e => ?_⟩
          by_cases hji : j = i
          · subst hji
            rw [hz] at e
            have := Option.some.inj e
            omega
          · exact hp j x (by omega) e
      · walk_at "go"
        refine ⟨_, rfl, ?_⟩
        walk_at "go"
        refine ⟨_, rfl, fun d hd => ?_⟩
        exact hE3 e1 eq' z (badH_at hs i z hp hz (by omega)) _ d (s1.trans s2) hd
    · rintro σ H2 ⟨s2, ⟨v4, rfl⟩, hp⟩
      have ok := badH_none hs fun j x e => hp j x (by rw [List.length_map]; exact (List.getElem?_eq_some_iff.mp e).1) e
      walk_at "go"
      have s3 := s1.trans s2
      refine ⟨tx l, b, _, rfl, .of (s2 _ _ hb), by rw [List.length_map]; simp [tx]; omega, fun D as H4 k4 hD has hDas hlen eD pairs => ?_⟩
      have hy4 := k4 _ _ (s3 _ _ hy)
      have yD : D ≠ y := fun q => by rw [q, s3 _ _ hy] at hD; cases hD
      walk_at "go"
      refine ⟨y, _, dx, [], rfl, hy4, T.c_Row, T.n_Row_pairs, by decide, ?_⟩
      have free : H D = none := by
        cases e : H D with
        | none => rfl
        | some o => rw [s3 _ _ e] at hD; cases hD
      refine h e1 eq' ok D _ (fun c o n e => ?_) free upd_same ⟨as, ?_, ?_, ?_⟩
      · rw [upd_ne n]
        exact k4 _ _ (s3 _ _ e)
      · rw [upd_ne yD]; exact eD
      · rw [hlen, List.length_map, List.length_zip]; omega
      · rintro j a ⟨c, z⟩ ea ep
        obtain ⟨q1, q2⟩ := List.getElem?_zip_eq_some.mp ep
        have nay : a ≠ y := fun q => by
          have := has a (List.mem_of_getElem? ea)
          rw [q, s3 _ _ hy] at this
          cases this
        rw [upd_ne nay]
        exact pairs j a c (.int z) ea (by rw [tx_get]; exact q1) (by rw [List.getElem?_map, q2]; rfl)

theorem lineLk (v : V) : List.lookup ("line" : Str) [(("line" : Str), v)] = some v := by simp [List.lookup]
theorem look_rules_w (v : V) : List.lookup ("written" : Str) [(("rules" : Str), v)] = none := by
  have e : (("written" : Str) == "rules") = false := by decide +kernel
  simp [List.lookup, e]
theorem look_rules_d (v : V) : List.lookup ("data" : Str) [(("rules" : Str), v)] = none := by
  have e : (("data" : Str) == "rules") = false := by decide +kernel
  simp [List.lookup, e]
theorem try_make_ok {P : Program} {mg : Str → Option Value} (T : Txt P K mg) {v : V} {l : List Nat} {H : Hp} {Q : VK} {E : XK} (hv : TextV v l) (hl : l.length ≤ 1000) (h : ∀ p H', Same H H' → ToldV K H' p (dueOf l) → Q (.ref p) H') : sp_law_try_make K [v] H Q E := by
  refine ⟨rfl, ?_⟩
  unfold t_law_try_make
  walk_at "sq"
  walk_at "st"
  refine rd_cms ?_
  walk_at "st"
  refine ⟨rfl, ?_⟩
  walk_at "st"
  refine book_read_any T hv hl (fun rs ed b L H1 s1 bk => ?_) (fun ed H1 s1 => ?_) (fun i ed H1 d s1 hd => ?_)
  · walk_at "st"
    intro p hp
    walk_at "st"
    refine h p _ (s1.trans (Same.new hp)) ?_
    rw [ed]
    exact ⟨b, L, upd_same, bk.same (Same.new hp)⟩
  · refine mix_miss T.e_BookFull_BadLine (mix_hit T.e_BookFull_BookFull fun a ha => ?_)
    walk_at "st"
    intro p hp
    walk_at "st"
    refine h p _ (s1.trans (Same.new hp)) ?_
    rw [ed]
    exact upd_same
  · refine mix_hit T.e_BadLine_BadLine fun a ha => ?_
    walk_at "st"
    refine ⟨rfl, rfl, d, _, _, rfl, upd_same, lineLk _, ?_⟩
    walk_at "st"
    intro p hp
    walk_at "st"
    refine h p _ (s1.trans ((Same.new hd).trans (Same.new hp))) ?_
    rw [ed]
    exact upd_same
theorem same_ok {P : Program} {mg : Str → Option Value} (T : Txt P K mg) {p q : Addr} {l : List Nat} {d : Due} {H : Hp} {Q : VK} {E : XK} (hd : ∀ rs, d = .book rs → OkRs rs ∧ writeL rs = l ∧ rs.length ≤ 6) (hp : ToldV K H p d) (hq : DueV H q d) (h : ∀ H', Same H H' → Q (.bl true) H') : sp_law_same K [.ref p, .ref q, .str (tx l)] H Q E := by
  refine ⟨rfl, ?_⟩
  unfold t_law_same
  walk_at "sq"
  walk_at "st"
  cases d with
  | line i =>
    have hp : H p = some (.tup [.str "line", .int ((i : Int) + 1)]) := hp
    have hq : H q = some (.tup [.str "line", .int ((i : Int) + 1)]) := hq
    refine ixA_tup (SqT.of hp) (v := .str "line") rfl ?_
    walk_at "st"
    refine ixA_tup (SqT.of hq) (v := .str "line") rfl ?_
    walk_at "st"
    walk_at "sq"
    walk_at "st"
    refine ixA_tup (SqT.of hq) (v := .str "line") rfl ?_
    walk_at "st"
    refine ixA_tup (SqT.of hp) (v := .int ((i : Int) + 1)) rfl ?_
    walk_at "st"
    refine is_int_ok ?_
    walk_at "st"
    refine ixA_tup (SqT.of hp) (v := .int ((i : Int) + 1)) rfl ?_
    walk_at "st"
    refine ixA_tup (SqT.of hq) (v := .int ((i : Int) + 1)) rfl ?_
    walk_at "st"
    rw [decide_eq_true (rfl : ((i : Int) + 1) = (i : Int) + 1)]
    exact h _ (Same.refl _)
  | full =>
    have hp : H p = some (.tup [.str "full", .int 0]) := hp
    have hq : H q = some (.tup [.str "full", .int 0]) := hq
    refine ixA_tup (SqT.of hp) (v := .str "full") rfl ?_
    walk_at "st"
    refine ixA_tup (SqT.of hq) (v := .str "full") rfl ?_
    walk_at "st"
    walk_at "sq"
    walk_at "st"
    refine ixA_tup (SqT.of hq) (v := .str "full") rfl ?_
    walk_at "st"
    refine ixA_tup (SqT.of hp) (v := .int 0) rfl ?_
    walk_at "st"
    refine is_int_ok ?_
    walk_at "st"
    refine ixA_tup (SqT.of hp) (v := .int 0) rfl ?_
    walk_at "st"
    refine ixA_tup (SqT.of hq) (v := .int 0) rfl ?_
    walk_at "st"
    rw [decide_eq_true (rfl : (0 : Int) = 0)]
    exact h _ (Same.refl _)
  | book rs =>
    obtain ⟨ok, el, hn⟩ := hd rs rfl
    obtain ⟨b, L, hp, bk⟩ := hp
    obtain ⟨M, hq, hM⟩ := hq
    refine ixA_tup (SqT.of hp) (v := .str "book") rfl ?_
    walk_at "st"
    refine ixA_tup (SqT.of hq) (v := .str "book") rfl ?_
    walk_at "st"
    walk_at "sq"
    walk_at "st"
    refine ixA_tup (SqT.of hq) (v := .str "book") rfl ?_
    walk_at "st"
    walk_at "sq"
    walk_at "st"
    refine ixA_tup (SqT.of hp) (v := .ref b) rfl ?_
    walk_at "st"
    walk_at "sq"
    refine rd_ifS (rd_test (rd_op ?_))
    obtain ⟨⟨dx, eb⟩, us, eL, hru⟩ := id bk
    refine lc_own (i := 3) T rfl bk ?_
    refine lcT (rs.map fun r => [V.str (tx r.1), V.str (tx r.2)]) (.of eL) (by rw [List.length_map, List.length_map, hru.1]) (by rw [List.length_map, hru.1]; omega) ?_ ?_
    · intro i x z H2 C s2 hx hz hC
      obtain ⟨u, r, rfl, eu, er, ru⟩ := rule_at hru hx
      rw [List.getElem?_map, er] at hz
      cases hz
      walk_at "st"
      refine ⟨rfl, ?_⟩
      walk_at "st"
      obtain ⟨du, hu⟩ := ru.same s2
      refine ⟨u, _, du, _, _, rfl, hu, T.c_Rule, T.n_Rule_left, ruleF_left _ _, ?_⟩
      walk_at "st"
      refine ⟨u, _, du, _, _, rfl, hu, T.c_Rule, T.n_Rule_right, ruleF_right _ _, ?_⟩
      walk_at "st"
      exact fun Tp hT => hC Tp _ (Same.new hT) upd_same
    intro D H1 as s1 _ eD la ha
    have tD : RlsL H1 D rs := ⟨as, eD, by rw [la, List.length_map], fun j a r e1 e2 => ha j a _ e1 (by rw [List.getElem?_map, e2]; rfl)⟩
    walk_at "st"
    refine ixA_tup (SqT.of (s1 _ _ hq)) (v := .ref M) rfl ?_
    walk_at "st"
    refine ne_rl tD (hM.same s1) ok ?_
    walk_at "st"
    refine ⟨b, dx, _, rfl, s1 _ _ eb, look_rules_w _, ?_⟩
    walk_at "st"
    refine written_form_ok T ok (by omega) (bk.same s1) fun H2 s2 => ?_
    walk_at "st"
    refine isi_go (.ty "str") (.base (.str _)) (kit_ty (r := true) (by decide +kernel)) ?_
    walk_at "st"
    refine ⟨b, dx, _, rfl, s2 _ _ (s1 _ _ eb), look_rules_w _, ?_⟩
    walk_at "st"
    refine written_form_ok T ok (by omega) ((bk.same s1).same s2) fun H3 s3 => ?_
    walk_at "st"
    rw [el, decide_eq_true (rfl : tx l = tx l)]
    exact h H3 (s1.trans (s2.trans s3))
theorem rd_bm0 {K : Frg} {Tn : String} {r : V → List V → Hp → VK → Prop} {to : TE} {σ : L2.St} {H : Hp} {Q : VK} (h : to σ H fun x H1 => tyV K Tn x H1 ∧ r x [] H1 Q) : tBM0 K Tn r to σ H Q := h
local macro_rules | `(tactic| walk_at "rd") => `(tactic| (with_reducible refine rd_bm0 ?_))
theorem data_ok {P : Program} {mg : Str → Option Value} (T : Txt P K mg) {b L : Addr} {rs : List (List Nat × List Nat)} {H : Hp} {Q : VK} {E : XK} (ok : OkRs rs) (hn : rs.length ≤ 6) (hb : BookAt K H b L rs) (h : ∀ H', Same H H' → Q (.byt (PySem.W.KSb.enc (tx (writeL rs)))) H') : sp_Book_data K [.ref b] H Q E := by
  refine ⟨rfl, ?_⟩
  unfold t_Book_data
  walk_at "st"
  obtain ⟨dx, eb⟩ := id hb.1
  refine ⟨b, dx, _, rfl, eb, look_rules_w _, ?_⟩
  walk_at "st"
  refine written_form_ok T ok (by omega) hb fun H1 s1 => ?_
  have wl := writeL_len ok
  refine ⟨rfl, _, rfl, rfl, fun c hc => asc_write ok c (by rw [tx_toList] at hc; exact hc), by rw [tx_len]; omega, ?_⟩
  walk_at "st"
  exact h H1 s1
theorem first_bad_ok {P : Program} {mg : Str → Option Value} (T : Txt P K mg) {v : V} {l : List Nat} {H : Hp} {Q : VK} {E : XK} (hv : TextV v l) (hl : l.length ≤ 1000) (hc : l = [] ∨ 0 ≤ fo l) (h : ∀ p H', Same H H' → H' p = some (.tup (if l = [] then [.str "row", .int 0] else [.str "sign", .int (fo l)])) → Q (.ref p) H') : sp_law_first_bad K [v] H Q E := by
  refine ⟨rfl, ?_⟩
  unfold t_law_first_bad
  walk_at "st"
  intro y dx hy hdx hne
  have s0 : Same H (upd (upd H dx (.own y)) y (.ins (He.ga K "Row") dx [])) := made_same hy hdx
  refine row_init_v T (hs := List.replicate l.length 0) hv (by omega) (by rw [List.length_replicate]; omega) upd_same rfl (fun f1 f2 f3 D H1 k1 hD q1 q2 => ?_) (fun f H1 d s1 hd => ?_)
  · have el : l = [] := by
      rcases hc with c | c
      · exact c
      · omega
    subst el
    refine ⟨rfl, ?_⟩
    walk_at "st"
    refine ⟨y, dx, _, rfl, q1, row_len_ok T (D := D) (ps := []) ⟨⟨dx, q1⟩, q2⟩ ?_⟩
    refine ⟨_, rfl, by decide, by decide, ?_⟩
    walk_at "st"
    intro p hp
    walk_at "st"
    exact h p _ ((keep_same hy hdx k1).trans (Same.new hp)) (by rw [upd_same, if_pos rfl]; rfl)
  · have ne : l ≠ [] := fun z => by
      rw [z] at f
      exact absurd f (by decide)
    refine mix_hit T.e_BadSign_BadSign fun a ha => ?_
    walk_at "st"
    refine ⟨rfl, rfl, d, _, _, rfl, upd_same, atl _, ?_⟩
    walk_at "st"
    intro p hp
    walk_at "st"
    exact h p _ (s0.trans (s1.trans ((Same.new hd).trans (Same.new hp)))) (by rw [upd_same, if_neg ne])
/-! the change of a line; the law -/
def strV (ls : List (List Nat)) : List V := ls.map fun x => V.str (tx x)
theorem rd_repc {to : TE} {y z : Str} {σ : L2.St} {H : Hp} {Q : VK} (h : to σ H fun v H1 => ∃ x, v = .str x ∧ x.length + (x.length + 1) * z.length ≤ 16777216 ∧ Q (.str (Txt.replace x y z)) H1) : CwR.tReplC to y z σ H Q := h
local macro_rules | `(tactic| walk_at "rd") => `(tactic| (with_reducible refine rd_repc ?_))
theorem s_empty : (Str.ofString "" : Str) = tx [] := by decide +kernel
def t_chk (K : Frg) (E : XK) : TS :=
  (tSeq (tAsg (tOp rAddA (tVar 6) (tLst (tCons (tOp rAddA (tOp rAddA (tSl (rSlA K) (tVar 1) tNoPart (tPart (tVar 3))) (tVar 4)) (tSl (rSlA K) (tVar 1) (tPart (tVar 3)) tNoPart)) (tCons (tOp rAddA (tVar 1) (tC (.str " "))) (tCons (tOp rAddA (tVar 1) (tC (.str "\n"))) tNil))))) (gName 6)) (tRet (tOp (rIx K) (tVar 6) (tCallSD (sp_law_pick K) [] (WE (W0 E)) (tCons (tVar 0) (tCons (tCB (rLenA K) (tCons (tVar 6) tNil)) tNil))))))
theorem kinds_ok {d A : Addr} {ln sg far : List Nat} {k oc : Nat} {xs : List (List Nat)} {H HA : Hp} {Q : VK} {E : XK} (hl : ln.length ≤ 20) (hk : k ≤ ln.length) (hx : ∀ x ∈ xs, x.length ≤ 60) (nx : xs.length ≤ 20) (eA : HA A = some (.lst (strV xs))) (k0 : Keep d H HA) (hd : DrL HA d)
    (h : ∀ (l : List Nat) H', l.length ≤ 60 → Keep d H H' → DrL H' d → Q (.str (tx l)) H') : t_chk K E { nx := fun _ H' => Q .non H', rt := Q } [some (.ref d), some (.str (tx ln)), some (.str (tx sg)), some (.int (k : Nat)), some (.str (tx [oc])), some (.str (tx far)), some (.ref A)] HA := by
  have big : ∀ {a b : List Nat}, a.length + b.length ≤ 1000 → (tx a).length + (tx b).length ≤ sizeLine := fun {a b} q => by
    rw [tx_len, tx_len]
    exact small2 (by omega)
  have t1 : (ln.take k).length ≤ 20 := by rw [List.length_take]; omega
  have t2 : (ln.drop k).length ≤ 20 := by rw [List.length_drop]; omega
  unfold t_chk
  walk_at "sq"
  walk_at "st"
  refine slA_str (by rw [tx_len]; exact small2 (by omega)) ?_
  rw [cut_to _ _ hk]
  walk_at "st"
  refine addA_str (big (by simp; omega)) ?_
  rw [tx_app]
  walk_at "st"
  refine slA_str (by rw [tx_len]; exact small2 (by omega)) ?_
  rw [cut_from _ _ hk]
  walk_at "st"
  refine addA_str (big (by simp; omega)) ?_
  rw [tx_app]
  walk_at "st"
  rw [s32]
  refine addA_str (big (by simp; omega)) ?_
  rw [tx_app]
  walk_at "st"
  rw [s10]
  refine addA_str (big (by simp; omega)) ?_
  rw [tx_app]
  walk_at "st"
  intro B hB
  have sB := Same.new (o := .lst (strV [ln.take k ++ [oc] ++ ln.drop k, ln ++ [32], ln ++ [10]])) hB
  refine addA_lst (ys := strV [ln.take k ++ [oc] ++ ln.drop k, ln ++ [32], ln ++ [10]]) (sB _ _ eA) upd_same (by unfold strV; rw [List.length_map, sizeLine_eq]; simp; omega) fun C hC => ?_
  have sC := sB.trans (Same.new (o := .lst (strV xs ++ strV [ln.take k ++ [oc] ++ ln.drop k, ln ++ [32], ln ++ [10]])) hC)
  have e2 : strV xs ++ strV [ln.take k ++ [oc] ++ ln.drop k, ln ++ [32], ln ++ [10]] = strV (xs ++ [ln.take k ++ [oc] ++ ln.drop k, ln ++ [32], ln ++ [10]]) := by unfold strV; rw [List.map_append]
  have ok : ∀ x ∈ xs ++ [ln.take k ++ [oc] ++ ln.drop k, ln ++ [32], ln ++ [10]], x.length ≤ 60 := fun x m => by
    rcases List.mem_append.mp m with z | z
    · exact hx x z
    · simp only [List.mem_cons, List.not_mem_nil, or_false] at z
      rcases z with rfl | rfl | rfl
      · simp; omega
      · simp; omega
      · simp; omega
  have nn : (xs ++ [ln.take k ++ [oc] ++ ln.drop k, ln ++ [32], ln ++ [10]]).length = xs.length + 3 := by simp
  have eC : upd (upd HA B (.lst (strV [ln.take k ++ [oc] ++ ln.drop k, ln ++ [32], ln ++ [10]]))) C (.lst (strV xs ++ strV [ln.take k ++ [oc] ++ ln.drop k, ln ++ [32], ln ++ [10]])) C = some (.lst (strV (xs ++ [ln.take k ++ [oc] ++ ln.drop k, ln ++ [32], ln ++ [10]]))) := by rw [← e2]; exact upd_same
  have kC := k0.trans (Keep.same (d := d) sC)
  have dC := hd.same sC
  generalize xs ++ [ln.take k ++ [oc] ++ ln.drop k, ln ++ [32], ln ++ [10]] = ys at eC ok nn
  have go : ∀ HC : Hp, Keep d H HC → DrL HC d → HC C = some (.lst (strV ys)) → tRet (tOp (rIx K) (tVar 6) (tCallSD (sp_law_pick K) [] (WE (W0 E)) (tCons (tVar 0) (tCons (tCB (rLenA K) (tCons (tVar 6) tNil)) tNil)))) { nx := fun _ H' => Q .non H', rt := Q } [some (.ref d), some (.str (tx ln)), some (.str (tx sg)), some (.int (k : Nat)), some (.str (tx [oc])), some (.str (tx far)), some (.ref C)] HC := by
    intro HC kc dc ec
    walk_at "st"
    refine lenA_lst (.of ec) ?_
    unfold strV
    rw [List.length_map]
    walk_at "st"
    refine pick_ok (by omega) dc fun q H5 q0 q1 k5 d5 => ?_
    obtain ⟨j, rfl⟩ : ∃ n : Nat, q = n := ⟨q.toNat, by omega⟩
    have hj : j < ys.length := by omega
    have nC : C ≠ d := fun z => by
      obtain ⟨ds, _, e⟩ := dc
      rw [← z, ec] at e
      have e := Option.some.inj e
      injection e with e
      have l1 := congrArg List.head? e
      cases ys with
      | nil => simp at nn
      | cons y r =>
        cases ds with
        | nil => simp [strV] at l1
        | cons w r2 => simp [strV] at l1
    refine ixA_lst (.of (k5 _ _ nC ec)) (v := .str (tx ys[j])) (atI_nat (by unfold strV; rw [List.getElem?_map, List.getElem?_eq_getElem hj]; rfl)) ?_
    exact h _ H5 (ok _ (List.getElem_mem hj)) (kc.trans k5) d5
  exact go _ kC dC eC
theorem change_ok {d : Addr} {ln sg : List Nat} {H : Hp} {Q : VK} {E : XK} (hl : ln.length ≤ 20) (sl : sg.length = 3) (hd : DrL H d) (h : ∀ (l : List Nat) H', l.length ≤ 60 → Keep d H H' → DrL H' d → Q (.str (tx l)) H') : sp_law_change K [.ref d, .str (tx ln), .str (tx sg)] H Q E := by
  have big : ∀ {a b : List Nat}, a.length + b.length ≤ 1000 → (tx a).length + (tx b).length ≤ sizeLine := fun {a b} q => by
    rw [tx_len, tx_len]
    exact small2 (by omega)
  refine ⟨rfl, ?_⟩
  unfold t_law_change
  walk_at "sq"
  walk_at "st"
  refine lenA_str (by rw [tx_len]; exact small2 (by omega)) ?_
  rw [tx_len]
  walk_at "st"
  refine pick_ok (by omega) hd fun at1 H1 a0 a1 k1 d1 => ?_
  obtain ⟨k, rfl⟩ : ∃ n : Nat, at1 = n := ⟨at1.toNat, by omega⟩
  have hk : k ≤ ln.length := by omega
  walk_at "st"
  walk_at "sq"
  walk_at "st"
  refine odd_ok d1 fun oc H2 k2 d2 => ?_
  walk_at "st"
  walk_at "sq"
  walk_at "st"
  refine word_ok (by rw [tx_len]; omega) (by rw [tx_len]; omega) (by decide) (by decide) (by decide) d2 fun far H3 _ f1 f2 k3 d3 => ?_
  have fl : far.length ≤ 7 := by omega
  walk_at "st"
  walk_at "sq"
  walk_at "st"
  refine ⟨tx ln, rfl, ?_, ?_⟩
  · rw [tx_len]
    have e0 : (Str.ofString "" : Str).length = 0 := by decide
    rw [e0]
    omega
  have rl := TK.replace_len (tx ln) (Str.ofString ":") (Str.ofString "")
  have rz : (Txt.replace (tx ln) (Str.ofString ":") (Str.ofString "")).length ≤ 20 := by
    have e0 : (Str.ofString "" : Str).length = 0 := by decide
    rw [e0, tx_len] at rl
    omega
  rw [← tx_tl (Txt.replace (tx ln) (Str.ofString ":") (Str.ofString ""))] at rz ⊢
  generalize TL.tl (Txt.replace (tx ln) (Str.ofString ":") (Str.ofString "")) = rp at rz ⊢
  rw [tx_len] at rz
  rw [s58, s_empty]
  walk_at "st"
  refine slA_str (by rw [tx_len]; exact small2 (by omega)) ?_
  rw [cut_to _ _ hk]
  have t1 : (ln.take k).length ≤ 20 := by rw [List.length_take]; omega
  have t2 : (ln.drop k).length ≤ 20 := by rw [List.length_drop]; omega
  walk_at "st"
  refine addA_str (big (by simp; omega)) ?_
  rw [tx_app]
  walk_at "st"
  refine slA_str (by rw [tx_len]; exact small2 (by omega)) ?_
  rw [cut_from _ _ hk]
  walk_at "st"
  refine addA_str (big (by simp; omega)) ?_
  rw [tx_app]
  walk_at "st"
  refine addA_str (big (by simp; omega)) ?_
  rw [tx_app]
  walk_at "st"
  refine addA_str (big (by omega)) ?_
  rw [tx_app]
  walk_at "st"
  refine addA_str (big (by simp; omega)) ?_
  rw [tx_app]
  walk_at "st"
  intro A hA
  have sA := Same.new (o := .lst (strV [[], rp, ln.take k ++ [58] ++ ln.drop k, [58], far ++ [58], ln ++ far, [58] ++ far])) hA
  walk_at "st"
  refine kinds_ok (xs := [[], rp, ln.take k ++ [58] ++ ln.drop k, [58], far ++ [58], ln ++ far, [58] ++ far]) hl hk (fun x m => ?_) (by simp) upd_same (k1.trans (k2.trans (k3.trans (Keep.same sA)))) (d3.same sA) h
  simp only [List.mem_cons, List.not_mem_nil, or_false] at m
  rcases m with rfl | rfl | rfl | rfl | rfl | rfl | rfl
  · simp
  · omega
  · simp; omega
  · simp
  · simp; omega
  · simp; omega
  · simp; omega
theorem sum_map_le : ∀ (ls : List (List Nat)), (∀ x ∈ ls, x.length ≤ 60) → (ls.map List.length).sum ≤ 60 * ls.length
  | [], _ => by simp
  | x :: r, h => by
    have h1 := h x List.mem_cons_self
    have h2 := sum_map_le r fun y hy => h y (List.mem_cons_of_mem _ hy)
    rw [List.map_cons, List.sum_cons, List.length_cons]
    omega
theorem joinany_ok {L : Addr} {ls : List (List Nat)} {H : Hp} {Q : VK} (hx : ∀ x ∈ ls, x.length ≤ 60) (hn : ls.length ≤ 10) (eL : H L = some (.lst (strV ls))) (h : Q (.str (tx (TL.joinL [10] ls))) H) : rJoinA K (.str (Str.ofString "\n")) [.ref L] H Q := by
  have e1 : strV ls = (ls.map tx).map V.str := by unfold strV; rw [List.map_map]; rfl
  refine ⟨_, L, ls.map tx, rfl, rfl, .inl (SqL.of (by rw [eL, e1])), ?_, ?_⟩
  · have h1 := sum_map_le ls hx
    have e2 : (ls.map tx).map (·.length) = ls.map List.length := by
      rw [List.map_map]
      apply List.map_congr_left
      intro l _
      exact tx_len l
    rw [e2, List.length_map]
    have e3 : (Str.ofString "\n").length = 1 := by decide
    rw [e3]
    omega
  · rw [s10, join_sep]
    exact h
theorem join_len {ls : List (List Nat)} (hx : ∀ x ∈ ls, x.length ≤ 60) (hn : ls.length ≤ 10) : (TL.joinL [10] ls).length ≤ 1000 := by
  have h1 := joinL_len 10 ls
  have h2 := sum_map_le ls hx
  omega
theorem strData {H : Hp} : ∀ ls : List (List Nat), DpAll K H (strV ls) (ls.map fun x => PyData.str (tx x))
  | [] => .nil
  | x :: r => .cons (.str _) (strData r)
theorem shaped_strs : ∀ {ls : List (List Nat)}, (∀ x ∈ ls, ∀ c ∈ x, c < 128) → PyData.canLayAll0 (ls.map fun x => PyData.str (tx x)) = true
  | [], _ => by simp [PyData.canLayAll0]
  | x :: r, h => by
    have h1 : PyData.strOk (tx x) = true := by
      simp [PyData.strOk, tx]
      intro c hc
      have := h x List.mem_cons_self c hc
      omega
    have h2 := shaped_strs (ls := r) fun y hy => h y (List.mem_cons_of_mem _ hy)
    simp [PyData.canLayAll0, PyData.canLay0, h1, h2]
theorem depth_strs : ∀ ls : List (List Nat), PyData.depthAll (ls.map fun x => PyData.str (tx x)) ≤ 1
  | [] => by simp [PyData.depthAll]
  | x :: r => by
    have := depth_strs r
    simp [PyData.depthAll, PyData.depth]
    omega
theorem ne_nil_ok {L M : Addr} {ls : List (List Nat)} {H : Hp} {Q : VK} (hx : ∀ x ∈ ls, ∀ c ∈ x, c < 128) (eL : H L = some (.lst (strV ls))) (eM : H M = some (.lst [])) (h : Q (.bl (!decide (ls = []))) H) : rNeA K (.ref L) (.ref M) H Q := by
  have sh : SeqAt.shaped (.list (ls.map fun x => PyData.str (tx x))) = true := by
    have h1 := shaped_strs hx
    have h2 := depth_strs ls
    simp [SeqAt.shaped, PyData.canLay0, h1, PyData.depth]
    omega
  have sh0 : SeqAt.shaped (.list ([] : List PyData)) = true := by simp [SeqAt.shaped, PyData.canLay0, PyData.canLayAll0, PyData.depth, PyData.depthAll]
  refine neA_data (.lst (SqL.of eL) (strData ls)) (nilData eM) sh sh0 (b := decide (ls = [])) ?_ h
  cases ls with
  | nil => simp [PyData.eqv, PyData.eqvAll]
  | cons x r => simp [PyData.eqv, PyData.eqvAll]
theorem eqv_ints_self : ∀ ds : List Int, PyData.eqvAll (ds.map PyData.int) (ds.map PyData.int) = true
  | [] => by simp [PyData.eqvAll]
  | x :: r => by
    have := eqv_ints_self r
    simp [PyData.eqvAll, PyData.eqv, this]
theorem ne_ints_ok {p q : Addr} {ds : List Int} {H : Hp} {Q : VK} (hp : H p = some (.lst (ds.map V.int))) (hq : H q = some (.lst (ds.map V.int))) (h : Q (.bl false) H) : rNeA K (.ref p) (.ref q) H Q :=
  neA_data (.lst (SqL.of hp) (intsData ds)) (.lst (SqL.of hq) (intsData ds)) (shaped_ints ds) (shaped_ints ds) (b := true) (by simp only [PyData.eqv]; exact eqv_ints_self ds) h
theorem ne_tupSame {p q : Addr} {s : Str} {i : Int} {H : Hp} {Q : VK} (hs : PyData.strOk s = true) (hp : H p = some (.tup [.str s, .int i])) (hq : H q = some (.tup [.str s, .int i])) (h : Q (.bl false) H) : rNeA K (.ref p) (.ref q) H Q := by
  refine neA_data (pairData hp) (pairData hq) (shaped_pair _ hs) (shaped_pair _ hs) ((eqv_pair _ _ _ _).trans (decide_eq_true ⟨rfl, rfl⟩)) h
theorem write_head {rs : List (List Nat × List Nat)} (ok : OkRs rs) (h : rs ≠ []) : ∃ a m, writeL rs = a ++ 58 :: m ∧ ∀ c ∈ a, c ∈ letters := by
  cases rs with
  | nil => exact absurd rfl h
  | cons r t =>
    have okr := ok r List.mem_cons_self
    cases t with
    | nil => exact ⟨r.1, r.2, rfl, okr.2.1⟩
    | cons q t => exact ⟨r.1, r.2 ++ ([10] ++ TL.joinL [10] (lineL q :: t.map lineL)), by
        show lineL r ++ ([10] ++ TL.joinL [10] (lineL q :: t.map lineL)) = _
        unfold lineL
        simp, okr.2.1⟩
theorem bi_enc {l : List Nat} (h : ∀ c ∈ l, c < 128) : bi (PySem.W.KSb.enc (tx l)) = l.map fun c => ((c : Nat) : Int) := by
  have e := PySem.W.KSb.enc_ints (x := tx l) (fun c hc => h c (by rw [tx_toList] at hc; exact hc))
  refine e.trans ?_
  unfold PySem.W.KSb.codes
  rw [tx_toList]
def t_lf (K : Frg) (E : XK) : TS :=
  (tRet (tAndV (tCallSD (sp_law_same K) [] (WE (W0 E)) (tCons (tCallSD (sp_law_try_make K) [] (WE (W0 E)) (tCons (tC (.str "")) tNil)) (tCons (tTup (tCons (tC (.str "book")) (tCons (tLst tNil) tNil))) (tCons (tC (.str "")) tNil)))) (tCallSD (sp_law_same K) [] (WE (W0 E)) (tCons (tCallSD (sp_law_try_make K) [] (WE (W0 E)) (tCons (tVar 5) tNil)) (tCons (tVar 6) (tCons (tVar 5) tNil))))))
theorem fin_ok {P : Program} {mg : Str → Option Value} (T : Txt P K mg) {p : Addr} {l : List Nat} {v0 v1 v2 v3 v4 v7 v8 v9 v10 v11 : Option V} {H : Hp} {Q : VK} {E : XK} (hl : l.length ≤ 1000) (hp : DueV H p (dueOf l)) (h : ∀ H', Q (.bl true) H') :
    t_lf K E { nx := fun _ H' => Q .non H', rt := Q } [v0, v1, v2, v3, v4, some (.str (tx l)), some (.ref p), v7, v8, v9, v10, v11] H := by
  unfold t_lf
  walk_at "st"
  rw [s_empty]
  refine try_make_ok T (l := []) (.inl rfl) (by decide) fun t H1 s1 ht => ?_
  walk_at "st"
  intro M hM
  walk_at "st"
  intro q hq
  walk_at "st"
  have sM := Same.new (o := .lst []) hM
  have sq := Same.new (o := .tup [.str "book", .ref M]) hq
  have hd : DueV (upd (upd H1 M (.lst [])) q (.tup [.str "book", .ref M])) q (.book []) := ⟨M, upd_same, [], sq _ _ upd_same, rfl, fun j a r e => by simp at e⟩
  have ht2 : ToldV K (upd (upd H1 M (.lst [])) q (.tup [.str "book", .ref M])) t (.book []) := (show ToldV K H1 t (.book []) from ht).same (sM.trans sq)
  have hp2 := hp.same (s1.trans (sM.trans sq))
  generalize upd (upd H1 M (.lst [])) q (.tup [.str "book", .ref M]) = H2 at hd ht2 hp2 ⊢
  refine same_ok T (l := []) (d := .book []) (fun rs e => by cases e; exact ⟨(fun r hr => nomatch hr), rfl, by simp⟩) ht2 hd fun H3 s3 => ?_
  walk_at "st"
  refine try_make_ok T (l := l) (.inl rfl) hl fun t2 H4 s4 ht4 => ?_
  walk_at "st"
  refine same_ok T (l := l) (d := dueOf l) (fun rs e => due_book e) ht4 (hp2.same (s3.trans s4)) fun H5 _ => ?_
  exact h H5
def t_lt (K : Frg) (E : XK) : TS :=
  (tSeq (tAsg (tM1 (rJoinA K) (tC (.str "\n")) (tVar 3)) (gName 5)) (tSeq (tAsg (tCallSD (sp_law_due_of K) [] (WE (W0 E)) (tCons (tVar 5) tNil)) (gName 6)) (tSeq (tAsg (tCallSD (sp_law_try_make K) [] (WE (W0 E)) (tCons (tVar 5) tNil)) (gName 7)) (tSeq (tIfS (tNot (tB (tCallSD (sp_law_same K) [] (WE (W0 E)) (tCons (tVar 7) (tCons (tVar 6) (tCons (tVar 5) tNil)))))) (tRet (tC (.bl false))) tNext) (tSeq (tIfS (tTest (tOp (rEqA K) (tOp (rIx K) (tVar 6) (tC (.int 0))) (tC (.str "book")))) (tSeq (tAsg (tMethZ (He.ga K "Book") "data" (sp_Book_data K) [] (WE (W0 E)) (tOp (rIx K) (tVar 7) (tC (.int 1))) tNil) (gName 10)) (tSeq (tIfS (tOr (tB (tCB (rIsiA K) (tCons (tVar 10) (tCons (tC (.ty "str")) tNil)))) (tTest (tOp (rNeA K) (tThenZ (tVar 10) kLstB) (tLc (iStr (tVar 5)) (gName 11) tYes (tCB (rOrd) (tCons (tVar 11) tNil)) [11])))) (tRet (tC (.bl false))) tNext) (tSeq (tIfS (tNot (tB (tCallSD (sp_law_same K) [] (WE (W0 E)) (tCons (tCallSD (sp_law_try_make K) [] (WE (W0 E)) (tCons (tVar 10) tNil)) (tCons (tVar 6) (tCons (tVar 5) tNil)))))) (tRet (tC (.bl false))) tNext) (tIfS (tTest (tOp (rNeA K) (tCallSD (sp_law_first_bad K) [] (WE (W0 E)) (tCons (tVar 10) tNil)) (tIf (tTest (tOp (rEqA K) (tVar 5) (tC (.str "")))) (tTup (tCons (tC (.str "row")) (tCons (tC (.int 0)) tNil))) (tTup (tCons (tC (.str "sign")) (tCons (tBM K "str" rFind (tVar 5) (tCons (tC (.str ":")) tNil)) tNil)))))) (tRet (tC (.bl false))) tNext)))) tNext) (tRet (tAndV (tCallSD (sp_law_same K) [] (WE (W0 E)) (tCons (tCallSD (sp_law_try_make K) [] (WE (W0 E)) (tCons (tC (.str "")) tNil)) (tCons (tTup (tCons (tC (.str "book")) (tCons (tLst tNil) tNil))) (tCons (tC (.str "")) tNil)))) (tCallSD (sp_law_same K) [] (WE (W0 E)) (tCons (tCallSD (sp_law_try_make K) [] (WE (W0 E)) (tCons (tVar 5) tNil)) (tCons (tVar 6) (tCons (tVar 5) tNil)))))))))))
theorem tail_ok {P : Program} {mg : Str → Option Value} (T : Txt P K mg) {R : Addr} {ls : List (List Nat)} {v0 v1 v2 v4 v8 v9 : Option V} {H : Hp} {Q : VK} {E : XK} (hx : ∀ x ∈ ls, x.length ≤ 60) (hn : ls.length ≤ 10) (eR : H R = some (.lst (strV ls))) (h : ∀ H', Q (.bl true) H') :
    t_lt K E { nx := fun _ H' => Q .non H', rt := Q } [v0, v1, v2, some (.ref R), v4, none, none, none, v8, v9, none, none] H := by
  have hl := join_len hx hn
  unfold t_lt
  walk_at "sq"
  walk_at "st"
  refine joinany_ok hx hn eR ?_
  generalize TL.joinL [10] ls = l at hl ⊢
  walk_at "st"
  walk_at "sq"
  walk_at "st"
  refine due_of_ok hl fun p H1 s1 hp => ?_
  walk_at "st"
  walk_at "sq"
  walk_at "st"
  refine try_make_ok T (l := l) (.inl rfl) hl fun t H2 s2 ht => ?_
  walk_at "st"
  walk_at "sq"
  walk_at "st"
  refine same_ok T (l := l) (d := dueOf l) (fun rs e => due_book e) ht (hp.same s2) fun H3 s3 => ?_
  have hp3 := (hp.same s2).same s3
  have ht3 := ht.same s3
  walk_at "st"
  walk_at "sq"
  walk_at "st"
  have other : ∀ (z : Str) (i : Int), z ≠ "book" → H3 p = some (.tup [.str z, .int i]) → ∀ Q2 : VK, Q2 (.str z) H3 → rIx K (.ref p) (.int 0) H3 Q2 := fun z i _ e Q2 q => ixA_tup (SqT.of e) (v := .str z) rfl q
  cases ed : dueOf l with
  | line i =>
    have e3 : H3 p = some (.tup [.str "line", .int ((i : Int) + 1)]) := by rw [ed] at hp3; exact hp3
    refine ixA_tup (SqT.of e3) (v := .str "line") rfl ?_
    walk_at "st"
    exact fin_ok T hl hp3 h
  | full =>
    have e3 : H3 p = some (.tup [.str "full", .int 0]) := by rw [ed] at hp3; exact hp3
    refine ixA_tup (SqT.of e3) (v := .str "full") rfl ?_
    walk_at "st"
    exact fin_ok T hl hp3 h
  | book rs =>
    obtain ⟨ok, el, hrs⟩ := due_book ed
    have hb3 : DueV H3 p (.book rs) := by rw [← ed]; exact hp3
    have hk3 : ToldV K H3 t (.book rs) := by rw [← ed]; exact ht3
    obtain ⟨D, e3, _⟩ := id hb3
    obtain ⟨b, L, et3, bk⟩ := hk3
    refine ixA_tup (SqT.of e3) (v := .str "book") rfl ?_
    walk_at "st"
    walk_at "sq"
    walk_at "st"
    refine ixA_tup (SqT.of et3) (v := .ref b) rfl ?_
    walk_at "st"
    obtain ⟨dx, eb⟩ := id bk.1
    refine ⟨b, dx, _, rfl, eb, look_rules_d _, ?_⟩
    walk_at "st"
    refine data_ok T ok hrs bk fun H4 s4 => ?_
    rw [el]
    have low : ∀ c ∈ l, c < 128 := fun c hc => asc_write ok c (by rw [el]; exact hc)
    have tv : TextV (.byt (PySem.W.KSb.enc (tx l))) l := .inr ⟨rfl, low⟩
    walk_at "st"
    walk_at "sq"
    walk_at "st"
    refine isi_go (.ty "str") (.byt _) (kit_ty (r := false) (by decide +kernel)) ?_
    walk_at "st"
    refine ⟨_, rfl, by rw [PySem.W.KSb.enc_size, tx_len]; exact small2 (by omega), fun q hq => ?_⟩
    rw [bi_enc low]
    have sq := Same.new (o := .lst ((l.map fun c => ((c : Nat) : Int)).map V.int)) hq
    have eq4 : upd H4 q (.lst ((l.map fun c => ((c : Nat) : Int)).map V.int)) q = some (.lst ((l.map fun c => ((c : Nat) : Int)).map V.int)) := upd_same
    have s5 := s4.trans sq
    generalize upd H4 q (.lst ((l.map fun c => ((c : Nat) : Int)).map V.int)) = H5 at eq4 s5 ⊢
    walk_at "st"
    refine ⟨_, rfl, ?_⟩
    intro M hM
    refine lc_it (walk_str (z := tx l)) (fun j H6 => Same H5 H6 ∧ H6 M = some (.lst ((l.take j).map fun c => V.int ((c : Nat) : Int)))) ⟨Same.new hM, by rw [upd_same]; rfl⟩ (fun _ _ _ _ => trivial) ?_ ?_
    · rintro j x H6 H7 hj ⟨s6, eM⟩ ⟨rfl, c, hc, rfl⟩
      rw [tx_get] at hc
      have hlt := (List.getElem?_eq_some_iff.mp hc).1
      walk_at "st"
      refine ⟨rfl, ?_⟩
      walk_at "st"
      refine ⟨_, rfl, rfl, ?_⟩
      refine ⟨_, eM, by rw [List.length_map, List.length_take, sizeLine_eq]; omega, fun a o e => ?_, ?_⟩
      · rw [upd_ne (ne_of_none e hM)]
        exact s6 _ _ e
      · rw [upd_same, List.take_succ_eq_append_getElem hlt, (List.getElem?_eq_some_iff.mp hc).2, List.map_append]
        rfl
    · rintro H6 ⟨s6, eM⟩
      have ez : (tx l).cps.size = l.length := tx_len l
      rw [ez, List.take_length] at eM
      have eM2 : H6 M = some (.lst ((l.map fun c => ((c : Nat) : Int)).map V.int)) := by rw [eM, List.map_map]; rfl
      refine ne_ints_ok (s6 _ _ eq4) eM2 ?_
      walk_at "st"
      walk_at "sq"
      walk_at "st"
      have s36 := s5.trans s6
      refine try_make_ok T (l := l) tv hl fun t2 H7 s7 ht7 => ?_
      walk_at "st"
      have hp7 := (hp3.same s36).same s7
      refine same_ok T (l := l) (d := dueOf l) (fun rs e => due_book e) ht7 hp7 fun H8 s8 => ?_
      have hp8 := hp7.same s8
      walk_at "st"
      have hc : l = [] ∨ 0 ≤ fo l := by
        by_cases c : rs = []
        · exact .inl (by rw [← el, c]; rfl)
        · obtain ⟨a, m, e, al⟩ := write_head ok c
          rw [el] at e
          exact .inr (by rw [e, fo_colon al]; omega)
      refine first_bad_ok T tv hl hc fun f H9 s9 ef => ?_
      walk_at "st"
      have hp9 := hp8.same s9
      by_cases c : l = []
      · rw [if_pos c] at ef
        rw [decide_eq_true (show tx l = Str.ofString "" by rw [c, s_empty])]
        walk_at "st"
        intro g hg
        walk_at "st"
        refine ne_tupSame (s := "row") (i := 0) (by decide +kernel) (Same.new hg _ _ ef) upd_same ?_
        walk_at "st"
        exact fin_ok T hl (hp9.same (Same.new hg)) h
      · rw [if_neg c] at ef
        rw [decide_eq_false (show ¬ tx l = Str.ofString "" from fun z => by rw [s_empty, tx_inj] at z; exact c z)]
        walk_at "st"
        refine ⟨rfl, ?_⟩
        walk_at "st"
        refine ⟨_, _, rfl, rfl, ?_⟩
        have fe : Txt.find (tx l) (Str.ofString ":") = fo l := by
          have nr : rs ≠ [] := fun z => c (by rw [← el, z]; rfl)
          obtain ⟨a, m, e, al⟩ := write_head ok nr
          rw [el] at e
          rw [s58, e, fo_colon al, find_one fun q => by
            have := letters_big 58 (al 58 q)
            omega]
        rw [fe]
        walk_at "st"
        intro g hg
        walk_at "st"
        refine ne_tupSame (s := "sign") (i := fo l) (by decide +kernel) (Same.new hg _ _ ef) upd_same ?_
        walk_at "st"
        exact fin_ok T hl (hp9.same (Same.new hg)) h
theorem law_ok {P : Program} {mg : Str → Option Value} (T : Txt P K mg) {a : Addr} {ns : List Int} {H : Hp} {Q : VK} {E : XK} (hS : SqL K H a (ns.map V.int)) (hn : ns.length ≤ 63) (h : ∀ H', Q (.bl true) H') : sp_law K [.ref a] H Q E := by
  refine ⟨rfl, ?_⟩
  unfold t_law
  walk_at "sq"
  walk_at "st"
  refine pool_ok hS hn fun d H1 _ _ d1 => ?_
  walk_at "st"
  walk_at "sq"
  walk_at "st"
  refine alphabet_ok (by decide) (by decide) d1 fun sg H3 sl sok _ _ d3 => ?_
  have sl : sg.length = 3 := sl
  walk_at "st"
  walk_at "sq"
  walk_at "st"
  intro R hR
  have nR : R ≠ d := d3.ne hR
  have d4 := d3.same (Same.new (o := .lst []) hR)
  have eR4 : upd H3 R (.lst []) R = some (.lst []) := upd_same
  generalize upd H3 R (.lst []) = H4 at d4 eR4 ⊢
  walk_at "st"
  walk_at "sq"
  walk_at "st"
  refine pick_ok (by decide) d4 fun many H5 m0 m1 k5 d5 => ?_
  have eR5 := k5 _ _ nR eR4
  walk_at "st"
  refine ⟨many, rfl, by omega, by omega, ?_⟩
  have keepD : ∀ {H' : Hp} {xs : List V}, DrL H' d → DrL (upd H' R (.lst xs)) d := fun {H' xs} q => by
    obtain ⟨ds, q1, q2⟩ := q
    exact ⟨ds, q1, by rw [upd_ne (Ne.symm nR)]; exact q2⟩
  refine forR (n := many) (fun i σ H6 => (∃ v4 v8, σ = [some (.ref a), some (.ref d), some (.str (tx sg)), some (.ref R), v4, none, none, none, v8, none, none, none]) ∧ DrL H6 d ∧ ∃ ls : List (List Nat), H6 R = some (.lst (strV ls)) ∧ ls.length = i ∧ ∀ x ∈ ls, x.length ≤ 9 ∧ ∀ c ∈ x, c < 128)
    ⟨⟨none, none, rfl⟩, d5, [], eR5, rfl, fun x hx => nomatch hx⟩ ?_ ?_
  · rintro i σ H6 hi ⟨⟨v4, v8, rfl⟩, d6, ls, eR, ll, ok⟩
    walk_at "st"
    walk_at "sq"
    walk_at "st"
    refine word_ok (by rw [tx_len]; omega) (by rw [tx_len]; omega) (by decide) (by decide) (by decide) d6 fun x H7 x0 x1 x2 k7 d7 => ?_
    have eR7 := k7 _ _ nR eR
    walk_at "st"
    refine ⟨tyL eR7, ?_⟩
    walk_at "st"
    rw [s58]
    refine addA_str (by rw [tx_len, tx_len]; exact small2 (by simp; omega)) ?_
    rw [tx_app]
    walk_at "st"
    refine word_ok (by rw [tx_len]; omega) (by rw [tx_len]; omega) (by decide) (by decide) (by decide) d7 fun y H8 y0 y1 y2 k8 d8 => ?_
    have eR8 := k8 _ _ nR eR7
    walk_at "st"
    refine addA_str (by rw [tx_len, tx_len]; exact small2 (by simp; omega)) ?_
    rw [tx_app]
    walk_at "st"
    refine append_go eR8 (by unfold strV; rw [List.length_map, ll]; omega) ?_
    refine ⟨⟨_, _, rfl⟩, keepD d8, ls ++ [x ++ [58] ++ y], by rw [upd_same]; unfold strV; rw [List.map_append]; rfl, by rw [List.length_append, ll]; rfl, fun z hz => ?_⟩
    rcases List.mem_append.mp hz with q | q
    · exact ok z q
    · rw [List.mem_singleton.mp q]
      refine ⟨by simp; omega, fun c hc => ?_⟩
      have lt : ∀ c ∈ (tx sg).cps.toList, c < 128 := fun c hc => by
        rw [tx_toList] at hc
        have := letters_big c (sok c hc)
        omega
      rcases List.mem_append.mp hc with q | q
      · rcases List.mem_append.mp q with q | q
        · exact lt c (x0 c q)
        · rw [List.mem_singleton.mp q]; decide
      · exact lt c (y0 c q)
  · rintro σ H6 ⟨⟨v4, v8, rfl⟩, d6, ls, eR, ll, ok⟩
    have hx : ∀ x ∈ ls, x.length ≤ 60 := fun x q => by have := (ok x q).1; omega
    have hn10 : ls.length ≤ 10 := by omega
    walk_at "st"
    walk_at "sq"
    walk_at "st"
    refine pick_ok (by decide) d6 fun q7 H7 _ _ k7 d7 => ?_
    have eR7 := k7 _ _ nR eR
    walk_at "st"
    by_cases c : q7 = 1
    case neg =>
      rw [decide_eq_false c]
      walk_at "st"
      exact tail_ok T hx hn10 eR7 h
    rw [decide_eq_true c]
    walk_at "st"
    intro M hM
    have sM := Same.new (o := .lst []) hM
    refine ne_nil_ok (fun x q => (ok x q).2) (sM _ _ eR7) upd_same ?_
    walk_at "st"
    by_cases cn : ls = []
    case pos =>
      rw [decide_eq_true cn]
      walk_at "st"
      exact tail_ok T hx hn10 (sM _ _ eR7) h
    rw [decide_eq_false cn]
    have l1 : 0 < ls.length := by
      cases ls with
      | nil => exact absurd rfl cn
      | cons x r => exact Nat.succ_pos _
    have eR8 := sM _ _ eR7
    have d8 := d7.same sM
    generalize upd H7 M (.lst []) = H8 at eR8 d8 ⊢
    walk_at "st"
    walk_at "sq"
    walk_at "st"
    refine lenA_lst (.of eR8) ?_
    have el : (strV ls).length = ls.length := by unfold strV; rw [List.length_map]
    rw [el]
    walk_at "st"
    refine pick_ok (by omega) d8 fun q9 H9 q90 q91 k9 d9 => ?_
    obtain ⟨j, rfl⟩ : ∃ n : Nat, q9 = n := ⟨q9.toNat, by omega⟩
    have hj : j < ls.length := by omega
    have eR9 := k9 _ _ nR eR8
    walk_at "st"
    refine ixA_lst (.of eR9) (v := .str (tx ls[j])) (atI_nat (by unfold strV; rw [List.getElem?_map, List.getElem?_eq_getElem hj]; rfl)) ?_
    walk_at "st"
    refine change_ok (by have := (ok _ (List.getElem_mem hj)).1; omega) sl d9 fun l' H10 hl' k10 d10 => ?_
    have eR10 := k10 _ _ nR eR9
    walk_at "st"
    refine ⟨R, _, _, j, rfl, rfl, eR10, by rw [el]; exact ixN_nat hj, ?_⟩
    walk_at "st"
    have es : (strV ls).set j (.str (tx l')) = strV (ls.set j l') := by unfold strV; rw [List.map_set]
    refine tail_ok T (ls := ls.set j l') (fun x hx2 => ?_) (by rw [List.length_set]; exact hn10) (by rw [upd_same, es]) h
    rcases List.mem_or_eq_of_mem_set hx2 with q | q
    · exact hx x q
    · rw [q]; exact hl'
end Lw
namespace Lw
open PySem PySem.Spec PyProof.Rows L2
theorem law_binds {K : Frg} {f : Addr} {fd : FuncData} (F : FunD K "law" "law" (defArgs s_law) (defBody s_law) (defScope s_law) [] [] f fd) (s : Shared) (v : Value) : BindsTo s fd ⟨[v], []⟩ [("_law_script", v)] :=
  FunD.bindsA (ps := ["_law_script"]) F (fun _ _ _ _ _ _ us hl => match us, hl with | [_], _ => rfl) s [v] rfl
theorem given (w : World) (mg : PySem.Str → Option Value) (f : Addr) (h : Heap) (Y : ∃ K : Frg, K.In h ∧ Rz.SaysR fa fn K) (G : h.Ns mainGlobals mg) (e : mg "law" = some (.ref f)) : Rz.Given PySem.Challenge.rw_risensigns_k10_book_read 63 6 "_law_script" w mg f h := by
  obtain ⟨K, KX, c⟩ := Y
  have T : Txt PROG K mg := txt_of KX G c
  have e2 := e.symm.trans T.g_law
  cases e2
  obtain ⟨fd, _, F⟩ := ok_law (w := w) (base := h) T
  refine ⟨K, fd, sp_law K, KX, law_binds F, fun H a ns hl hS => law_ok T hS hl fun _ => rfl, fun base _ _ => ?_⟩
  obtain ⟨fd2, G2, F2⟩ := ok_law (w := w) (base := base) T
  cases Rz.fd_one F F2
  exact G2
end Lw
open PySem PySem.W PySem.Calls PyProof.Rows
theorem PySem.Challenge.cw_risensigns_k10_book_read_holds : PySem.Challenge.rw_risensigns_k10_book_read.Holds := by
  w_on; o_law
  refine HandSHeadRun.head_any (r := OpenLaw.row PySem.Challenge.rw_risensigns_k10_book_read) (q := view (OpenLaw.row PySem.Challenge.rw_risensigns_k10_book_read).prog [41]) (H := Lw.hk) (ob := Lw.ob) (M := 6000) (loose := Lw.loose) (d := HandSHeadRun.topDef (OpenLaw.row PySem.Challenge.rw_risensigns_k10_book_read).prog 41) (kwd := []) Lw.ob_eq
    (by kernel_rfl) (fun s => by kernel_rfl) Lw.run (by kernel_rfl) (by kernel_rfl) (by kernel_rfl) (by rfl) (by first | assumption | decide +kernel) (by decide +kernel) ⟨rfl, rfl, rfl, rfl, rfl, by decide +kernel⟩ ?hw ?hc
  case hw => w_witness2
  case hc =>
    refine Rz.endX (l := PySem.Challenge.rw_risensigns_k10_book_read) (n := 63) (k := 6) (x := "_law_script") rfl (by decide) (by kernel_rfl) ⟨rfl, by decide, by decide⟩ ?F
    intro w mg fa h Y G hmg0
    refine Lw.given w mg fa h Y G ?_
    have e : (HandSHeadRun.topDef (OpenLaw.row PySem.Challenge.rw_risensigns_k10_book_read).prog 41).name = ("law" : PySem.Str) := by kernel_rfl
    rw [← e]
    exact hmg0
